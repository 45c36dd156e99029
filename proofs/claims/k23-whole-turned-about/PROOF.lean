import PyProof.Rows.All
import HandS.ForMost
import HandS.Exc
import HandS.TryOnly
import HandS.ExcOwn
import HandS.IsInst
import HandS.Flow
import HandS.TupAny
import HandS.Deep
import HandS.Style
import HandS.Conv
import HandS.More
import HandS.Iter
import HandS.Comp
import KE.GoesMore
import HandS.Strs
import HandS.SortKw
import KE.DatumOrd
import KE.KDictPairs
import HandS.Dict
import HandS.TryMany
import HandS.Text
import HandS.WordsDict
import HandS.Defaults
import HandS.Head2
import HandS.HeadEnd
import HandS.HeadHook1
import HandS.HeadHook2
import HandS.HeadHook3
import HandS.HeadHook4
import PyProof.ExcBaseAll.ValueError
import PySem.Challenge.RW_threelists_k23_whole_turned_about
set_option Elab.async false
set_option linter.all false
set_option maxRecDepth 100000
set_option maxHeartbeats 0
section
/-! MP: a small evaluator for the part of Python that the program uses. Pure; no model in sight. -/
namespace MP

abbrev Txt := List Nat

/-- values that may be shared: lst is a list that is never changed again; ltp: a tuple that enumerate made, of whose object less is known; ctp: a tuple of the module's own; ref: an object of the small heap -/
inductive D where
  | non
  | bl (b : Bool)
  | int (i : Int)
  | str (s : Txt)
  | tup (l : List D)
  | lst (l : List D)
  | ctp (l : List D)
  | ltp (l : List D)
  | ref (n : Nat)

inductive Ky where
  | i (n : Int)
  | s (x : Txt)
deriving DecidableEq

/-- what an expression gives: a value, or a new list, a new dict (owned by nobody yet) -/
inductive Vl where
  | d (x : D)
  | nls (l : List D)
  | ndc (l : List (Ky × D))
  | ndt (l : List (List Ky × D))

inductive O where
  | lst (l : List D)
  | rol (l : List D)
  | dic (l : List (Ky × D))
  | dtu (l : List (List Ky × D))
  | ins (c : Nat) (fs : List (Nat × D))

abbrev Hp := List O
abbrev Env := List (Option D)

inductive R (α : Type) where
  | ok (a : α) (h : Hp)
  | exc (c : Nat) (h : Hp)
  | err

namespace R
def bind {α β : Type} : R α → (α → Hp → R β) → R β
  | ok a h, f => f a h
  | exc c h, _ => exc c h
  | err, _ => err
def of {α : Type} : Option α → Hp → R α
  | some a, h => ok a h
  | none, _ => err
def ofP {α : Type} : Option (α × Hp) → R α
  | some p => ok p.1 p.2
  | none => err
@[simp] theorem of_some {α : Type} (a : α) (h : Hp) : of (some a) h = ok a h := rfl
@[simp] theorem of_none {α : Type} (h : Hp) : of (none : Option α) h = err := rfl
@[simp] theorem ofP_some {α : Type} (p : α × Hp) : ofP (some p) = ok p.1 p.2 := rfl
@[simp] theorem ofP_none {α : Type} : ofP (none : Option (α × Hp)) = err := rfl
@[simp] theorem bind_ok {α β : Type} (a : α) (h : Hp) (f : α → Hp → R β) : (ok a h).bind f = f a h := rfl
@[simp] theorem bind_exc {α β : Type} (c : Nat) (h : Hp) (f : α → Hp → R β) : (exc c h).bind f = exc c h := rfl
@[simp] theorem bind_err {α β : Type} (f : α → Hp → R β) : (err : R α).bind f = err := rfl
end R

inductive RS where
  | nx (ρ : Env) (h : Hp)
  | rt (v : Vl) (h : Hp)
  | bk (ρ : Env) (h : Hp)
  | ct (ρ : Env) (h : Hp)
  | exc (c : Nat) (ρ : Env) (h : Hp)
  | err

inductive Bop where | add | sub | mul | fdv | mod | pow
inductive Cop where | lt | le | gt | ge | eq | ne | isin | notin | isn | notn | isb | notb
inductive Ty where | int | bool | str | tuple | list

inductive Blt where
  | len | isi (t : Ty) | max2 | min2 | maxD | maxL | minL | sorted | tuple | list | dict | dictT | setLen | setSorted | str | int | abs
  | append | extend | insert | pop | popAt | index | get | dpop | items | join | split | partition | startswith | listRange
  | tab (kvs : List (Txt × Int))

inductive Tg where
  | v (i : Nat)
  | t (l : List Tg)

mutual
inductive Ex where
  | var (i : Nat)
  | cst (d : D)
  | glb (x : Nat) (d : D)
  | tup (es : List Ex)
  | lst (es : List Ex)
  | dnew
  | dnewT
  | dsp (ks : List Ky) (es : List Ex)
  | bin (op : Bop) (a b : Ex)
  | neg (a : Ex)
  | not (a : Ex)
  | and (a b : Ex)
  | or (a b : Ex)
  | cmp (op : Cop) (a b : Ex)
  | chn (o1 o2 : Cop) (a b c : Ex)
  | ife (c a b : Ex)
  | sub (a i : Ex)
  | slc (a : Ex) (lo hi : Option Ex)
  | rev (a : Ex)
  | call (pu : Bool) (f : Nat) (es : List Ex)
  | meth (pu : Bool) (c f : Nat) (o : Ex) (es : List Ex)
  | mk (c f : Nat) (es : List Ex)
  | blt (b : Blt) (es : List Ex)
  | mth (b : Blt) (o : Ex) (es : List Ex)
  | att (o : Ex) (f : Nat)
  | comp (own : List Nat) (tg : Tg) (it : It) (cond : Option Ex) (elt : Ex)
inductive It where
  | seq (e : Ex)
  | rng1 (hi : Ex)
  | rng2 (lo hi : Ex)
  | enm (e : Ex)
  | zip (a b : Ex)
end

inductive Stm where
  | asg (al : Bool) (t : Tg) (e : Ex)
  | par (al : Bool) (is : List Nat) (es : List Ex)
  | setI (o i e : Ex)
  | setA (al : Bool) (o : Ex) (f : Nat) (e : Ex)
  | aug (i : Nat) (op : Bop) (e : Ex)
  | exp (e : Ex)
  | ret (e : Ex)
  | retN
  | ifs (c : Ex) (a b : List Stm)
  | fors (t : Tg) (it : It) (b : List Stm)
  | whl (c : Ex) (b : List Stm)
  | rai (c : Nat)
  | tri (kn : List Nat) (b : List Stm) (hs : List (Nat × Stm))
  | pas
  | brk
  | cnt

/-! ### values -/
mutual
/-- no object of the small heap within, at most so deep -/
def nrN : Nat → D → Bool
  | k, .tup l => match k with
    | 0 => false
    | k + 1 => nrL k l
  | k, .ltp l => match k with
    | 0 => false
    | k + 1 => nrL k l
  | k, .lst l => match k with
    | 0 => false
    | k + 1 => nrL k l
  | _, .ref _ => false
  | _, .ctp _ => false
  | _, _ => true
def nrL : Nat → List D → Bool
  | _, [] => true
  | k, d :: r => nrN k d && nrL k r
end
abbrev nr (d : D) : Bool := nrN 64 d

def b2i (b : Bool) : Int := if b then 1 else 0

mutual
/-- Python's == on data -/
def eqD : D → D → Bool
  | .non, .non => true
  | .bl a, .bl b => a == b
  | .bl a, .int j => b2i a == j
  | .int i, .bl b => i == b2i b
  | .int i, .int j => i == j
  | .str x, .str y => x == y
  | .tup l, .tup r => eqL l r
  | .tup l, .ltp r => eqL l r
  | .ltp l, .tup r => eqL l r
  | .ltp l, .ltp r => eqL l r
  | .lst l, .lst r => eqL l r
  | _, _ => false
def eqL : List D → List D → Bool
  | [], [] => true
  | a :: l, b :: r => eqD a b && eqL l r
  | _, _ => false
end

/-- a list's, a tuple's items -/
def seqOf (h : Hp) : Vl → Option (List D)
  | .d (.tup l) => some l
  | .d (.ctp l) => some l
  | .d (.ltp l) => some l
  | .d (.lst l) => some l
  | .nls l => some l
  | .d (.ref n) => match h[n]? with
    | some (.lst l) => some l
    | some (.rol l) => some l
    | _ => none
  | _ => none
/-- of a list alone -/
def lstOf (h : Hp) : Vl → Option (List D)
  | .d (.lst l) => some l
  | .nls l => some l
  | .d (.ref n) => match h[n]? with
    | some (.lst l) => some l
    | _ => none
  | _ => none
def dicOf (h : Hp) : Vl → Option (List (Ky × D))
  | .ndc l => some l
  | .d (.ref n) => match h[n]? with
    | some (.dic l) => some l
    | _ => none
  | _ => none
def dtuOf (h : Hp) : Vl → Option (List (List Ky × D))
  | .ndt l => some l
  | .d (.ref n) => match h[n]? with
    | some (.dtu l) => some l
    | _ => none
  | _ => none
/-- a comparable whole: lists read off the heap -/
def dataOf (h : Hp) : Vl → Option D
  | .d (.ref n) => match h[n]? with
    | some (.lst l) => if nr (.lst l) then some (.lst l) else none
    | _ => none
  | .d x => if nr x then some x else none
  | .nls l => if nr (.lst l) then some (.lst l) else none
  | _ => none
def truth (h : Hp) : Vl → Option Bool
  | .d .non => some false
  | .d (.bl b) => some b
  | .d (.int i) => some (i != 0)
  | .d (.str s) => if s.length ≤ 16777216 then some (!s.isEmpty) else none
  | .ndc l => some (!l.isEmpty)
  | .d (.ref n) => match h[n]? with
    | some (.lst l) => some (!l.isEmpty)
    | some (.dic l) => some (!l.isEmpty)
    | _ => none
  | .d (.tup l) => some (!l.isEmpty)
  | .d (.ltp l) => some (!l.isEmpty)
  | .d (.lst l) => some (!l.isEmpty)
  | .nls l => some (!l.isEmpty)
  | _ => none

/-- a value to be kept within another one, as an argument, at a name: a new list is one that is never changed, a new dict goes to the heap -/
def keep (h : Hp) : Vl → D × Hp
  | .d x => (x, h)
  | .nls l => (.lst l, h)
  | .ndc l => (.ref h.length, h ++ [.dic l])
  | .ndt l => (.ref h.length, h ++ [.dtu l])
/-- at a name whose list is changed later on -/
def alloc (h : Hp) : Vl → D × Hp
  | .nls l => (.ref h.length, h ++ [.lst l])
  | v => keep h v
def keepA (al : Bool) (h : Hp) (v : Vl) : D × Hp := if al then alloc h v else keep h v

/-- lists of code points, in Python's order -/
def ltT : Txt → Txt → Bool
  | _, [] => false
  | [], _ :: _ => true
  | a :: l, b :: r => if a < b then true else if b < a then false else ltT l r

def most : Nat := 16777216

/-! ### operators -/
def addV (h : Hp) : Vl → Vl → Option Vl
  | .d (.int i), .d (.int j) => some (.d (.int (i + j)))
  | .d (.str x), .d (.str y) => if x.length + y.length ≤ most then some (.d (.str (x ++ y))) else none
  | .d (.tup l), .d (.tup r) => if l.length + r.length ≤ most then some (.d (.tup (l ++ r))) else none
  | a, b => match lstOf h a, lstOf h b with
    | some l, some r => if l.length + r.length ≤ most then some (.nls (l ++ r)) else none
    | _, _ => none
def subV : Vl → Vl → Option Vl
  | .d (.int i), .d (.int j) => some (.d (.int (i - j)))
  | _, _ => none
def mulV (h : Hp) : Vl → Vl → Option Vl
  | .d (.int i), .d (.int j) => if j.natAbs < 18446744073709551616 ∨ i.natAbs < 18446744073709551616 then some (.d (.int (i * j))) else none
  | a, .d (.int k) => match lstOf h a with
    | some l => if 0 ≤ k ∧ l.length * k.toNat ≤ most ∧ k ≤ 16777216 then some (.nls (List.replicate k.toNat l).flatten) else none
    | none => none
  | _, _ => none
def fdvV : Vl → Vl → Option Vl
  | .d (.int i), .d (.int j) => if 0 < j ∧ j < 1073741824 then some (.d (.int (i / j))) else none
  | _, _ => none
def modV : Vl → Vl → Option Vl
  | .d (.int i), .d (.int j) => if 0 < j then some (.d (.int (i % j))) else none
  | _, _ => none
def powV : Vl → Vl → Option Vl
  | .d (.int i), .d (.int j) => if 0 ≤ j ∧ j ≤ 1000000 ∧ i.natAbs < 18446744073709551616 then some (.d (.int (i ^ j.toNat))) else none
  | _, _ => none
def binOp (h : Hp) : Bop → Vl → Vl → Option Vl
  | .add, x, y => addV h x y
  | .sub, x, y => subV x y
  | .mul, x, y => mulV h x y
  | .fdv, x, y => fdvV x y
  | .mod, x, y => modV x y
  | .pow, x, y => powV x y

/-- the items that == tells (no list, no tuple): what 'in' and 'index' look at -/
def flat : D → Bool
  | .non => true
  | .bl _ => true
  | .int _ => true
  | .str _ => true
  | _ => false
def hasD (x : D) (l : List D) : Bool := l.any fun y => eqD y x
def kyOf : D → Option Ky
  | .int i => some (.i i)
  | .str s => some (.s s)
  | _ => none
def kysOf : List D → Option (List Ky)
  | [] => some []
  | d :: r => match kyOf d, kysOf r with
    | some k, some ks => some (k :: ks)
    | _, _ => none
/-- x in y -/
def inOp (h : Hp) (x y : Vl) : Option Bool :=
  match y with
  | .d (.str t) => match x with
    | .d (.str [c]) => some (t.contains c)
    | _ => none
  | _ => match seqOf h y with
    | some l => match dataOf h x with
      | some d => if nr (.lst l) then some (hasD d l) else none
      | none => none
    | none => match dicOf h y with
      | some kvs => match x with
        | .d a => (kyOf a).map fun k => kvs.any fun p => decide (p.1 = k)
        | _ => none
      | none => match dtuOf h y with
        | some kvs => match x with
          | .d (.tup l) => (kysOf l).map fun k => kvs.any fun p => decide (p.1 = k)
          | _ => none
        | none => none
def ltV : Vl → Vl → Option Bool
  | .d (.int i), .d (.int j) => some (decide (i < j))
  | .d (.str x), .d (.str y) => some (ltT x y)
  | _, _ => none
def leV : Vl → Vl → Option Bool
  | .d (.int i), .d (.int j) => some (decide (i ≤ j))
  | _, _ => none
def eqVl (h : Hp) (a b : Vl) : Option Bool := match dataOf h a, dataOf h b with
  | some x, some y => some (eqD x y)
  | _, _ => none
def isNon : Vl → Bool
  | .d .non => true
  | _ => false
def blOf : Vl → Option Bool
  | .d (.bl c) => some c
  | _ => none
def cmpOp (h : Hp) : Cop → Vl → Vl → Option Bool
  | .lt, a, b => ltV a b
  | .le, a, b => leV a b
  | .gt, a, b => ltV b a
  | .ge, a, b => leV b a
  | .eq, a, b => eqVl h a b
  | .ne, a, b => (eqVl h a b).map (!·)
  | .isin, a, b => inOp h a b
  | .notin, a, b => (inOp h a b).map (!·)
  | .isn, a, b => if isNon b then some (isNon a) else none
  | .notn, a, b => if isNon b then some (!isNon a) else none
  | .isb, a, b => match blOf a, blOf b with
    | some x, some y => some (decide (x = y))
    | _, _ => none
  | .notb, a, b => match blOf a, blOf b with
    | some x, some y => some (!decide (x = y))
    | _, _ => none

/-! ### subscripts -/
def atIx (n : Nat) (i : Int) : Option Nat :=
  if 0 ≤ i then (if i.toNat < n then some i.toNat else none)
  else if -(n : Int) ≤ i then some (n + i).toNat else none
def lookK {κ : Type} [DecidableEq κ] (k : κ) : List (κ × D) → Option D
  | [] => none
  | (a, v) :: r => if a = k then some v else lookK k r
def subOp (h : Hp) (a i : Vl) : Option Vl :=
  match a with
  | .d (.str t) => match i with
    | .d (.int j) => if t.length ≤ most then (match atIx t.length j with
      | some n => some (.d (.str [t.getD n 0]))
      | none => none) else none
    | _ => none
  | _ => match seqOf h a with
    | some l => match i with
      | .d (.int j) => match atIx l.length j with
        | some n => match l[n]? with
          | some x => some (.d x)
          | none => none
        | none => none
      | _ => none
    | none => match dicOf h a with
      | some kvs => match i with
        | .d x => match kyOf x with
          | some k => match lookK k kvs with
            | some v => some (.d v)
            | none => none
          | none => none
        | _ => none
      | none => match dtuOf h a with
        | some kvs => match i with
          | .d (.tup l) => match kysOf l with
            | some k => match lookK k kvs with
              | some v => some (.d v)
              | none => none
            | none => none
          | _ => none
        | none => none
/-- the bounds of a slice -/
def cutAt (n : Nat) (i : Int) : Nat := if 0 ≤ i then min i.toNat n else (n + i).toNat
def cut {α : Type} (l : List α) (lo hi : Option Int) : List α :=
  let a := match lo with | some i => cutAt l.length i | none => 0
  let b := match hi with | some i => cutAt l.length i | none => l.length
  (l.take b).drop a
def slcOp (h : Hp) (a : Vl) (lo hi : Option Int) : Option Vl :=
  match a with
  | .d (.str t) => if t.length ≤ most then some (.d (.str (cut t lo hi))) else none
  | .d (.tup l) => some (.d (.tup (cut l lo hi)))
  | _ => match lstOf h a with
    | some l => some (.nls (cut l lo hi))
    | none => none


/-! ### built-ins -/
def isiV (h : Hp) (t : Ty) : Vl → Option Bool
  | .d .non => some false
  | .d (.bl _) => some (match t with | .int => true | .bool => true | _ => false)
  | .d (.int _) => some (match t with | .int => true | _ => false)
  | .d (.str _) => some (match t with | .str => true | _ => false)
  | .d (.tup _) => some (match t with | .tuple => true | _ => false)
  | .d (.ltp _) => some (match t with | .tuple => true | _ => false)
  | .d (.lst _) => some (match t with | .list => true | _ => false)
  | .nls _ => some (match t with | .list => true | _ => false)
  | .d (.ref n) => match h[n]? with
    | some (.lst _) => some (match t with | .list => true | _ => false)
    | _ => none
  | _ => none
def intsOf : List D → Option (List Int)
  | [] => some []
  | .int i :: r => (intsOf r).map (i :: ·)
  | _ :: _ => none
def strsOf : List D → Option (List Txt)
  | [] => some []
  | .str i :: r => (strsOf r).map (i :: ·)
  | _ :: _ => none
def maxI : Int → List Int → Int
  | m, [] => m
  | m, i :: r => maxI (if m < i then i else m) r
def minI : Int → List Int → Int
  | m, [] => m
  | m, i :: r => minI (if i < m then i else m) r
def minT : Txt → List Txt → Txt
  | m, [] => m
  | m, i :: r => minT (if ltT i m then i else m) r
def pairsOf : List D → Option (List (Ky × D))
  | [] => some []
  | .tup [k, v] :: r => match kyOf k, pairsOf r with
    | some a, some b => some ((a, v) :: b)
    | _, _ => none
  | _ :: _ => none
def putK {κ : Type} [DecidableEq κ] (k : κ) (v : D) (l : List (κ × D)) : List (κ × D) :=
  if (l.any fun p => decide (p.1 = k)) = true then l.map (fun p => if p.1 = k then (p.1, v) else p) else l ++ [(k, v)]
def dropK {κ : Type} [DecidableEq κ] (k : κ) (l : List (κ × D)) : List (κ × D) := l.filter fun p => decide (p.1 ≠ k)
def mergeK {κ : Type} [DecidableEq κ] : List (κ × D) → List (κ × D) → List (κ × D)
  | acc, [] => acc
  | acc, (k, v) :: r => mergeK (putK k v acc) r
def distinct : List Txt → List Txt
  | [] => []
  | x :: r => if r.contains x then distinct r else x :: distinct r
def joinT (sep : Txt) : List Txt → Txt
  | [] => []
  | [x] => x
  | x :: y :: r => x ++ sep ++ joinT sep (y :: r)
/-- the first place of an item -/
def indexD (x : D) : List D → Option Nat
  | [] => none
  | y :: r => if eqD y x then some 0 else (indexD x r).map (· + 1)
def insertAt {α : Type} (l : List α) (i : Nat) (x : α) : List α := l.take i ++ x :: l.drop i
def kyD : Ky → D
  | .i n => .int n
  | .s x => .str x

/-- what a method's object must be -/
def rcv (h : Hp) : Blt → Vl → Bool
  | .append, x => (lstOf h x).isSome
  | .extend, x => (lstOf h x).isSome
  | .insert, x => (lstOf h x).isSome
  | .pop, x => (lstOf h x).isSome
  | .popAt, x => (lstOf h x).isSome
  | .index, x => (lstOf h x).isSome
  | .get, x => (dicOf h x).isSome
  | .dpop, x => (dicOf h x).isSome
  | .items, x => (dicOf h x).isSome
  | .join, .d (.str _) => true
  | .split, .d (.str _) => true
  | .partition, .d (.str _) => true
  | .startswith, .d (.str _) => true
  | _, _ => false
def bLen (h : Hp) : List Vl → Option (Vl × Hp)
  | [.d (.str s)] => if s.length ≤ most then some ((.d (.int s.length)), h) else none
  | [v] => match seqOf h v with
    | some l => some ((.d (.int l.length)), h)
    | none => match dicOf h v with
      | some l => some ((.d (.int l.length)), h)
      | none => none
  | _ => none
def bIsi (t : Ty) (h : Hp) : List Vl → Option (Vl × Hp)
  | [v] => match isiV h t v with
    | some b => some ((.d (.bl b)), h)
    | none => none
  | _ => none
def bMax2 (h : Hp) : List Vl → Option (Vl × Hp)
  | [.d (.int i), .d (.int j)] => some ((.d (.int (if i < j then j else i))), h)
  | _ => none
def bMin2 (h : Hp) : List Vl → Option (Vl × Hp)
  | [.d (.int i), .d (.int j)] => some ((.d (.int (if j < i then j else i))), h)
  | _ => none
def bMaxD (h : Hp) : List Vl → Option (Vl × Hp)
  | [v, .d (.int k)] => match (lstOf h v).bind intsOf with
    | some [] => some ((.d (.int k)), h)
    | some (i :: r) => some ((.d (.int (maxI i r))), h)
    | none => none
  | _ => none
def bMaxL (h : Hp) : List Vl → Option (Vl × Hp)
  | [v] => match (lstOf h v).bind intsOf with
    | some (i :: r) => some ((.d (.int (maxI i r))), h)
    | _ => none
  | _ => none
def bMinL (h : Hp) : List Vl → Option (Vl × Hp)
  | [v] => match (lstOf h v).bind intsOf with
    | some (i :: r) => some ((.d (.int (minI i r))), h)
    | _ => match (lstOf h v).bind strsOf with
      | some (i :: r) => some ((.d (.str (minT i r))), h)
      | _ => none
  | _ => none
def bTuple (h : Hp) : List Vl → Option (Vl × Hp)
  | [.d (.tup l)] => some ((.d (.tup l)), h)
  | [v] => match lstOf h v with
    | some l => some ((.d (.tup l)), h)
    | none => none
  | _ => none
def bList (h : Hp) : List Vl → Option (Vl × Hp)
  | [v] => match seqOf h v with
    | some l => if l.length ≤ most then some ((.nls l), h) else none
    | none => match dicOf h v with
      | some l => if l.length ≤ most then some ((.nls (l.map fun p => kyD p.1)), h) else none
      | none => none
  | _ => none
def bListRange (h : Hp) : List Vl → Option (Vl × Hp)
  | [.d (.int n)] => if n ≤ 16777216 ∧ -16777216 ≤ n then some ((.nls ((List.range n.toNat).map fun (i : Nat) => D.int i)), h) else none
  | _ => none
/-- what dict() takes -/
def dcOf (h : Hp) : Vl → Option (List D)
  | .d (.tup l) => some l
  | v => lstOf h v
def bDict (h : Hp) : List Vl → Option (Vl × Hp)
  | [v] => match (dcOf h v).bind pairsOf with
    | some l => some ((.ndc (mergeK [] l)), h)
    | none => none
  | _ => none
def bSetLen (h : Hp) : List Vl → Option (Vl × Hp)
  | [v] => match (lstOf h v).bind strsOf with
    | some l => if l.length ≤ 4000 then some ((.d (.int (distinct l).length)), h) else none
    | none => none
  | _ => none
def bAppend (fl : Nat) (h : Hp) : List Vl → Option (Vl × Hp)
  | [.d (.ref n), x] => if n < fl then none else match h[n]? with
    | some (.lst l) => if l.length < most then some ((.d .non), ((keep h x).2.set n (.lst (l ++ [(keep h x).1])))) else none
    | _ => none
  | _ => none
def bInsert (fl : Nat) (h : Hp) : List Vl → Option (Vl × Hp)
  | [.d (.ref n), .d (.int i), x] => if n < fl then none else match h[n]? with
    | some (.lst l) => if l.length < most ∧ 0 ≤ i ∧ i ≤ l.length then some ((.d .non), ((keep h x).2.set n (.lst (insertAt l i.toNat (keep h x).1)))) else none
    | _ => none
  | _ => none
def bPopAt (fl : Nat) (h : Hp) : List Vl → Option (Vl × Hp)
  | [.d (.ref n), .d (.int i)] => if n < fl then none else match h[n]? with
    | some (.lst l) => if l.length ≤ most then (match atIx l.length i with
      | some k => match l[k]? with
        | some x => some ((.d x), (h.set n (.lst (l.eraseIdx k))))
        | none => none
      | none => none) else none
    | _ => none
  | _ => none
def bExtend (fl : Nat) (h : Hp) : List Vl → Option (Vl × Hp)
  | [.d (.ref n), v] => if n < fl then none else match h[n]? with
    | some (.lst l) => match lstOf h v with
      | some r => if l.length + r.length ≤ most then some ((.d .non), (h.set n (.lst (l ++ r)))) else none
      | none => none
    | _ => none
  | _ => none
def bIndex (fl : Nat) (h : Hp) : List Vl → Option (Vl × Hp)
  | [v, x] => match lstOf h v with
    | some l => match dataOf h x with
      | some y => if flat y && l.all flat then (match indexD y l with
        | some k => some ((.d (.int k)), h)
        | none => none) else none
      | none => none
    | none => none
  | _ => none
def bGet (h : Hp) : List Vl → Option (Vl × Hp)
  | [v, .d k, x] => match dicOf h v with
    | some kvs => match kyOf k with
      | some a => match lookK a kvs with
        | some y => some ((.d y), h)
        | none => some ((.d (keep h x).1), (keep h x).2)
      | none => none
    | none => none
  | _ => none
def bJoin (h : Hp) : List Vl → Option (Vl × Hp)
  | [.d (.str s), v] => match (seqOf h v).bind strsOf with
    | some l => if (l.map List.length).sum + l.length * s.length ≤ most then some ((.d (.str (joinT s l))), h) else none
    | none => none
  | _ => none
def bTab (kvs : List (Txt × Int)) (h : Hp) : List Vl → Option (Vl × Hp)
  | [.d (.str k), .d (.int x)] => some ((.d (.int ((kvs.lookup k).getD x))), h)
  | _ => none
def bInt (h : Hp) : List Vl → Option (Vl × Hp)
  | [.d (.int i)] => some ((.d (.int i)), h)
  | [.d (.bl b)] => some ((.d (.int (b2i b))), h)
  | _ => none
def bltOp (fl : Nat) (h : Hp) : Blt → List Vl → Option (Vl × Hp)
  | .len, l => bLen h l
  | .isi t, l => bIsi t h l
  | .max2, l => bMax2 h l
  | .min2, l => bMin2 h l
  | .maxD, l => bMaxD h l
  | .maxL, l => bMaxL h l
  | .minL, l => bMinL h l
  | .tuple, l => bTuple h l
  | .list, l => bList h l
  | .listRange, l => bListRange h l
  | .dict, l => bDict h l
  | .setLen, l => bSetLen h l
  | .append, l => bAppend fl h l
  | .insert, l => bInsert fl h l
  | .popAt, l => bPopAt fl h l
  | .extend, l => bExtend fl h l
  | .index, l => bIndex fl h l
  | .get, l => bGet h l
  | .join, l => bJoin h l
  | .tab kvs, l => bTab kvs h l
  | .int, l => bInt h l
  | _, _ => none

/-! ### the evaluator -/
/-- what a level of calls knows: whether the call goes one level lower (an object's making), the def's number, its arguments, the floor (objects below are not changed), the heap -/
abbrev Fns := Bool → Nat → List D → Nat → Hp → R Vl

/-- a def that changes nothing that was there: its own objects are forgotten behind it -/
def outV (n0 : Nat) (h : Hp) : Vl → Option Vl
  | .d (.ref n) => if n < n0 then some (.d (.ref n)) else match h[n]? with
    | some (.lst l) => if nr (.lst l) then some (.nls l) else none
    | some (.dic l) => if l.all fun p => nr p.2 then some (.ndc l) else none
    | some (.dtu l) => if l.all fun p => nr p.2 then some (.ndt l) else none
    | _ => none
  | .d x => if nr x then some (.d x) else none
  | .nls l => if nr (.lst l) then some (.nls l) else none
  | .ndc l => if l.all fun p => nr p.2 then some (.ndc l) else none
  | .ndt l => if l.all fun p => nr p.2 then some (.ndt l) else none
def callP (G : Fns) (f : Nat) (as : List D) (h : Hp) : R Vl := match G false f as h.length h with
  | .ok v h' => match outV h.length h' v with
    | some w => .ok w h
    | none => .err
  | .exc c _ => .exc c h
  | .err => .err
def callA (G : Fns) (pu : Bool) (f : Nat) (as : List D) (fl : Nat) (h : Hp) : R Vl := if pu then callP G f as h else G false f as fl h

def wipe (ρ : Env) : List Nat → Env
  | [] => ρ
  | v :: vs => (wipe ρ vs).set v none
mutual
/-- a target takes a value; lists of the heap are read -/
def bindT (h : Hp) : Tg → D → Env → Option Env
  | .v i, d, ρ => if i < ρ.length then some (ρ.set i (some d)) else none
  | .t ts, d, ρ => match seqOf h (.d d) with
    | some l => bindTs h ts l ρ
    | none => none
def bindTs (h : Hp) : List Tg → List D → Env → Option Env
  | [], [], ρ => some ρ
  | t :: ts, d :: ds, ρ => match bindT h t d ρ with
    | some ρ' => bindTs h ts ds ρ'
    | none => none
  | _, _, _ => none
end
/-- what a loop walks: items that stay, or the list at n as it stands at each turn -/
inductive Src where
  | fix (l : List D)
  | live (n k : Nat)

def itemAt (h : Hp) (n k i : Nat) : Option D := match h[n]? with
  | some (.lst l) => if l.length = k then l[i]? else none
  | _ => none
def stillAt (h : Hp) (n k : Nat) : Bool := match h[n]? with
  | some (.lst l) => l.length == k
  | _ => false

def addO (acc : List D) : Option D → List D
  | some y => acc ++ [y]
  | none => acc
/-- a comprehension's turns -/
def compFix (step : D → Hp → R (Option D)) : List D → List D → Hp → R (List D)
  | [], acc, h => .ok acc h
  | x :: r, acc, h => match step x h with
    | .ok y h => compFix step r (addO acc y) h
    | _ => .err
def compLive (step : D → Hp → R (Option D)) (n k : Nat) : Nat → Nat → List D → Hp → R (List D)
  | 0, _, acc, h => if stillAt h n k then .ok acc h else .err
  | m + 1, i, acc, h => match itemAt h n k i with
    | some x => match step x h with
      | .ok y h => compLive step n k m (i + 1) (addO acc y) h
      | _ => .err
    | none => .err
def compGo (step : D → Hp → R (Option D)) : Src → Hp → R (List D)
  | .fix l, h => compFix step l [] h
  | .live n k, h => compLive step n k k 0 [] h
def enumD (l : List D) : List D := (List.range l.length).zipWith (fun (i : Nat) x => D.ltp [.int i, x]) l
def zipD (l r : List D) : List D := l.zipWith (fun x y => D.ltp [x, y]) r
def rngD (lo : Int) (n : Nat) : List D := (List.range n).map fun (i : Nat) => D.int (lo + i)
def srcOf (h : Hp) : Vl → Option Src
  | .d (.tup l) => some (.fix l)
  | .d (.ltp l) => some (.fix l)
  | .d (.lst l) => some (.fix l)
  | .nls l => some (.fix l)
  | .d (.str s) => if s.length ≤ most then some (.fix (s.map fun c => .str [c])) else none
  | .d (.ref n) => match h[n]? with
    | some (.lst l) => some (.live n l.length)
    | _ => none
  | _ => none

mutual
def ev (G : Fns) (fl : Nat) : Ex → Env → Hp → R Vl
  | .var i, ρ, h => match ρ[i]? with
    | some (some d) => .ok (.d d) h
    | _ => .err
  | .cst d, _, h => .ok (.d d) h
  | .glb _ d, _, h => .ok (.d d) h
  | .tup es, ρ, h => (evL G fl es ρ h).bind fun l h => .ok (.d (.tup l)) h
  | .lst es, ρ, h => (evL G fl es ρ h).bind fun l h => .ok (.nls l) h
  | .dnew, _, h => .ok (.ndc []) h
  | .dnewT, _, h => .ok (.ndt []) h
  | .dsp ks es, ρ, h => (evL G fl es ρ h).bind fun l h => .ok (.ndc (mergeK [] (ks.zip l))) h
  | .bin op a b, ρ, h => (ev G fl a ρ h).bind fun x h => (ev G fl b ρ h).bind fun y h => R.of (binOp h op x y) h
  | .neg a, ρ, h => (ev G fl a ρ h).bind fun x h => match x with
    | .d (.int i) => .ok (.d (.int (-i))) h
    | _ => .err
  | .not a, ρ, h => (ev G fl a ρ h).bind fun x h => match truth h x with
    | some b => .ok (.d (.bl (!b))) h
    | none => .err
  | .and a b, ρ, h => (ev G fl a ρ h).bind fun x h => match x with
    | .d (.bl true) => ev G fl b ρ h
    | .d (.bl false) => .ok (.d (.bl false)) h
    | _ => .err
  | .or a b, ρ, h => (ev G fl a ρ h).bind fun x h => match x with
    | .d (.bl true) => .ok (.d (.bl true)) h
    | .d (.bl false) => ev G fl b ρ h
    | _ => .err
  | .cmp op a b, ρ, h => (ev G fl a ρ h).bind fun x h => (ev G fl b ρ h).bind fun y h => match cmpOp h op x y with
    | some k => .ok (.d (.bl k)) h
    | none => .err
  | .chn o1 o2 a b c, ρ, h => (ev G fl a ρ h).bind fun x h => (ev G fl b ρ h).bind fun y h => match cmpOp h o1 x y with
    | some false => .ok (.d (.bl false)) h
    | some true => (ev G fl c ρ h).bind fun z h => match cmpOp h o2 y z with
      | some k => .ok (.d (.bl k)) h
      | none => .err
    | none => .err
  | .ife c a b, ρ, h => (evT G fl c ρ h).bind fun k h => if k then ev G fl a ρ h else ev G fl b ρ h
  | .sub a i, ρ, h => (ev G fl a ρ h).bind fun x h => (ev G fl i ρ h).bind fun y h => R.of (subOp h x y) h
  | .slc a lo hi, ρ, h => (ev G fl a ρ h).bind fun x h => (evO G fl lo ρ h).bind fun i h => (evO G fl hi ρ h).bind fun j h => R.of (slcOp h x i j) h
  | .rev a, ρ, h => (ev G fl a ρ h).bind fun x h => match lstOf h x with
    | some l => .ok (.nls l.reverse) h
    | none => .err
  | .call pu f es, ρ, h => (evL G fl es ρ h).bind fun l h => callA G pu f l fl h
  | .meth pu c f o es, ρ, h => (ev G fl o ρ h).bind fun x h => match x with
    | .d (.ref n) => match h[n]? with
      | some (.ins k _) => if k = c then (evL G fl es ρ h).bind fun l h => callA G pu f (.ref n :: l) fl h else .err
      | _ => .err
    | _ => .err
  | .mk c f es, ρ, h => (evL G fl es ρ h).bind fun l h => match G true f (.ref h.length :: l) fl (h ++ [.ins c []]) with
    | .ok (.d .non) h' => .ok (.d (.ref h.length)) h'
    | _ => .err
  | .blt b es, ρ, h => (evV G fl es ρ h).bind fun l h => R.ofP (bltOp fl h b l)
  | .mth b o es, ρ, h => (ev G fl o ρ h).bind fun x h => if rcv h b x then (evV G fl es ρ h).bind fun l h => R.ofP (bltOp fl h b (x :: l)) else .err
  | .att o f, ρ, h => (ev G fl o ρ h).bind fun x h => match x with
    | .d (.ref n) => match h[n]? with
      | some (.ins _ fs) => match fs.lookup f with
        | some d => .ok (.d d) h
        | none => .err
      | _ => .err
    | _ => .err
  | .comp own tg it cond elt, ρ, h => (evI G fl it ρ h).bind fun s h => (compGo (fun x h => match bindT h tg x (wipe ρ own) with
      | some ρ' => (evC G fl cond ρ' h).bind fun k h => if k then (ev G fl elt ρ' h).bind fun y h => .ok (some (keep h y).1) (keep h y).2 else .ok none h
      | none => .err) s h).bind fun l h => .ok (.nls l) h
/-- as a test -/
def evT (G : Fns) (fl : Nat) : Ex → Env → Hp → R Bool
  | .not a, ρ, h => (evT G fl a ρ h).bind fun b h => .ok (!b) h
  | .and a b, ρ, h => (evT G fl a ρ h).bind fun k h => if k then evT G fl b ρ h else .ok false h
  | .or a b, ρ, h => (evT G fl a ρ h).bind fun k h => if k then .ok true h else evT G fl b ρ h
  | .var i, ρ, h => match ρ[i]? with
    | some (some d) => match truth h (.d d) with
      | some b => .ok b h
      | none => .err
    | _ => .err
  | .cmp op a b, ρ, h => (ev G fl a ρ h).bind fun x h => (ev G fl b ρ h).bind fun y h => match cmpOp h op x y with
    | some k => .ok k h
    | none => .err
  | .chn o1 o2 a b c, ρ, h => (ev G fl a ρ h).bind fun x h => (ev G fl b ρ h).bind fun y h => match cmpOp h o1 x y with
    | some false => .ok false h
    | some true => (ev G fl c ρ h).bind fun z h => match cmpOp h o2 y z with
      | some k => .ok k h
      | none => .err
    | none => .err
  | .call pu f es, ρ, h => (evL G fl es ρ h).bind fun l h => (callA G pu f l fl h).bind fun x h => match truth h x with
    | some b => .ok b h
    | none => .err
  | .meth pu c f o es, ρ, h => (ev G fl o ρ h).bind fun x h => match x with
    | .d (.ref n) => match h[n]? with
      | some (.ins k _) => if k = c then (evL G fl es ρ h).bind fun l h => (callA G pu f (.ref n :: l) fl h).bind fun x h => match truth h x with
          | some b => .ok b h
          | none => .err
        else .err
      | _ => .err
    | _ => .err
  | .blt b es, ρ, h => (evV G fl es ρ h).bind fun l h => (R.ofP (bltOp fl h b l)).bind fun x h => match truth h x with
    | some b => .ok b h
    | none => .err
  | .mth b o es, ρ, h => (ev G fl o ρ h).bind fun x h => if rcv h b x then (evV G fl es ρ h).bind fun l h => (R.ofP (bltOp fl h b (x :: l))).bind fun x h => match truth h x with
      | some b => .ok b h
      | none => .err
    else .err
  | .att o f, ρ, h => (ev G fl o ρ h).bind fun x h => match x with
    | .d (.ref n) => match h[n]? with
      | some (.ins _ fs) => match fs.lookup f with
        | some d => match truth h (.d d) with
          | some b => .ok b h
          | none => .err
        | none => .err
      | _ => .err
    | _ => .err
  | .comp own tg it cond elt, ρ, h => (evI G fl it ρ h).bind fun s h => (compGo (fun x h => match bindT h tg x (wipe ρ own) with
      | some ρ' => (evC G fl cond ρ' h).bind fun k h => if k then (ev G fl elt ρ' h).bind fun y h => .ok (some (keep h y).1) (keep h y).2 else .ok none h
      | none => .err) s h).bind fun l h => .ok (!l.isEmpty) h
  | _, _, _ => .err
/-- arguments, items: kept -/
def evL (G : Fns) (fl : Nat) : List Ex → Env → Hp → R (List D)
  | [], _, h => .ok [] h
  | e :: es, ρ, h => (ev G fl e ρ h).bind fun x h => (evL G fl es ρ (keep h x).2).bind fun l h' => .ok ((keep h x).1 :: l) h'
/-- a built-in's arguments -/
def evV (G : Fns) (fl : Nat) : List Ex → Env → Hp → R (List Vl)
  | [], _, h => .ok [] h
  | e :: es, ρ, h => (ev G fl e ρ h).bind fun x h => (evV G fl es ρ h).bind fun l h => .ok (x :: l) h
def evO (G : Fns) (fl : Nat) : Option Ex → Env → Hp → R (Option Int)
  | none, _, h => .ok none h
  | some e, ρ, h => (ev G fl e ρ h).bind fun x h => match x with
    | .d (.int i) => .ok (some i) h
    | _ => .err
def evC (G : Fns) (fl : Nat) : Option Ex → Env → Hp → R Bool
  | none, _, h => .ok true h
  | some e, ρ, h => evT G fl e ρ h
def evI (G : Fns) (fl : Nat) : It → Env → Hp → R Src
  | .seq e, ρ, h => (ev G fl e ρ h).bind fun x h => match srcOf h x with
    | some s => .ok s h
    | none => .err
  | .rng1 e, ρ, h => (ev G fl e ρ h).bind fun x h => match x with
    | .d (.int n) => if n ≤ 16777216 ∧ -16777216 ≤ n then .ok (.fix (rngD 0 n.toNat)) h else .err
    | _ => .err
  | .rng2 a b, ρ, h => (ev G fl a ρ h).bind fun x h => (ev G fl b ρ h).bind fun y h => match x, y with
    | .d (.int i), .d (.int j) => if i ≤ 16777216 ∧ -16777216 ≤ i ∧ j ≤ 16777216 ∧ -16777216 ≤ j ∧ j - i ≤ 16777216 then .ok (.fix (rngD i (j - i).toNat)) h else .err
    | _, _ => .err
  | .enm e, ρ, h => (ev G fl e ρ h).bind fun x h => match x with
    | .d (.ref _) => .err
    | .d (.ctp _) => .err
    | _ => match seqOf h x with
      | some l => .ok (.fix (enumD l)) h
      | none => .err
  | .zip a b, ρ, h => (ev G fl a ρ h).bind fun x h => (ev G fl b ρ h).bind fun y h => match x, y with
    | .d (.ref _), _ => .err
    | _, .d (.ref _) => .err
    | _, _ => match lstOf h x, lstOf h y with
      | some l, some r => if l.length = r.length then .ok (.fix (zipD l r)) h else .err
      | _, _ => .err
end

/-! ### statements -/
def RS.seq : RS → (Env → Hp → RS) → RS
  | .nx ρ h, f => f ρ h
  | r, _ => r
def R.st {α : Type} (ρ : Env) : R α → (α → Hp → RS) → RS
  | .ok a h, f => f a h
  | .exc c h, _ => .exc c ρ h
  | .err, _ => .err
@[simp] theorem RS.seq_nx (ρ : Env) (h : Hp) (f : Env → Hp → RS) : (RS.nx ρ h).seq f = f ρ h := rfl
@[simp] theorem R.st_ok {α : Type} (ρ : Env) (a : α) (h : Hp) (f : α → Hp → RS) : (R.ok a h).st ρ f = f a h := rfl
@[simp] theorem R.st_exc {α : Type} (ρ : Env) (c : Nat) (h : Hp) (f : α → Hp → RS) : (R.exc c h : R α).st ρ f = .exc c ρ h := rfl
/-- behind a turn -/
def RS.turn : RS → (Env → Hp → RS) → RS
  | .nx ρ h, f => f ρ h
  | .ct ρ h, f => f ρ h
  | .bk ρ h, _ => .nx ρ h
  | r, _ => r
@[simp] theorem RS.turn_nx (ρ : Env) (h : Hp) (f : Env → Hp → RS) : (RS.nx ρ h).turn f = f ρ h := rfl
@[simp] theorem RS.turn_ct (ρ : Env) (h : Hp) (f : Env → Hp → RS) : (RS.ct ρ h).turn f = f ρ h := rfl
@[simp] theorem RS.turn_bk (ρ : Env) (h : Hp) (f : Env → Hp → RS) : (RS.bk ρ h).turn f = .nx ρ h := rfl
@[simp] theorem RS.turn_rt (v : Vl) (h : Hp) (f : Env → Hp → RS) : (RS.rt v h).turn f = .rt v h := rfl
def forFix (t : Tg) (body : Env → Hp → RS) : List D → Env → Hp → RS
  | [], ρ, h => .nx ρ h
  | x :: r, ρ, h => match bindT h t x ρ with
    | some ρ' => (body ρ' h).turn fun ρ h => forFix t body r ρ h
    | none => .err
def forLive (t : Tg) (body : Env → Hp → RS) (n k : Nat) : Nat → Nat → Env → Hp → RS
  | 0, _, ρ, h => if stillAt h n k then .nx ρ h else .err
  | m + 1, i, ρ, h => match itemAt h n k i with
    | some x => match bindT h t x ρ with
      | some ρ' => (body ρ' h).turn fun ρ h => forLive t body n k m (i + 1) ρ h
      | none => .err
    | none => .err
def forGo (t : Tg) (body : Env → Hp → RS) : Src → Env → Hp → RS
  | .fix l, ρ, h => forFix t body l ρ h
  | .live n k, ρ, h => forLive t body n k k 0 ρ h
def whlGo (test : Env → Hp → R Bool) (body : Env → Hp → RS) : Nat → Env → Hp → RS
  | 0, _, _ => .err
  | m + 1, ρ, h => (test ρ h).st ρ fun k h => if k then (body ρ h).turn fun ρ h => whlGo test body m ρ h else .nx ρ h
/-- an exception's class is the clause's, or under it (0: the base of all) -/
def under (c k : Nat) : Bool := c == k || k == 0

mutual
def ex (G : Fns) (fl : Nat) : Stm → Env → Hp → RS
  | .asg al t e, ρ, h => (ev G fl e ρ h).st ρ fun v h => match t with
    | .v i => if i < ρ.length then .nx (ρ.set i (some (keepA al h v).1)) (keepA al h v).2 else .err
    | .t ts => match seqOf h v with
      | some l => match bindTs h ts l ρ with
        | some ρ' => .nx ρ' h
        | none => .err
      | none => .err
  | .par al is es, ρ, h => match is, es with
    | [i, j], [a, b] => (ev G fl a ρ h).st ρ fun x h => (ev G fl b ρ (keepA al h x).2).st ρ fun y h' =>
        if i ≠ j ∧ i < ρ.length ∧ j < ρ.length then .nx ((ρ.set i (some (keepA al h x).1)).set j (some (keepA al h' y).1)) (keepA al h' y).2 else .err
    | _, _ => .err
  | .setI o i e, ρ, h => (ev G fl e ρ h).st ρ fun v h => (ev G fl o ρ h).st ρ fun x h => (ev G fl i ρ h).st ρ fun j h => match x with
    | .d (.ref n) => if n < fl then .err else match h[n]? with
      | some (.lst l) => match j with
        | .d (.int k) => match atIx l.length k with
          | some p => .nx ρ ((keep h v).2.set n (.lst (l.set p (keep h v).1)))
          | none => .err
        | _ => .err
      | some (.dic l) => match j with
        | .d k => match kyOf k with
          | some a => if l.length < most then .nx ρ ((keep h v).2.set n (.dic (putK a (keep h v).1 l))) else .err
          | none => .err
        | _ => .err
      | _ => .err
    | _ => .err
  | .setA al o f e, ρ, h => (ev G fl e ρ h).st ρ fun v h => (ev G fl o ρ h).st ρ fun x h => match x with
    | .d (.ref n) => if n < fl then .err else match h[n]? with
      | some (.ins c fs) => if fs.length < 1000 then .nx ρ ((keepA al h v).2.set n (.ins c (putK f (keepA al h v).1 fs))) else .err
      | _ => .err
    | _ => .err
  | .aug i op e, ρ, h => match ρ[i]? with
    | some (some d) => (ev G fl e ρ h).st ρ fun v h => (match d, v, op with
      | .int a, .d (.int b), .add => .nx (ρ.set i (some (.int (a + b)))) h
      | .int a, .d (.int b), .sub => .nx (ρ.set i (some (.int (a - b)))) h
      | _, _, _ => .err)
    | _ => .err
  | .exp e, ρ, h => (ev G fl e ρ h).st ρ fun _ h => .nx ρ h
  | .ret e, ρ, h => (ev G fl e ρ h).st ρ fun v h => .rt v h
  | .retN, _, h => .rt (.d .non) h
  | .ifs c a b, ρ, h => (evT G fl c ρ h).st ρ fun k h => if k then exs G fl a ρ h else exs G fl b ρ h
  | .fors t it b, ρ, h => (evI G fl it ρ h).st ρ fun s h => forGo t (fun ρ h => exs G fl b ρ h) s ρ h
  | .whl c b, ρ, h => whlGo (fun ρ h => evT G fl c ρ h) (fun ρ h => exs G fl b ρ h) 100000 ρ h
  | .rai c, ρ, h => .exc c ρ h
  | .tri kn b hs, ρ, h => match exs G fl b ρ h with
    | .exc c ρ h => if kn.contains c then exH G fl hs c ρ h else .err
    | r => r
  | .pas, ρ, h => .nx ρ h
  | .brk, ρ, h => .bk ρ h
  | .cnt, ρ, h => .ct ρ h
def exs (G : Fns) (fl : Nat) : List Stm → Env → Hp → RS
  | [], ρ, h => .nx ρ h
  | s :: r, ρ, h => (ex G fl s ρ h).seq fun ρ h => exs G fl r ρ h
/-- the first clause that takes it -/
def exH (G : Fns) (fl : Nat) : List (Nat × Stm) → Nat → Env → Hp → RS
  | [], c, ρ, h => .exc c ρ h
  | (k, s) :: r, c, ρ, h => if under c k then ex G fl s ρ h else exH G fl r c ρ h
end

/-- a def: how many names, parameters, its body -/
structure Def where
  names : Nat
  params : Nat
  body : List Stm
def start (n : Nat) (as : List D) : Env := as.map some ++ List.replicate (n - as.length) none
def runDef (G : Fns) (d : Def) (as : List D) (fl : Nat) (h : Hp) : R Vl :=
  if as.length = d.params then match exs G fl d.body (start d.names as) h with
    | .nx _ h => .ok (.d .non) h
    | .rt v h => .ok v h
    | .exc c _ h => .exc c h
    | _ => .err
  else .err
/-- calls of at most n levels -/
def lev (P : Nat → Option Def) : Nat → Fns
  | 0 => fun _ _ _ _ _ => .err
  | n + 1 => fun b f as fl h => if b then lev P n false f as fl h else match P f with
    | some d => runDef (lev P n) d as fl h
    | none => .err

end MP
end
section
set_option Elab.async false
set_option linter.all false
set_option maxRecDepth 100000
set_option maxHeartbeats 4000000
namespace MPS
open PySem PySem.Spec PyProof.Rows L2

/-- a text of the small evaluator as the model has it -/
def tx (t : MP.Txt) : Str := ⟨t.toArray⟩
theorem tx_inj {a b : MP.Txt} (h : tx a = tx b) : a = b := by
  have := congrArg (fun s : Str => s.cps.toList) h
  simpa [tx] using this

/-! ### how a value stands for another one -/
section
variable (K : PySem.W.Frag) (F : L2.Hp) (m : List Addr)
mutual
def Rep : MP.D → V → Prop
  | .non, v => v = .non
  | .bl b, v => v = .bl b
  | .int i, v => v = .int i
  | .str t, v => v = .str (tx t) ∧ ∀ c ∈ t, c < 1114112
  | .ltp ds, v => ∃ a vs, v = .ref a ∧ F a = some (.tup vs) ∧ Reps ds vs
  | .ctp ds, v => ∃ a vs, v = .ref a ∧ (SqL K F a vs ∨ SqT K F a vs) ∧ Reps ds vs
  | .tup ds, v => ∃ a vs, v = .ref a ∧ (∃ o, F a = some (.frz o (.tup vs)) ∧ o.dict = none) ∧ Reps ds vs
  | .lst ds, v => ∃ a vs, v = .ref a ∧ F a = some (.lst vs) ∧ Reps ds vs
  | .ref n, v => ∃ a, m[n]? = some a ∧ v = .ref a
def Reps : List MP.D → List V → Prop
  | [], vs => vs = []
  | d :: ds, vs => ∃ v r, vs = v :: r ∧ Rep d v ∧ Reps ds r
end
def kyV : MP.Ky → Key
  | .i n => .inl n
  | .s t => .inr (tx t)
def kyOk : MP.Ky → Prop
  | .i _ => True
  | .s t => ∀ c ∈ t, c < 1114112
def kysOk (l : List MP.Ky) : Prop := ∀ k ∈ l, kyOk k
def RepK {κ κ' : Type} (f : κ → κ') (ok : κ → Prop) : List (κ × MP.D) → List (κ' × V) → Prop
  | [], vs => vs = []
  | p :: ds, vs => ∃ v r, vs = (f p.1, v) :: r ∧ (ok p.1 ∧ Rep K F m p.2 v) ∧ RepK f ok ds r
end

/-- the heap of what is never changed lies in the heap -/
def Le (F H : L2.Hp) : Prop := ∀ a o, F a = some o → H a = some o
theorem sq_ltp {K : PySem.W.Frag} {F : L2.Hp} {a : Addr} {o : Obj} {vs : List V} (e : F a = some (.frz o (.tup vs))) : SqT K F a vs := .inl (.inr ⟨o, e⟩)
theorem Le.refl (F : L2.Hp) : Le F F := fun _ _ h => h
theorem Le.trans {F G H : L2.Hp} (a : Le F G) (b : Le G H) : Le F H := fun x u h => b x u (a x u h)
theorem Le.sqL {K : PySem.W.Frag} {F H : L2.Hp} (l : Le F H) {a : Addr} {vs : List V} (h : SqL K F a vs) : SqL K H a vs := h.imp (fun r => r.imp (l a _) fun ⟨o, e⟩ => ⟨o, l a _ e⟩) id
theorem Le.sqT {K : PySem.W.Frag} {F H : L2.Hp} (l : Le F H) {a : Addr} {vs : List V} (h : SqT K F a vs) : SqT K H a vs := h.imp (fun r => r.imp (l a _) fun ⟨o, e⟩ => ⟨o, l a _ e⟩) id

section
variable {K : PySem.W.Frag} {F F' : L2.Hp} {m m' : List Addr}
theorem get_pre {l l' : List Addr} (p : l <+: l') {n : Nat} {a : Addr} (h : l[n]? = some a) : l'[n]? = some a := by
  obtain ⟨t, rfl⟩ := p
  rw [List.getElem?_append_left (by exact (List.getElem?_eq_some_iff.mp h).1)]; exact h
mutual
theorem Rep.mono (l : Le F F') (p : m <+: m') : ∀ (d : MP.D) (v : V), Rep K F m d v → Rep K F' m' d v
  | .non, _, h => h
  | .bl _, _, h => h
  | .int _, _, h => h
  | .str _, _, h => h
  | .ltp ds, _, ⟨a, vs, e, s, r⟩ => ⟨a, vs, e, l a _ s, Reps.mono l p ds vs r⟩
  | .ctp ds, _, ⟨a, vs, e, s, r⟩ => ⟨a, vs, e, s.imp l.sqL l.sqT, Reps.mono l p ds vs r⟩
  | .tup ds, _, ⟨a, vs, e, ⟨o, s, z⟩, r⟩ => ⟨a, vs, e, ⟨o, l a _ s, z⟩, Reps.mono l p ds vs r⟩
  | .lst ds, _, ⟨a, vs, e, s, r⟩ => ⟨a, vs, e, l a _ s, Reps.mono l p ds vs r⟩
  | .ref n, _, ⟨a, e, q⟩ => ⟨a, get_pre p e, q⟩
theorem Reps.mono (l : Le F F') (p : m <+: m') : ∀ (ds : List MP.D) (vs : List V), Reps K F m ds vs → Reps K F' m' ds vs
  | [], _, h => h
  | d :: ds, _, ⟨v, r, e, h1, h2⟩ => ⟨v, r, e, Rep.mono l p d v h1, Reps.mono l p ds r h2⟩
end
theorem RepK.mono {κ κ' : Type} {f : κ → κ'} {ok : κ → Prop} (l : Le F F') (p : m <+: m') : ∀ (ds : List (κ × MP.D)) (vs : List (κ' × V)), RepK K F m f ok ds vs → RepK K F' m' f ok ds vs
  | [], _, h => h
  | d :: ds, _, ⟨v, r, e, ⟨h0, h1⟩, h2⟩ => ⟨v, r, e, ⟨h0, Rep.mono l p d.2 v h1⟩, RepK.mono l p ds r h2⟩
theorem Reps.length : ∀ {ds : List MP.D} {vs : List V}, Reps K F m ds vs → ds.length = vs.length
  | [], _, h => by cases h; rfl
  | d :: ds, _, ⟨v, r, e, h1, h2⟩ => by subst e; simp [Reps.length h2]
theorem Reps.get : ∀ {ds : List MP.D} {vs : List V} {n : Nat} {d : MP.D}, Reps K F m ds vs → ds[n]? = some d → ∃ v, vs[n]? = some v ∧ Rep K F m d v
  | [], _, _, _, _, h => by simp at h
  | d :: ds, _, 0, _, ⟨v, r, e, h1, h2⟩, h => by subst e; simp at h; subst h; exact ⟨v, rfl, h1⟩
  | d :: ds, _, n + 1, _, ⟨v, r, e, h1, h2⟩, h => by subst e; simp at h; exact (by simpa using Reps.get h2 h)
theorem Reps.append : ∀ {ds es : List MP.D} {vs ws : List V}, Reps K F m ds vs → Reps K F m es ws → Reps K F m (ds ++ es) (vs ++ ws)
  | [], _, _, _, h, h' => by cases h; exact h'
  | d :: ds, _, _, _, ⟨v, r, e, h1, h2⟩, h' => by subst e; exact ⟨v, _, rfl, h1, Reps.append h2 h'⟩
theorem Reps.snoc {ds : List MP.D} {d : MP.D} {vs : List V} {v : V} (h : Reps K F m ds vs) (h' : Rep K F m d v) : Reps K F m (ds ++ [d]) (vs ++ [v]) := h.append ⟨v, [], rfl, h', rfl⟩
theorem Reps.set : ∀ {ds : List MP.D} {vs : List V} {n : Nat} {d : MP.D} {v : V}, Reps K F m ds vs → Rep K F m d v → Reps K F m (ds.set n d) (vs.set n v)
  | [], _, _, _, _, h, _ => by cases h; exact rfl
  | d :: ds, _, 0, _, _, ⟨v, r, e, h1, h2⟩, h => by subst e; exact ⟨_, r, rfl, h, h2⟩
  | d :: ds, _, n + 1, _, _, ⟨v, r, e, h1, h2⟩, h => by subst e; exact ⟨v, _, rfl, h1, Reps.set h2 h⟩
theorem Reps.drop : ∀ {ds : List MP.D} {vs : List V} (n : Nat), Reps K F m ds vs → Reps K F m (ds.drop n) (vs.drop n)
  | _, _, 0, h => h
  | [], _, _ + 1, h => by cases h; exact rfl
  | d :: ds, _, n + 1, ⟨v, r, e, h1, h2⟩ => by subst e; exact Reps.drop n h2
theorem Reps.take : ∀ {ds : List MP.D} {vs : List V} (n : Nat), Reps K F m ds vs → Reps K F m (ds.take n) (vs.take n)
  | _, _, 0, h => rfl
  | [], _, _ + 1, h => by cases h; exact rfl
  | d :: ds, _, n + 1, ⟨v, r, e, h1, h2⟩ => by subst e; exact ⟨v, _, rfl, h1, Reps.take n h2⟩
theorem Reps.reverse : ∀ {ds : List MP.D} {vs : List V}, Reps K F m ds vs → Reps K F m ds.reverse vs.reverse
  | [], _, h => by cases h; exact rfl
  | d :: ds, _, ⟨v, r, e, h1, h2⟩ => by subst e; rw [List.reverse_cons, List.reverse_cons]; exact h2.reverse.snoc h1
theorem Reps.eraseIdx : ∀ {ds : List MP.D} {vs : List V} (n : Nat), Reps K F m ds vs → Reps K F m (ds.eraseIdx n) (vs.eraseIdx n)
  | [], _, _, h => by cases h; exact rfl
  | d :: ds, _, 0, ⟨v, r, e, h1, h2⟩ => by subst e; exact h2
  | d :: ds, _, n + 1, ⟨v, r, e, h1, h2⟩ => by subst e; exact ⟨v, _, rfl, h1, Reps.eraseIdx n h2⟩
theorem Reps.of_get : ∀ {ds : List MP.D} {vs : List V}, ds.length = vs.length → (∀ (n : Nat) d v, ds[n]? = some d → vs[n]? = some v → Rep K F m d v) → Reps K F m ds vs
  | [], [], _, _ => rfl
  | d :: ds, v :: vs, hl, h => ⟨v, vs, rfl, h 0 d v rfl rfl, Reps.of_get (by simpa using hl) fun n d' v' a b => h (n + 1) d' v' (by simpa using a) (by simpa using b)⟩
end

/-! ### the state -/
/-- what an object of the small heap is in the layer's heap; cA: the classes' addresses -/
def ObR (K : PySem.W.Frag) (cA : Nat → Addr) (fN : Nat → Str) (F : L2.Hp) (m : List Addr) (H : L2.Hp) (a : Addr) : MP.O → Prop
  | .lst l => ∃ vs, H a = some (.lst vs) ∧ Reps K F m l vs
  | .rol l => ∃ vs, SqL K H a vs ∧ H a ≠ none ∧ Reps K F m l vs
  | .dic l => ∃ vs, H a = some (.dK vs) ∧ RepK K F m kyV kyOk l vs
  | .dtu l => ∃ vs, H a = some (.dT vs) ∧ RepK K F m (List.map kyV) kysOk l vs
  | .ins c fs => ∃ dx vs, H a = some (.ins (cA c) dx vs) ∧ RepK K F m fN (fun _ => True) fs vs
/-- lists and tuples are not too long -/
def SzO : HO → Prop
  | .lst xs => xs.length ≤ sizeLine
  | .tup xs => xs.length ≤ sizeLine
  | .frz _ (.tup xs) => xs.length ≤ sizeLine
  | _ => True
structure Sm (K : PySem.W.Frag) (cA : Nat → Addr) (fN : Nat → Str) (m : List Addr) (h : MP.Hp) (H F : L2.Hp) : Prop where
  le : Le F H
  nd : m.Nodup
  len : m.length = h.length
  nf : ∀ a ∈ m, F a = none
  sz : ∀ a o, H a = some o → SzO o
  ob : ∀ (n : Nat) a o, m[n]? = some a → h[n]? = some o → ObR K cA fN F m H a o
/-- from one state to a later one -/
structure Ext (m : List Addr) (H F : L2.Hp) (m' : List Addr) (H' F' : L2.Hp) : Prop where
  mm : m <+: m'
  th : ∀ b, H b ≠ none → H' b ≠ none
  kH : ∀ b, H b ≠ none → b ∉ m → H' b = H b
  kF : ∀ b, H b ≠ none → F' b = F b
  kM : ∀ b, H b ≠ none → b ∉ m → b ∉ m'
theorem Ext.refl (m : List Addr) (H F : L2.Hp) : Ext m H F m H F := ⟨List.prefix_refl _, fun _ h => h, fun _ _ _ => rfl, fun _ _ => rfl, fun _ _ h => h⟩
theorem Ext.trans {m m1 m2 : List Addr} {H F H1 F1 H2 F2 : L2.Hp} (a : Ext m H F m1 H1 F1) (b : Ext m1 H1 F1 m2 H2 F2) : Ext m H F m2 H2 F2 :=
  ⟨a.mm.trans b.mm, fun x h => b.th x (a.th x h), fun x h n => (b.kH x (a.th x h) (a.kM x h n)).trans (a.kH x h n), fun x h => (b.kF x (a.th x h)).trans (a.kF x h), fun x h n => b.kM x (a.th x h) (a.kM x h n)⟩
theorem Ext.le {m m' : List Addr} {H F H' F' : L2.Hp} (e : Ext m H F m' H' F') (l : Le F H) : Le F F' := fun a u h => by
  rw [e.kF a (by rw [l a u h]; simp)]; exact h
/-- what an expression gives, seen from the heap H0 where it began -/
def RepV (K : PySem.W.Frag) (H0 : L2.Hp) (m : List Addr) (H F : L2.Hp) : MP.Vl → V → Prop
  | .d x, v => Rep K F m x v
  | .nls l, v => ∃ a vs, v = .ref a ∧ H0 a = none ∧ H a = some (.lst vs) ∧ F a = none ∧ a ∉ m ∧ Reps K F m l vs
  | .ndc l, v => ∃ a vs, v = .ref a ∧ H0 a = none ∧ H a = some (.dK vs) ∧ F a = none ∧ a ∉ m ∧ RepK K F m kyV kyOk l vs
  | .ndt l, v => ∃ a vs, v = .ref a ∧ H0 a = none ∧ H a = some (.dT vs) ∧ F a = none ∧ a ∉ m ∧ RepK K F m (List.map kyV) kysOk l vs
theorem Rep.ext {K : PySem.W.Frag} {m m' : List Addr} {H F H' F' : L2.Hp} (e : Ext m H F m' H' F') (l : Le F H) {d : MP.D} {v : V} (h : Rep K F m d v) : Rep K F' m' d v := h.mono (e.le l) e.mm
theorem Reps.ext {K : PySem.W.Frag} {m m' : List Addr} {H F H' F' : L2.Hp} (e : Ext m H F m' H' F') (l : Le F H) {d : List MP.D} {v : List V} (h : Reps K F m d v) : Reps K F' m' d v := h.mono (e.le l) e.mm
theorem RepV.ext {K : PySem.W.Frag} {H0 : L2.Hp} {m m' : List Addr} {H F H' F' : L2.Hp} (e : Ext m H F m' H' F') (l : Le F H) : ∀ {x : MP.Vl} {v : V}, RepV K H0 m H F x v → RepV K H0 m' H' F' x v
  | .d x, v, h => h.mono (e.le l) e.mm
  | .nls l', v, ⟨a, vs, e1, e0, e2, e3, e4, e5⟩ => by
    have ne : H a ≠ none := by rw [e2]; simp
    exact ⟨a, vs, e1, e0, (e.kH a ne e4).trans e2, (e.kF a ne).trans e3, e.kM a ne e4, e5.mono (e.le l) e.mm⟩
  | .ndc l', v, ⟨a, vs, e1, e0, e2, e3, e4, e5⟩ => by
    have ne : H a ≠ none := by rw [e2]; simp
    exact ⟨a, vs, e1, e0, (e.kH a ne e4).trans e2, (e.kF a ne).trans e3, e.kM a ne e4, e5.mono (e.le l) e.mm⟩
  | .ndt l', v, ⟨a, vs, e1, e0, e2, e3, e4, e5⟩ => by
    have ne : H a ≠ none := by rw [e2]; simp
    exact ⟨a, vs, e1, e0, (e.kH a ne e4).trans e2, (e.kF a ne).trans e3, e.kM a ne e4, e5.mono (e.le l) e.mm⟩
theorem RepV.start {K : PySem.W.Frag} {H0 H1 : L2.Hp} {m : List Addr} {H F : L2.Hp} (th : ∀ b, H0 b ≠ none → H1 b ≠ none) : ∀ {x : MP.Vl} {v : V}, RepV K H1 m H F x v → RepV K H0 m H F x v
  | .d x, v, h => h
  | .nls l', v, ⟨a, vs, e1, e0, r⟩ => ⟨a, vs, e1, Classical.byContradiction fun q => th a q e0, r⟩
  | .ndc l', v, ⟨a, vs, e1, e0, r⟩ => ⟨a, vs, e1, Classical.byContradiction fun q => th a q e0, r⟩
  | .ndt l', v, ⟨a, vs, e1, e0, r⟩ => ⟨a, vs, e1, Classical.byContradiction fun q => th a q e0, r⟩
end MPS
end
section
set_option Elab.async false
set_option linter.all false
set_option maxRecDepth 100000
set_option maxHeartbeats 4000000
namespace MPS
open PySem PySem.Spec PyProof.Rows L2

/-! ### steps of the state -/
theorem ne_by {H : L2.Hp} {b p : Addr} (hb : H b ≠ none) (np : H p = none) : b ≠ p := fun e => hb (by rw [e]; exact np)
section
variable {K : PySem.W.Frag} {cA : Nat → Addr} {fN : Nat → Str} {m : List Addr} {h : MP.Hp} {H F : L2.Hp}
theorem Sm.at (S : Sm K cA fN m h H F) {n : Nat} {o : MP.O} (e : h[n]? = some o) : ∃ a, m[n]? = some a ∧ ObR K cA fN F m H a o := by
  have lt : n < m.length := by rw [S.len]; exact (List.getElem?_eq_some_iff.mp e).1
  exact ⟨m[n], List.getElem?_eq_getElem lt, S.ob n _ o (List.getElem?_eq_getElem lt) e⟩
theorem ObR.ne {a : Addr} {o : MP.O} (x : ObR K cA fN F m H a o) : H a ≠ none := by
  cases o with
  | lst l => obtain ⟨vs, e, _⟩ := x; rw [e]; simp
  | rol l => exact x.choose_spec.2.1
  | dic l => obtain ⟨vs, e, _⟩ := x; rw [e]; simp
  | dtu l => obtain ⟨vs, e, _⟩ := x; rw [e]; simp
  | ins c fs => obtain ⟨_, vs, e, _⟩ := x; rw [e]; simp
theorem Sm.ne (S : Sm K cA fN m h H F) {a : Addr} (ha : a ∈ m) : H a ≠ none := by
  obtain ⟨n, hn, rfl⟩ := List.mem_iff_getElem.mp ha
  have hl : n < h.length := by rw [← S.len]; exact hn
  exact (S.ob n _ _ (List.getElem?_eq_getElem hn) (List.getElem?_eq_getElem hl)).ne
theorem ObR.mono {H' F' : L2.Hp} {m' : List Addr} {a : Addr} {o : MP.O} (x : ObR K cA fN F m H a o) (e : H' a = H a) (l : Le F F') (p : m <+: m') : ObR K cA fN F' m' H' a o := by
  cases o with
  | lst _ => obtain ⟨vs, q, r⟩ := x; exact ⟨vs, e.trans q, r.mono l p⟩
  | rol _ =>
    obtain ⟨vs, q, n, r⟩ := x
    refine ⟨vs, ?_, by rw [e]; exact n, r.mono l p⟩
    unfold SqL Rd at q ⊢
    rw [e]; exact q
  | dic _ => obtain ⟨vs, q, r⟩ := x; exact ⟨vs, e.trans q, r.mono l p⟩
  | dtu _ => obtain ⟨vs, q, r⟩ := x; exact ⟨vs, e.trans q, r.mono l p⟩
  | ins _ _ => obtain ⟨dx, vs, q, r⟩ := x; exact ⟨dx, vs, e.trans q, r.mono l p⟩
theorem Le.laid {p : Addr} {o : HO} (l : Le F H) (np : H p = none) : Le F (upd H p o) := fun a u r => by
  rw [upd_ne (ne_by (by rw [l a u r]; simp) np)]; exact l a u r
theorem Le.laidF {p : Addr} {o : HO} (l : Le F H) (np : H p = none) : Le (upd F p o) (upd H p o) := fun a u r => by
  by_cases e : a = p
  · subst e
    rw [upd_same] at r ⊢; exact r
  · rw [upd_ne e] at r
    exact l.laid np a u r
theorem Le.self {p : Addr} {o : HO} (l : Le F H) (np : H p = none) : Le F (upd F p o) := fun a u r => by
  rw [upd_ne (ne_by (by rw [l a u r]; simp) np)]; exact r
/-- a new thing that nobody holds yet -/
theorem Ext.new {p : Addr} {o : HO} (np : H p = none) : Ext m H F m (upd H p o) F :=
  ⟨List.prefix_refl _, fun b hb => by rw [upd_ne (ne_by hb np)]; exact hb, fun b hb _ => by rw [upd_ne (ne_by hb np)], fun _ _ => rfl, fun _ _ n => n⟩
theorem sz_upd {p : Addr} {o : HO} (s : ∀ a o, H a = some o → SzO o) (z : SzO o) : ∀ a u, upd H p o a = some u → SzO u := fun a u e => by
  by_cases q : a = p
  · subst q; rw [upd_same] at e; cases e; exact z
  · rw [upd_ne q] at e; exact s a u e
theorem Sm.new {p : Addr} {o : HO} (S : Sm K cA fN m h H F) (np : H p = none) (z : SzO o) : Sm K cA fN m h (upd H p o) F :=
  ⟨S.le.laid np, S.nd, S.len, S.nf, sz_upd S.sz z, fun n a ob e1 e2 => (S.ob n a ob e1 e2).mono (upd_ne (ne_by (S.ob n a ob e1 e2).ne np)) (Le.refl _) (List.prefix_refl _)⟩
/-- a new thing that is never changed -/
theorem Ext.newF {p : Addr} {o : HO} (np : H p = none) : Ext m H F m (upd H p o) (upd F p o) :=
  ⟨List.prefix_refl _, fun b hb => by rw [upd_ne (ne_by hb np)]; exact hb, fun b hb _ => by rw [upd_ne (ne_by hb np)], fun b hb => by rw [upd_ne (ne_by hb np)], fun _ _ n => n⟩
theorem Sm.newF {p : Addr} {o : HO} (S : Sm K cA fN m h H F) (np : H p = none) (z : SzO o) : Sm K cA fN m h (upd H p o) (upd F p o) :=
  ⟨S.le.laidF np, S.nd, S.len, fun a ha => by rw [upd_ne (ne_by (S.ne ha) np)]; exact S.nf a ha, sz_upd S.sz z, fun n a ob e1 e2 => (S.ob n a ob e1 e2).mono (upd_ne (ne_by (S.ob n a ob e1 e2).ne np)) (S.le.self np) (List.prefix_refl _)⟩
/-- from now on it is never changed -/
theorem Le.frz {a : Addr} {o : HO} (l : Le F H) (e : H a = some o) : Le (upd F a o) H := fun b u r => by
  by_cases q : b = a
  · subst q
    rw [upd_same] at r; cases r; exact e
  · rw [upd_ne q] at r
    exact l b u r
theorem Le.frz1 {a : Addr} {o : HO} (nf : F a = none) : Le F (upd F a o) := fun b u r => by
  rw [upd_ne (fun e => by rw [e, nf] at r; cases r)]; exact r
theorem Sm.frz {a : Addr} {o : HO} (S : Sm K cA fN m h H F) (e : H a = some o) (nf : F a = none) (nm : a ∉ m) : Sm K cA fN m h H (upd F a o) :=
  ⟨S.le.frz e, S.nd, S.len, fun b hb => by rw [upd_ne (fun q => nm (by rw [← q]; exact hb))]; exact S.nf b hb, S.sz, fun n b ob e1 e2 => (S.ob n b ob e1 e2).mono rfl (Le.frz1 nf) (List.prefix_refl _)⟩
theorem Ext.frz {m0 : List Addr} {H0 F0 : L2.Hp} {a : Addr} {o : HO} (x : Ext m0 H0 F0 m H F) (n0 : H0 a = none) : Ext m0 H0 F0 m H (upd F a o) :=
  ⟨x.mm, x.th, x.kH, fun b hb => by rw [upd_ne (ne_by hb n0)]; exact x.kF b hb, x.kM⟩
/-- it becomes an object of the small heap -/
theorem Sm.lay {a : Addr} {o : MP.O} (S : Sm K cA fN m h H F) (nf : F a = none) (nm : a ∉ m) (x : ObR K cA fN F m H a o) : Sm K cA fN (m ++ [a]) (h ++ [o]) H F := by
  refine ⟨S.le, ?_, by simp [S.len], fun b hb => ?_, S.sz, fun n b ob e1 e2 => ?_⟩
  · exact List.nodup_append.mpr ⟨S.nd, by simp, fun x hx y hy => by simp at hy; subst hy; exact fun e => nm (e ▸ hx)⟩
  · rcases List.mem_append.mp hb with q | q
    · exact S.nf b q
    · simp at q; subst q; exact nf
  · by_cases lt : n < m.length
    · rw [List.getElem?_append_left lt] at e1
      rw [List.getElem?_append_left (by rw [← S.len]; exact lt)] at e2
      exact (S.ob n b ob e1 e2).mono rfl (Le.refl _) (List.prefix_append _ _)
    · have e : n = m.length := by
        have := (List.getElem?_eq_some_iff.mp e1).1
        simp at this; omega
      subst e
      rw [List.getElem?_append_right (Nat.le_refl _)] at e1
      rw [S.len, List.getElem?_append_right (Nat.le_refl _)] at e2
      simp at e1 e2
      subst e1 e2
      exact x.mono rfl (Le.refl _) (List.prefix_append _ _)
theorem Ext.lay {m0 : List Addr} {H0 F0 : L2.Hp} {a : Addr} (x : Ext m0 H0 F0 m H F) (n0 : H0 a = none) : Ext m0 H0 F0 (m ++ [a]) H F :=
  ⟨x.mm.trans (List.prefix_append _ _), x.th, x.kH, x.kF, fun b hb nb q => by
    rcases List.mem_append.mp q with q | q
    · exact x.kM b hb nb q
    · simp at q; subst q; exact hb n0⟩
/-- an object of the small heap is changed -/
theorem Sm.put {a : Addr} {n : Nat} {o : MP.O} {u : HO} (S : Sm K cA fN m h H F) (z : SzO u) (e : m[n]? = some a) (x : ObR K cA fN F m (upd H a u) a o) : Sm K cA fN m (h.set n o) (upd H a u) F := by
  have ha : a ∈ m := List.mem_of_getElem? e
  refine ⟨fun b w r => ?_, S.nd, by simp [S.len], S.nf, sz_upd S.sz z, fun k b ob e1 e2 => ?_⟩
  · rw [upd_ne (fun z => by rw [z, S.nf a ha] at r; cases r)]
    exact S.le b w r
  · by_cases k' : k = n
    · subst k'
      rw [e] at e1; cases e1
      have lt : k < h.length := by rw [← S.len]; exact (List.getElem?_eq_some_iff.mp e).1
      rw [List.getElem?_set_self lt] at e2
      cases e2; exact x
    · rw [List.getElem?_set_ne (Ne.symm k')] at e2
      have ne : b ≠ a := fun z => k' ((List.getElem?_inj (List.getElem?_eq_some_iff.mp e1).1 S.nd).mp (by rw [e1, e, z]))
      exact (S.ob k b ob e1 e2).mono (upd_ne ne) (Le.refl _) (List.prefix_refl _)
theorem Ext.put {a : Addr} {u : HO} (ha : a ∈ m) : Ext m H F m (upd H a u) F :=
  ⟨List.prefix_refl _, fun b hb => by
    by_cases e : b = a
    · subst e; rw [upd_same]; simp
    · rw [upd_ne e]; exact hb, fun b _ nb => upd_ne (fun e => nb (e ▸ ha)), fun _ _ => rfl, fun _ _ n => n⟩
end

/-! ### what a run of the evaluator promises -/
/-- the context: where the code runs, what is wished of an exception, the table of defs, the classes' addresses, the fields' names, the exceptions' addresses -/
structure Ct where
  X : Cx
  W : WX
  G : MP.Fns
  cA : Nat → Addr
  fN : Nat → Str
  eA : Nat → Addr
abbrev Ct.Sm (c : Ct) := MPS.Sm c.X.K c.cA c.fN

abbrev Rl (α β : Type) := L2.Hp → List Addr → L2.Hp → L2.Hp → α → β → Prop
def Post {α β : Type} (c : Ct) (rel : Rl α β) (σ : L2.St) (m : List Addr) (H F : L2.Hp) (Q : β → L2.Hp → Prop) : MP.R α → Prop
  | .ok a h' => ∀ m' H' F' u, Ext m H F m' H' F' → c.Sm m' h' H' F' → rel H m' H' F' a u → Q u H'
  | .exc k h' => ∀ m' H' F', Ext m H F m' H' F' → c.Sm m' h' H' F' → c.W (.ref (c.eA k)) none σ H'
  | .err => False
/-- seen from an earlier heap it is the same -/
def Early {α β : Type} (rel : Rl α β) : Prop := ∀ H0 H1 m H F a u, (∀ b, H0 b ≠ none → H1 b ≠ none) → rel H1 m H F a u → rel H0 m H F a u
/-- it stays, through later states -/
def Late {α β : Type} (rel : Rl α β) : Prop := ∀ H0 m H F m' H' F' a u, Ext m H F m' H' F' → Le F H → rel H0 m H F a u → rel H0 m' H' F' a u
theorem Post.shift {α β : Type} {c : Ct} {rel : Rl α β} (hr : Early rel) {σ : L2.St} {m m1 : List Addr} {H F H1 F1 : L2.Hp} {Q : β → L2.Hp → Prop} {r : MP.R α} (e : Ext m H F m1 H1 F1) (p : Post c rel σ m H F Q r) : Post c rel σ m1 H1 F1 Q r := by
  cases r with
  | ok a h' => exact fun m' H' F' u e' s' q => p m' H' F' u (e.trans e') s' (hr _ _ _ _ _ _ _ e.th q)
  | exc k h' => exact fun m' H' F' e' s' => p m' H' F' (e.trans e') s'
  | err => exact p
/-- the run of a then f: a's own wish is f's promise -/
theorem Post.bind {α β α' β' : Type} {c : Ct} {rel : Rl α β} {rel' : Rl α' β'} {σ : L2.St} {m : List Addr} {H F : L2.Hp} {Q : β → L2.Hp → Prop} {Q' : β' → L2.Hp → Prop} {r : MP.R α} {f : α → MP.Hp → MP.R α'}
    (p : Post c rel' σ m H F Q' (r.bind f)) (k : ∀ a h1 m1 H1 F1 u, r = .ok a h1 → Ext m H F m1 H1 F1 → c.Sm m1 h1 H1 F1 → rel H m1 H1 F1 a u → Post c rel' σ m H F Q' (f a h1) → Q u H1) : Post c rel σ m H F Q r := by
  cases r with
  | ok a h' => exact fun m' H' F' u e s q => k a h' m' H' F' u rfl e s q p
  | exc k h' => exact p
  | err => exact p
def rV (c : Ct) : Rl MP.Vl V := RepV c.X.K
def rB : Rl Bool Bool := fun _ _ _ _ a u => a = u
def rL (c : Ct) : Rl (List MP.D) (List V) := fun _ m _ F => Reps c.X.K F m
theorem early_V {c : Ct} : Early (rV c) := fun _ _ _ _ _ _ _ th q => RepV.start th q
theorem early_B : Early rB := fun _ _ _ _ _ _ _ _ q => q
theorem early_L {c : Ct} : Early (rL c) := fun _ _ _ _ _ _ _ _ q => q

def EnvR (K : PySem.W.Frag) (F : L2.Hp) (m : List Addr) (ρ : MP.Env) (σ : L2.St) : Prop := ρ.length = σ.length ∧ ∀ (i : Nat) d, ρ[i]? = some (some d) → ∃ v, σ[i]? = some (some v) ∧ Rep K F m d v
theorem EnvR.ext {K : PySem.W.Frag} {m m' : List Addr} {H F H' F' : L2.Hp} {ρ : MP.Env} {σ : L2.St} (r : EnvR K F m ρ σ) (e : Ext m H F m' H' F') (l : Le F H) : EnvR K F' m' ρ σ :=
  ⟨r.1, fun i d q => let ⟨v, a, b⟩ := r.2 i d q; ⟨v, a, b.ext e l⟩⟩

/-- the model's run of an expression, of a test, of arguments -/
def WE (X : Cx) (e : Expr) : TE := fun σ H Q => ∀ pins s, Inv X pins σ H s → wpAny (model X.prog X.w) X.A (eval e X.env) (EP X pins σ Q) X.xe s
def WT (X : Cx) (e : Expr) : TT := fun σ H Q => ∀ pins s, Inv X pins σ H s → wpAny (model X.prog X.w) X.A (isTrue e X.env (eval e X.env)) (TP X pins σ Q) X.xe s
theorem pe_sem {X : Cx} {e : Expr} : PE X e (WE X e) := ⟨fun pins s _ _ _ I h => h pins s I⟩
theorem pt_sem {X : Cx} {e : Expr} : PT X e (WT X e) := ⟨fun pins s _ _ _ I h => h pins s I⟩
theorem peSem {X : Cx} {e : Expr} {t : TE} (p : PE X e t) {σ : L2.St} {H : L2.Hp} {Q : VK} (h : t σ H Q) : WE X e σ H Q := fun pins s I => p.run pins s σ H Q I h
theorem ptSem {X : Cx} {e : Expr} {t : TT} (p : PT X e t) {σ : L2.St} {H : L2.Hp} {Q : Bool → L2.Hp → Prop} (h : t σ H Q) : WT X e σ H Q := fun pins s I => p.run pins s σ H Q I h

/-- the code x tells what the expression e does -/
def SE (c : Ct) (x : MP.Ex) (e : Expr) : Prop := ∀ fl ρ h σ m H F Q, EnvR c.X.K F m ρ σ → c.Sm m h H F → Post c (rV c) σ m H F Q (MP.ev c.G fl x ρ h) → WE c.X e σ H Q
def ST (c : Ct) (x : MP.Ex) (e : Expr) : Prop := ∀ fl ρ h σ m H F Q, EnvR c.X.K F m ρ σ → c.Sm m h H F → Post c rB σ m H F Q (MP.evT c.G fl x ρ h) → WT c.X e σ H Q
/-- arguments, by a reading of their own -/
def SA (c : Ct) (xs : List MP.Ex) (es : List Expr) : Prop := ∃ t, PA c.X es t ∧ ∀ fl ρ h σ m H F Q, EnvR c.X.K F m ρ σ → c.Sm m h H F → Post c (rL c) σ m H F Q (MP.evL c.G fl xs ρ h) → t σ H Q

section
variable {c : Ct} {pos : Pos}
theorem s_var {i : Nat} {x : Str} (hN : c.X.N[i]? = some x) (hv : Vis c.X.env.scope x) (hd : (x == ("__debug__" : Str)) = false) (hcd : (x == ("__classdict__" : Str)) = false) : SE c (.var i) (.Name x pos) := by
  intro fl ρ h σ m H F Q er S p
  refine peSem (pe_var hN hv hd hcd) ?_
  unfold MP.ev at p
  split at p
  · rename_i d hd
    obtain ⟨v, e1, r⟩ := er.2 i d hd
    exact ⟨v, e1, p m H F v (Ext.refl _ _ _) S r⟩
  · exact p.elim
theorem s_cst {d : MP.D} {k : Const} {j : Nat} {v : V} (hp : PE c.X (.Constant k j pos) (tC v)) (hr : ∀ F m, Rep c.X.K F m d v) : SE c (.cst d) (.Constant k j pos) := by
  intro fl ρ h σ m H F Q er S p
  exact peSem hp (p m H F v (Ext.refl _ _ _) S (hr F m))
theorem s_glb {d : MP.D} {i : Nat} {x : Str} {v : V} (hp : PE c.X (.Name x pos) (tC v)) (hr : ∀ F m, Rep c.X.K F m d v) : SE c (.glb i d) (.Name x pos) := by
  intro fl ρ h σ m H F Q er S p
  exact peSem hp (p m H F v (Ext.refl _ _ _) S (hr F m))

/-- a value kept: as an argument, within another one -/
theorem keep_ok {m0 : List Addr} {H0 F0 : L2.Hp} {m : List Addr} {h : MP.Hp} {H F : L2.Hp} {x : MP.Vl} {v : V} (e : Ext m0 H0 F0 m H F) (S : c.Sm m h H F) (r : RepV c.X.K H0 m H F x v) :
    ∃ m' F', Ext m0 H0 F0 m' H F' ∧ c.Sm m' (MP.keep h x).2 H F' ∧ Rep c.X.K F' m' (MP.keep h x).1 v ∧ m <+: m' ∧ Le F F' := by
  cases x with
  | d x => exact ⟨m, F, e, S, r, List.prefix_refl _, Le.refl _⟩
  | nls l =>
    obtain ⟨a, vs, rfl, n0, eH, nF, nM, rs⟩ := r
    exact ⟨m, upd F a (.lst vs), e.frz n0, S.frz eH nF nM, ⟨a, vs, rfl, upd_same, rs.mono (Le.frz1 nF) (List.prefix_refl _)⟩, List.prefix_refl _, Le.frz1 nF⟩
  | ndc l =>
    obtain ⟨a, vs, rfl, n0, eH, nF, nM, rs⟩ := r
    refine ⟨m ++ [a], F, e.lay n0, S.lay nF nM ⟨vs, eH, rs⟩, ⟨a, ?_, rfl⟩, List.prefix_append _ _, Le.refl _⟩
    show (m ++ [a])[h.length]? = some a
    rw [← S.len]; simp
  | ndt l =>
    obtain ⟨a, vs, rfl, n0, eH, nF, nM, rs⟩ := r
    refine ⟨m ++ [a], F, e.lay n0, S.lay nF nM ⟨vs, eH, rs⟩, ⟨a, ?_, rfl⟩, List.prefix_append _ _, Le.refl _⟩
    show (m ++ [a])[h.length]? = some a
    rw [← S.len]; simp
theorem alloc_ok {al : Bool} {m0 : List Addr} {H0 F0 : L2.Hp} {m : List Addr} {h : MP.Hp} {H F : L2.Hp} {x : MP.Vl} {v : V} (e : Ext m0 H0 F0 m H F) (S : c.Sm m h H F) (r : RepV c.X.K H0 m H F x v) :
    ∃ m' F', Ext m0 H0 F0 m' H F' ∧ c.Sm m' (MP.keepA al h x).2 H F' ∧ Rep c.X.K F' m' (MP.keepA al h x).1 v ∧ m <+: m' ∧ Le F F' := by
  cases al with
  | false => exact keep_ok e S r
  | true =>
    cases x with
    | d x => exact keep_ok (x := .d x) e S r
    | ndc l => exact keep_ok (x := .ndc l) e S r
    | ndt l => exact keep_ok (x := .ndt l) e S r
    | nls l =>
      obtain ⟨a, vs, rfl, n0, eH, nF, nM, rs⟩ := r
      refine ⟨m ++ [a], F, e.lay n0, S.lay nF nM ⟨vs, eH, rs⟩, ⟨a, ?_, rfl⟩, List.prefix_append _ _, Le.refl _⟩
      show (m ++ [a])[h.length]? = some a
      rw [← S.len]; simp

/-! ### arguments -/
theorem s_nil : SA c [] [] := ⟨tNil, pa_nil, fun fl ρ h σ m H F Q er S p => p m H F [] (Ext.refl _ _ _) S rfl⟩
theorem s_cons {x : MP.Ex} {xs : List MP.Ex} {e : Expr} {es : List Expr} (h1 : SE c x e) (h2 : SA c xs es) (hs : starEach (e :: es) c.X.env = (false, eval e c.X.env) :: starEach es c.X.env) : SA c (x :: xs) (e :: es) := by
  obtain ⟨t, ht, k⟩ := h2
  refine ⟨_, pa_cons pe_sem ht hs, fun fl ρ h σ m H F Q er S p => ?_⟩
  unfold MP.evL at p
  refine h1 fl ρ h σ m H F _ er S (p.bind fun a h1 m1 H1 F1 u _ e1 S1 r1 p1 => ?_)
  obtain ⟨m2, F2, e2, S2, r2, _, _⟩ := keep_ok e1 S1 r1
  refine k fl ρ _ σ m2 H1 F2 _ (er.ext e2 S.le) S2 ((p1.shift early_L e2).bind fun l h3 m3 H3 F3 us _ e3 S3 r3 p3 => ?_)
  exact p3 m3 H3 F3 _ e3 S3 ⟨u, us, rfl, r2.ext e3 S2.le, r3⟩
end
end MPS
end
section
set_option Elab.async false
set_option linter.all false
set_option maxRecDepth 100000
set_option maxHeartbeats 4000000
namespace MPS
open PySem PySem.Spec PyProof.Rows L2

theorem evL_length {G : MP.Fns} {fl : Nat} {ρ : MP.Env} : ∀ {xs : List MP.Ex} {h h' : MP.Hp} {l : List MP.D}, MP.evL G fl xs ρ h = .ok l h' → l.length = xs.length
  | [], h, h', l, e => by
    unfold MP.evL at e; cases e; rfl
  | x :: xs, h, h', l, e => by
    unfold MP.evL at e
    cases h1 : MP.ev G fl x ρ h with
    | ok a h1' =>
      rw [h1] at e
      simp only [MP.R.bind_ok] at e
      cases h2 : MP.evL G fl xs ρ (MP.keep h1' a).2 with
      | ok l' h2' =>
        rw [h2] at e
        simp only [MP.R.bind_ok] at e
        cases e
        simp [evL_length h2]
      | exc k h2' => rw [h2] at e; cases e
      | err => rw [h2] at e; cases e
    | exc k h1' => rw [h1] at e; cases e
    | err => rw [h1] at e; cases e

section
variable {c : Ct} {pos : Pos}
/-! ### displays -/
/-- a tuple that is laid, all of it known -/
def tTupF (t : TA) : TE := fun σ H Q => t σ H fun xs H1 => xs.length ≤ sizeLine ∧ ∀ p o, H1 p = none → o.dict = none → Q (.ref p) (upd H1 p (.frz o (.tup xs)))
theorem pe_tupF {X : Cx} {es : List Expr} {t : TA} {pos : Pos} {x1} (h : PA X es t) : PE X (.Tuple es x1 pos) (tTupF t) := by
  refine ⟨fun pins s σ H Q I hq => ?_⟩
  refine wpAny_Tuple_spliced (thn (h.run pos pins s σ H _ I hq) fun us s1 ⟨xs, H1, I1, r, z, q⟩ => ⟨by rw [← r.length]; exact z, ?_⟩)
  have hf : H1 s1.heap.objs.size = none := I1.hok.fresh (Nat.le_refl _)
  refine ⟨.ref s1.heap.objs.size, upd H1 s1.heap.objs.size (.frz { cls := .type "tuple", data := .seq us.toArray } (.tup xs)), I1.laid (t' := s1.toks) (fun b u e => Heap.get?_push_of_some _ e) (Nat.le_refl _) ?_, rfl, q _ _ hf rfl⟩
  exact ⟨Heap.get?_push_size _ rfl, z, us, r, ⟨_, Heap.get?_push_size _ rfl, rfl, _, rfl⟩⟩
/-- t + u -/
def rCatF (K : PySem.W.Frag) : R2 := fun x y H Q => ∃ a b xs ys, x = .ref a ∧ y = .ref b ∧ SqT K H a xs ∧ SqT K H b ys ∧ xs.length + ys.length ≤ sizeLine ∧
  (xs = [] → Q (.ref b) H) ∧ (xs ≠ [] → ys = [] → Q (.ref a) H) ∧ (xs ≠ [] → ys ≠ [] → ∀ p o, H p = none → o.dict = none → Q (.ref p) (upd H p (.frz o (.tup (xs ++ ys)))))
theorem op_catF {X : Cx} : OpR X (binaryOp .Add) (rCatF X.K) := by
  intro pins s σ H x y v u Q I rx ry h
  obtain ⟨a, b, xs, ys, rfl, rfl, ha, hb, hz, q0, q1, q2⟩ := h
  by_cases hx : xs = []
  · subst hx
    cases rx
    cases ry
    obtain ⟨its, r1, p1, _⟩ := I.tuple ha
    obtain ⟨its2, r2, p2, _⟩ := I.tuple hb
    cases r1
    exact cat_tup0 p1 p2 ⟨.ref b, H, I, rfl, q0 rfl⟩
  · cases rx
    cases ry
    obtain ⟨its, r1, p1, _⟩ := I.tuple ha
    obtain ⟨its2, r2, p2, _⟩ := I.tuple hb
    refine HT.cat_tup p1 p2 (fun z => hx (r1.nil_iff.mp z)) (fun z => ⟨.ref a, H, I, rfl, q1 hx (r2.nil_iff.mp z)⟩) (fun z => ?_) (by rw [← r1.length, ← r2.length]; exact hz)
    refine ⟨.ref s.heap.objs.size, _, I.laid (t' := s.toks) (o := .frz { cls := .type "tuple", data := .seq (its ++ its2).toArray } (.tup (xs ++ ys))) (fun b ob q => Heap.get?_push_of_some _ q) (Nat.le_refl _) ?_, rfl, q2 hx (fun w => z (r2.nil_iff.mpr w)) _ _ (I.hok.fresh (Nat.le_refl _)) rfl⟩
    exact ⟨Heap.get?_push_size _ rfl, by rw [List.length_append]; exact hz, _, r1.append r2, IsTup.new _ _⟩
/-- t[lo:hi]: the whole of it is t itself -/
def rSlF (K : PySem.W.Frag) : V → Option Int → Option Int → L2.Hp → VK → Prop := fun x lo hi H Q => ∃ a xs, x = .ref a ∧ SqT K H a xs ∧
  (HT.sIx xs.length 0 lo = 0 ∧ HT.sIx xs.length xs.length hi = xs.length → Q (.ref a) H) ∧ (¬ (HT.sIx xs.length 0 lo = 0 ∧ HT.sIx xs.length xs.length hi = xs.length) → ∀ p o, H p = none → o.dict = none → Q (.ref p) (upd H p (.frz o (.tup (cutV xs lo hi)))))
theorem sl_tupF {X : Cx} : SlR X (rSlF X.K) := by
  intro pins s σ H x v vl vu lo hi sl Q I rx hs pl pu h
  obtain ⟨a, xs, rfl, hx, q1, q2⟩ := h
  cases rx
  obtain ⟨its, r, ht, hz⟩ := I.tuple hx
  have hlen : its.toArray.size = xs.length := by rw [List.size_toArray]; exact r.length.symm
  refine ⟨"tuple", _, PyProof.Rows.slot_tuple_getitem.lookup, ht.typeIs, ?_⟩
  by_cases hw : HT.sIx xs.length 0 lo = 0 ∧ HT.sIx xs.length xs.length hi = xs.length
  · exact getItem_tuple_whole ht hs pl pu (by rw [hlen]; exact hw) ⟨.ref a, H, I, rfl, q1 hw⟩
  · refine HT.getItem_tuple_cut ht hs pl pu (by rw [hlen]; exact hw) ?_ (by rw [hlen]; exact hz)
    rw [hlen]
    refine ⟨.ref s.heap.objs.size, _, I.laid (t' := s.toks) (o := .frz { cls := .type "tuple", data := .seq (List.take (HT.sIx xs.length xs.length hi - HT.sIx xs.length 0 lo) (List.drop (HT.sIx xs.length 0 lo) its.toArray.toList)).toArray } (.tup (cutV xs lo hi))) (fun b ob q => Heap.get?_push_of_some _ q) (Nat.le_refl _) ?_, rfl, q2 hw _ _ (I.hok.fresh (Nat.le_refl _)) rfl⟩
    exact ⟨Heap.get?_push_size _ rfl, Nat.le_trans (cutV_length xs lo hi) hz, _, (r.drop (HT.sIx xs.length 0 lo)).take (HT.sIx xs.length xs.length hi - HT.sIx xs.length 0 lo), IsTup.new _ _⟩
theorem s_tup {xs : List MP.Ex} {es : List Expr} {k : Nat} (ha : SA c xs es) (hz : xs.length ≤ 1000) : SE c (.tup xs) (.Tuple es k pos) := by
  obtain ⟨t, ht, q⟩ := ha
  intro fl ρ h σ m H F Q er S p
  refine peSem (pe_tupF ht) ?_
  unfold MP.ev at p
  refine q fl ρ h σ m H F _ er S (p.bind fun l h1 m1 H1 F1 us er1 e1 S1 r1 p1 => ⟨?_, fun a o na hd => ?_⟩)
  · rw [← Reps.length r1, evL_length er1, sizeLine_eq]; omega
  · refine p1 m1 _ _ _ (e1.trans (Ext.newF na)) (S1.newF na (by show us.length ≤ sizeLine; rw [← Reps.length r1, evL_length er1, sizeLine_eq]; omega)) ⟨a, us, rfl, ⟨o, upd_same, hd⟩, r1.mono (S1.le.self na) (List.prefix_refl _)⟩
theorem nls_new {m0 : List Addr} {H0 F0 : L2.Hp} {m : List Addr} {h : MP.Hp} {H F : L2.Hp} {l : List MP.D} {vs : List V} {a : Addr} (e : Ext m0 H0 F0 m H F) (S : c.Sm m h H F) (r : Reps c.X.K F m l vs) (z : l.length ≤ sizeLine) (na : H a = none) :
    Ext m0 H0 F0 m (upd H a (.lst vs)) F ∧ c.Sm m h (upd H a (.lst vs)) F ∧ RepV c.X.K H0 m (upd H a (.lst vs)) F (.nls l) (.ref a) := by
  refine ⟨e.trans (Ext.new na), S.new na (by show vs.length ≤ sizeLine; rw [← r.length]; exact z), a, vs, rfl, ?_, upd_same, ?_, fun q => S.ne q na, r⟩
  · exact Classical.byContradiction fun q => e.th a q na
  · cases q : F a with
    | none => rfl
    | some o => have := S.le a o q; rw [na] at this; cases this
theorem s_lst {xs : List MP.Ex} {es : List Expr} (ha : SA c xs es) (hz : xs.length ≤ 1000) : SE c (.lst xs) (.List es pos) := by
  obtain ⟨t, ht, q⟩ := ha
  intro fl ρ h σ m H F Q er S p
  refine peSem (pe_lst ht) ?_
  unfold MP.ev at p
  refine q fl ρ h σ m H F _ er S (p.bind fun l h1 m1 H1 F1 us er1 e1 S1 r1 p1 => ⟨?_, fun a na => ?_⟩)
  · rw [← Reps.length r1, evL_length er1, sizeLine_eq]; omega
  · obtain ⟨a1, a2, a3⟩ := nls_new e1 S1 r1 (by rw [evL_length er1, sizeLine_eq]; omega) na
    exact p1 m1 _ _ _ a1 a2 a3
theorem s_dnew : SE c .dnew (.Dict [] [] pos) := by
  intro fl ρ h σ m H F Q er S p
  refine peSem pe_dnewK (fun a na => ?_)
  refine p m _ F _ (Ext.new na) (S.new na trivial) ⟨a, [], rfl, na, upd_same, ?_, fun q => S.ne q na, rfl⟩
  cases q : F a with
  | none => rfl
  | some o => have := S.le a o q; rw [na] at this; cases this
theorem s_dnewT : SE c .dnewT (.Dict [] [] pos) := by
  intro fl ρ h σ m H F Q er S p
  refine peSem pe_dnewT (fun a na => ?_)
  refine p m _ F _ (Ext.new na) (S.new na trivial) ⟨a, [], rfl, na, upd_same, ?_, fun q => S.ne q na, rfl⟩
  cases q : F a with
  | none => rfl
  | some o => have := S.le a o q; rw [na] at this; cases this

/-! ### operators -/
def WOp (X : Cx) (f : Value → Value → Sem Value) (x y : V) (σ : L2.St) (H : L2.Hp) (Q : VK) : Prop := ∀ pins s v u, Inv X pins σ H s → RelV x v → RelV y u → wpAny (model X.prog X.w) X.A (f v u) (EP X pins σ Q) X.xe s
theorem wop_of {X : Cx} {f : Value → Value → Sem Value} {r : R2} (ho : OpR X f r) {x y : V} {σ : L2.St} {H : L2.Hp} {Q : VK} (h : r x y H Q) : WOp X f x y σ H Q := fun pins s v u I rx ry => ho pins s σ H x y v u Q I rx ry h
theorem we_bin {a b : Expr} {op : Operator} {σ : L2.St} {H : L2.Hp} {Q : VK} {X : Cx} (h : WE X a σ H fun x H1 => WE X b σ H1 fun y H2 => WOp X (binaryOp op) x y σ H2 Q) : WE X (.BinOp a op b pos) σ H Q := fun pins s I =>
  wpAny_BinOp (bin pe_sem pe_sem I h fun v u s2 x y H2 I2 rx ry q => q pins s2 v u I2 rx ry)
/-- the promise of an operation that changes nothing of the small heap -/
def PostO (c : Ct) (m0 : List Addr) (H0 F0 : L2.Hp) (Q : VK) (v : MP.Vl) (h : MP.Hp) : Prop := ∀ m' H' F' u, Ext m0 H0 F0 m' H' F' → c.Sm m' h H' F' → RepV c.X.K H0 m' H' F' v u → Q u H'
def BinS (c : Ct) (op : MP.Bop) (f : Value → Value → Sem Value) : Prop := ∀ H1 H2 m h H F x y vx vy v Q σ, c.Sm m h H F → RepV c.X.K H1 m H F x vx → RepV c.X.K H2 m H F y vy → MP.binOp h op x y = some v → PostO c m H F Q v h → WOp c.X f vx vy σ H Q
theorem post_of {σ : L2.St} {m : List Addr} {H F : L2.Hp} {Q : VK} {o : Option MP.Vl} {h : MP.Hp} (p : Post c (rV c) σ m H F Q (MP.R.of o h)) : ∃ v, o = some v ∧ PostO c m H F Q v h := by
  cases o with
  | none => exact p.elim
  | some v => exact ⟨v, rfl, p⟩
theorem s_bin {op : MP.Bop} {op' : Operator} {x y : MP.Ex} {a b : Expr} (ho : BinS c op (binaryOp op')) (hx : SE c x a) (hy : SE c y b) : SE c (.bin op x y) (.BinOp a op' b pos) := by
  intro fl ρ h σ m H F Q er S p
  unfold MP.ev at p
  refine we_bin (hx fl ρ h σ m H F _ er S (p.bind fun v h1 m1 H1 F1 u _ e1 S1 r1 p1 => ?_))
  refine hy fl ρ h1 σ m1 H1 F1 _ (er.ext e1 S.le) S1 ((p1.shift early_V e1).bind fun w h2 m2 H2 F2 z _ e2 S2 r2 p2 => ?_)
  obtain ⟨k, hk, p3⟩ := post_of (p2.shift early_V e2)
  exact ho H H1 m2 h2 H2 F2 v w u z k Q σ S2 (r1.ext e2 S1.le) r2 hk p3

/-! ### the operators themselves -/
theorem PostO.now {m : List Addr} {h : MP.Hp} {H F : L2.Hp} {Q : VK} {d : MP.D} {u : V} (p : PostO c m H F Q (.d d) h) (S : c.Sm m h H F) (r : Rep c.X.K F m d u) : Q u H := p m H F u (Ext.refl _ _ _) S r
theorem PostO.nls {m : List Addr} {h : MP.Hp} {H F : L2.Hp} {Q : VK} {l : List MP.D} {vs : List V} {a : Addr} (p : PostO c m H F Q (.nls l) h) (S : c.Sm m h H F) (r : Reps c.X.K F m l vs) (z : l.length ≤ sizeLine) (na : H a = none) : Q (.ref a) (upd H a (.lst vs)) := by
  obtain ⟨a1, a2, a3⟩ := nls_new (Ext.refl _ _ _) S r z na
  exact p m _ F _ a1 a2 a3
theorem PostO.tup {m : List Addr} {h : MP.Hp} {H F : L2.Hp} {Q : VK} {l : List MP.D} {vs : List V} {a : Addr} (p : PostO c m H F Q (.d (.tup l)) h) (S : c.Sm m h H F) (r : Reps c.X.K F m l vs) (z : l.length ≤ sizeLine) {o : Obj} (na : H a = none) (hd : o.dict = none) : Q (.ref a) (upd H a (.frz o (.tup vs))) :=
  p m _ _ _ (Ext.newF na) (S.newF na (by show vs.length ≤ sizeLine; rw [← r.length]; exact z)) ⟨a, vs, rfl, ⟨o, upd_same, hd⟩, r.mono (S.le.self na) (List.prefix_refl _)⟩
/-- no longer than lists are -/
theorem Reps.sizeL {m : List Addr} {h : MP.Hp} {H F : L2.Hp} {a : Addr} {l : List MP.D} {vs : List V} (S : c.Sm m h H F) (e : H a = some (.lst vs)) (r : Reps c.X.K F m l vs) : l.length ≤ sizeLine := by
  rw [r.length]; exact S.sz a _ e
theorem Reps.sizeT {m : List Addr} {h : MP.Hp} {H F : L2.Hp} {a : Addr} {l : List MP.D} {vs : List V} (S : c.Sm m h H F) {o : Obj} (e : H a = some (.frz o (.tup vs))) (r : Reps c.X.K F m l vs) : l.length ≤ sizeLine := by
  rw [r.length]; exact S.sz a _ e
theorem Reps.size {m : List Addr} {h : MP.Hp} {H F : L2.Hp} {a : Addr} {l : List MP.D} {vs : List V} (S : c.Sm m h H F) (e : SqT c.X.K H a vs) (r : Reps c.X.K F m l vs) : l.length ≤ sizeLine := by
  rw [r.length]
  rcases e with e | ⟨o, its, n, _, _, _, hz, rv⟩
  · rcases e with e | ⟨o, e⟩
    · exact S.sz a _ e
    · exact S.sz a _ e
  · have := rv.length
    simp at this; omega
/-- a list that is read -/
theorem lst_at {H1 : L2.Hp} {m : List Addr} {h : MP.Hp} {H F : L2.Hp} {x : MP.Vl} {v : V} {l : List MP.D} (S : c.Sm m h H F) (r : RepV c.X.K H1 m H F x v) (e : MP.lstOf h x = some l) : ∃ a vs, v = .ref a ∧ H a = some (.lst vs) ∧ Reps c.X.K F m l vs := by
  cases x with
  | nls l' =>
    cases e
    obtain ⟨a, vs, q, _, q2, _, _, q3⟩ := r
    exact ⟨a, vs, q, q2, q3⟩
  | ndc l' => cases e
  | ndt l' => cases e
  | d x =>
    cases x with
    | lst l' =>
      cases e
      obtain ⟨a, vs, q, q2, q3⟩ := r
      exact ⟨a, vs, q, S.le a _ q2, q3⟩
    | ref n =>
      obtain ⟨a, q, q2⟩ := r
      simp only [MP.lstOf] at e
      split at e
      · rename_i l' q3
        cases e
        obtain ⟨a', q4, vs, q5, q6⟩ := S.at q3
        rw [q] at q4; cases q4
        exact ⟨a, vs, q2, q5, q6⟩
      · cases e
    | _ => cases e
/-- a list or a tuple -/
theorem seq_at {H1 : L2.Hp} {m : List Addr} {h : MP.Hp} {H F : L2.Hp} {x : MP.Vl} {v : V} {l : List MP.D} (S : c.Sm m h H F) (r : RepV c.X.K H1 m H F x v) (e : MP.seqOf h x = some l) : ∃ a vs, v = .ref a ∧ (SqL c.X.K H a vs ∨ SqT c.X.K H a vs) ∧ Reps c.X.K F m l vs := by
  cases x with
  | nls l' =>
    obtain ⟨a, vs, q, q2, q3⟩ := lst_at S r (show MP.lstOf h (.nls l') = some l from e)
    exact ⟨a, vs, q, .inl (SqL.of q2), q3⟩
  | ndc l' => cases e
  | ndt l' => cases e
  | d x =>
    cases x with
    | lst l' =>
      obtain ⟨a, vs, q, q2, q3⟩ := lst_at S r (show MP.lstOf h (.d (.lst l')) = some l from e)
      exact ⟨a, vs, q, .inl (SqL.of q2), q3⟩
    | ltp l' =>
      cases e
      obtain ⟨a, vs, q, q2, q3⟩ := r
      exact ⟨a, vs, q, .inr (SqT.of (S.le a _ q2)), q3⟩
    | ctp l' =>
      cases e
      obtain ⟨a, vs, q, q2, q3⟩ := r
      exact ⟨a, vs, q, q2.imp S.le.sqL S.le.sqT, q3⟩
    | tup l' =>
      cases e
      obtain ⟨a, vs, q, ⟨o, q2, _⟩, q3⟩ := r
      exact ⟨a, vs, q, .inr (sq_ltp (S.le a _ q2)), q3⟩
    | ref n =>
      obtain ⟨a, q, q2⟩ := r
      simp only [MP.seqOf] at e
      split at e
      · rename_i l' q3
        cases e
        obtain ⟨a', q4, vs, q5, q6⟩ := S.at q3
        rw [q] at q4; cases q4
        exact ⟨a, vs, q2, .inl (SqL.of q5), q6⟩
      · rename_i l' q3
        cases e
        obtain ⟨a', q4, vs, q5, _, q6⟩ := S.at q3
        rw [q] at q4; cases q4
        exact ⟨a, vs, q2, .inl q5, q6⟩
      · cases e
    | _ => cases e
theorem tx_len (t : MP.Txt) : (tx t).length = t.length := by simp [tx, Str.length]
theorem tx_app (a b : MP.Txt) : tx a ++ tx b = tx (a ++ b) := by
  show (Str.mk _ : Str) = _
  simp [tx]
theorem rep_int {F : L2.Hp} {m : List Addr} {i : Int} {v : V} (r : Rep c.X.K F m (.int i) v) : v = .int i := r
theorem b_sub : BinS c .sub (binaryOp .Sub) := by
  intro H1 H2 m h H F x y vx vy v Q σ S rx ry e p
  simp only [MP.binOp] at e
  unfold MP.subV at e
  split at e
  · cases e
    cases rx; cases ry
    exact wop_of op_sub ⟨_, _, rfl, rfl, p.now S rfl⟩
  · cases e
theorem b_fdv : BinS c .fdv (binaryOp .FloorDiv) := by
  intro H1 H2 m h H F x y vx vy v Q σ S rx ry e p
  simp only [MP.binOp] at e
  unfold MP.fdvV at e
  split at e
  · split at e
    · rename_i hc
      cases e; cases rx; cases ry
      exact wop_of op_fdiv ⟨_, _, rfl, rfl, hc, p.now S rfl⟩
    · cases e
  · cases e
theorem b_mod : BinS c .mod (binaryOp .Mod) := by
  intro H1 H2 m h H F x y vx vy v Q σ S rx ry e p
  simp only [MP.binOp] at e
  unfold MP.modV at e
  split at e
  · split at e
    · rename_i hc
      cases e; cases rx; cases ry
      exact wop_of op_mod ⟨_, _, rfl, rfl, hc, p.now S rfl⟩
    · cases e
  · cases e
theorem b_pow : BinS c .pow (binaryOp .Pow) := by
  intro H1 H2 m h H F x y vx vy v Q σ S rx ry e p
  simp only [MP.binOp] at e
  unfold MP.powV at e
  split at e
  · split at e
    · rename_i hc
      cases e; cases rx; cases ry
      exact wop_of op_pow ⟨_, _, rfl, rfl, ⟨hc.1, hc.2.1, by have := hc.2.2; omega⟩, p.now S rfl⟩
    · cases e
  · cases e
theorem Reps.rep {F : L2.Hp} {m : List Addr} {l : List MP.D} {vs : List V} (r : Reps c.X.K F m l vs) : ∀ k : Nat, Reps c.X.K F m (List.replicate k l).flatten (List.replicate k vs).flatten
  | 0 => rfl
  | k + 1 => by
    rw [List.replicate_succ, List.replicate_succ, List.flatten_cons, List.flatten_cons]
    exact r.append (Reps.rep r k)
theorem b_mul : BinS c .mul (binaryOp .Mult) := by
  intro H1 H2 m h H F x y vx vy v Q σ S rx ry e p
  simp only [MP.binOp] at e
  unfold MP.mulV at e
  split at e
  · split at e
    · rename_i hc
      cases e; cases rx; cases ry
      refine wop_of op_mul ⟨_, _, rfl, rfl, ?_, p.now S rfl⟩
      rcases hc with hc | hc
      · exact .inr ⟨by omega, by omega⟩
      · exact .inl ⟨by omega, by omega⟩
    · cases e
  · split at e
    · rename_i l hl
      split at e
      · rename_i hc
        cases e; cases ry
        obtain ⟨a, vs, rfl, ea, ra⟩ := lst_at S rx hl
        refine wop_of op_rep ⟨_, _, _, rfl, rfl, ea, by omega, by omega, ?_, fun q nq => p.nls S (Reps.rep ra _) ?_ nq⟩
        · rw [← ra.length, sizeLine_eq]; exact hc.2.1
        · simp only [List.length_flatten, List.map_replicate, List.sum_replicate_nat]
          rw [Nat.mul_comm, sizeLine_eq]; exact hc.2.1
      · cases e
    · cases e
  · cases e
theorem b_add : BinS c .add (binaryOp .Add) := by
  intro H1 H2 m h H F x y vx vy v Q σ S rx ry e p
  simp only [MP.binOp] at e
  unfold MP.addV at e
  split at e
  · cases e; cases rx; cases ry
    exact wop_of op_add ⟨_, _, rfl, rfl, p.now S rfl⟩
  · split at e
    · rename_i hc
      cases e
      obtain ⟨rfl, kx⟩ := rx
      obtain ⟨rfl, ky⟩ := ry
      refine wop_of op_add_str ⟨_, _, rfl, rfl, ?_, ?_⟩
      · rw [tx_len, tx_len, sizeLine_eq]; exact hc
      · rw [tx_app]
        exact p.now S ⟨rfl, fun k hk => (List.mem_append.mp hk).elim (kx k) (ky k)⟩
    · cases e
  · rename_i l r
    split at e
    · rename_i hc
      cases e
      obtain ⟨a, vs, rfl, ⟨oa, ta, da⟩, ra⟩ := rx
      obtain ⟨b, ws, rfl, ⟨ob, tb, db⟩, rb⟩ := ry
      refine wop_of op_catF ⟨a, b, vs, ws, rfl, rfl, sq_ltp (S.le a _ ta), sq_ltp (S.le b _ tb), ?_, fun z => ?_, fun _ z => ?_, fun _ _ q o nq hd => p.tup S (ra.append rb) (by rw [List.length_append, sizeLine_eq]; exact hc) nq hd⟩
      · rw [← ra.length, ← rb.length, sizeLine_eq]; exact hc
      · subst z
        have el : l = [] := List.eq_nil_of_length_eq_zero ra.length
        subst el
        exact p.now S ⟨b, ws, rfl, ⟨ob, tb, db⟩, rb⟩
      · subst z
        have el : r = [] := List.eq_nil_of_length_eq_zero rb.length
        subst el
        rw [List.append_nil] at p
        exact p.now S ⟨a, vs, rfl, ⟨oa, ta, da⟩, ra⟩
    · cases e
  · split at e
    · rename_i l r hl hr
      split at e
      · rename_i hc
        cases e
        obtain ⟨a, vs, rfl, ea, ra⟩ := lst_at S rx hl
        obtain ⟨b, ws, rfl, eb, rb⟩ := lst_at S ry hr
        refine wop_of op_cat ⟨_, _, _, _, rfl, rfl, ea, eb, ?_, fun q nq => p.nls S (ra.append rb) (by rw [List.length_append, sizeLine_eq]; exact hc) nq⟩
        rw [← ra.length, ← rb.length, sizeLine_eq]; exact hc
      · cases e
    · cases e

/-! ### data -/
end
mutual
def pyD : MP.D → PyData
  | .non => .none
  | .bl b => .bool b
  | .int i => .int i
  | .str t => .str (tx t)
  | .tup l => .tuple (pyL l)
  | .ltp l => .tuple (pyL l)
  | .lst l => .list (pyL l)
  | .ctp _ => .none
  | .ref _ => .none
def pyL : List MP.D → List PyData
  | [] => []
  | d :: r => pyD d :: pyL r
end
theorem pyL_map : ∀ l : List MP.D, pyL l = l.map pyD
  | [] => rfl
  | d :: r => by rw [pyL, pyL_map r, List.map_cons]
theorem tx_beq (a b : MP.Txt) : (tx a == tx b) = (a == b) := by
  by_cases e : a = b
  · subst e; simp
  · rw [beq_eq_false_iff_ne.mpr e, beq_eq_false_iff_ne.mpr fun q => e (tx_inj q)]
mutual
theorem eqv_pyD : ∀ (a b : MP.D) {k j : Nat}, MP.nrN k a = true → MP.nrN j b = true → PyData.eqv (pyD a) (pyD b) = MP.eqD a b
  | .non, b, _, _, _, hb => by cases b <;> first | rfl | (simp [MP.nrN] at hb)
  | .bl x, b, _, _, _, hb => by cases b <;> first | rfl | (simp [MP.nrN] at hb)
  | .int x, b, _, _, _, hb => by cases b <;> first | rfl | (simp [MP.nrN] at hb)
  | .str x, b, _, _, _, hb => by
    cases b <;> first | rfl | (simp [MP.nrN] at hb; done) | skip
    exact tx_beq _ _
  | .tup l, b, k, j, ha, hb => by
    cases b <;> first | rfl | (simp [MP.nrN] at hb; done) | skip
    all_goals
      rename_i r
      cases k with
      | zero => cases ha
      | succ k =>
        cases j with
        | zero => cases hb
        | succ j => exact eqv_pyL l r ha hb
  | .ltp l, b, k, j, ha, hb => by
    cases b <;> first | rfl | (simp [MP.nrN] at hb; done) | skip
    all_goals
      rename_i r
      cases k with
      | zero => cases ha
      | succ k =>
        cases j with
        | zero => cases hb
        | succ j => exact eqv_pyL l r ha hb
  | .lst l, b, k, j, ha, hb => by
    cases b <;> first | rfl | (simp [MP.nrN] at hb; done) | skip
    rename_i r
    cases k with
    | zero => cases ha
    | succ k =>
      cases j with
      | zero => cases hb
      | succ j => exact eqv_pyL l r ha hb
  | .ref n, b, _, _, ha, _ => by simp [MP.nrN] at ha
  | .ctp n, b, _, _, ha, _ => by simp [MP.nrN] at ha
theorem eqv_pyL : ∀ (l r : List MP.D) {k j : Nat}, MP.nrL k l = true → MP.nrL j r = true → PyData.eqvAll (pyL l) (pyL r) = MP.eqL l r
  | [], [], _, _, _, _ => rfl
  | [], _ :: _, _, _, _, _ => rfl
  | _ :: _, [], _, _, _, _ => rfl
  | a :: l, b :: r, k, j, ha, hb => by
    simp only [MP.nrL, Bool.and_eq_true] at ha hb
    show (PyData.eqv (pyD a) (pyD b) && PyData.eqvAll (pyL l) (pyL r)) = (MP.eqD a b && MP.eqL l r)
    rw [eqv_pyD a b ha.1 hb.1, eqv_pyL l r ha.2 hb.2]
end
section
variable {K : PySem.W.Frag} {F H : L2.Hp} {m : List Addr}
mutual
theorem rep_dp (le : Le F H) : ∀ (d : MP.D) (v : V) {k : Nat}, MP.nrN k d = true → Rep K F m d v → Dp K H v (pyD d) ∧ (pyD d).canLay0 = true ∧ (pyD d).depth ≤ k
  | .non, v, _, _, h => by cases h; exact ⟨.non, rfl, Nat.zero_le _⟩
  | .bl b, v, _, _, h => by cases h; exact ⟨.bl b, rfl, Nat.zero_le _⟩
  | .int b, v, _, _, h => by cases h; exact ⟨.int b, rfl, Nat.zero_le _⟩
  | .str t, v, _, _, h => by
    obtain ⟨rfl, h⟩ := h
    refine ⟨.str _, ?_, Nat.zero_le _⟩
    show (tx t).cps.all (· < 0x110000) = true
    simp [tx]
    exact h
  | .ltp l, v, k, hn, ⟨a, vs, e, s, r⟩ => by
    subst e
    cases k with
    | zero => cases hn
    | succ k =>
      obtain ⟨q1, q2, q3⟩ := reps_dp le l vs hn r
      exact ⟨.tup (SqT.of (le a _ s)) q1, q2, Nat.succ_le_succ q3⟩
  | .tup l, v, k, hn, ⟨a, vs, e, ⟨o, s, _⟩, r⟩ => by
    subst e
    cases k with
    | zero => cases hn
    | succ k =>
      obtain ⟨q1, q2, q3⟩ := reps_dp le l vs hn r
      exact ⟨.tup (sq_ltp (le a _ s)) q1, q2, Nat.succ_le_succ q3⟩
  | .lst l, v, k, hn, ⟨a, vs, e, s, r⟩ => by
    subst e
    cases k with
    | zero => cases hn
    | succ k =>
      obtain ⟨q1, q2, q3⟩ := reps_dp le l vs hn r
      exact ⟨.lst (SqL.of (le a _ s)) q1, q2, Nat.succ_le_succ q3⟩
  | .ref n, v, _, hn, _ => by simp [MP.nrN] at hn
  | .ctp n, v, _, hn, _ => by simp [MP.nrN] at hn
theorem reps_dp (le : Le F H) : ∀ (l : List MP.D) (vs : List V) {k : Nat}, MP.nrL k l = true → Reps K F m l vs → DpAll K H vs (pyL l) ∧ PyData.canLayAll0 (pyL l) = true ∧ PyData.depthAll (pyL l) ≤ k
  | [], _, _, _, h => by cases h; exact ⟨.nil, rfl, Nat.zero_le _⟩
  | d :: l, _, k, hn, ⟨v, r, e, h1, h2⟩ => by
    subst e
    simp only [MP.nrL, Bool.and_eq_true] at hn
    obtain ⟨a1, a2, a3⟩ := rep_dp le d v hn.1 h1
    obtain ⟨b1, b2, b3⟩ := reps_dp le l r hn.2 h2
    exact ⟨.cons a1 b1, by show (_ && _) = true; rw [a2, b2]; rfl, Nat.max_le.mpr ⟨a3, b3⟩⟩
end
theorem rep_shaped {d : MP.D} (h1 : (pyD d).canLay0 = true) (h2 : (pyD d).depth ≤ 64) : SeqAt.shaped (pyD d) = true := by
  unfold SeqAt.shaped
  rw [h1, decide_eq_true h2]; rfl
end
section
variable {c : Ct} {pos : Pos}
/-- a comparable whole, as data -/
theorem data_at {H1 : L2.Hp} {m : List Addr} {h : MP.Hp} {H F : L2.Hp} {x : MP.Vl} {v : V} {d : MP.D} (S : c.Sm m h H F) (r : RepV c.X.K H1 m H F x v) (e : MP.dataOf h x = some d) : Dp c.X.K H v (pyD d) ∧ SeqAt.shaped (pyD d) = true ∧ MP.nr d = true := by
  have lists : ∀ {l : List MP.D}, MP.lstOf h x = some l → MP.nr (.lst l) = true → Dp c.X.K H v (pyD (.lst l)) ∧ SeqAt.shaped (pyD (.lst l)) = true := fun {l} el hn => by
    obtain ⟨a, vs, rfl, ea, ra⟩ := lst_at S r el
    obtain ⟨q1, q2, q3⟩ := reps_dp S.le l vs hn ra
    exact ⟨.lst (SqL.of ea) q1, rep_shaped (d := .lst l) q2 (Nat.succ_le_succ q3)⟩
  cases x with
  | nls l =>
    simp only [MP.dataOf] at e
    split at e
    · rename_i hn
      cases e
      exact ⟨(lists rfl hn).1, (lists rfl hn).2, hn⟩
    · cases e
  | ndc l => cases e
  | ndt l => cases e
  | d x =>
    have plain : ∀ {x : MP.D}, Rep c.X.K F m x v → (if MP.nr x = true then some x else none) = some d → Dp c.X.K H v (pyD d) ∧ SeqAt.shaped (pyD d) = true ∧ MP.nr d = true := fun {x} r e => by
      split at e
      · rename_i hn
        cases e
        obtain ⟨q1, q2, q3⟩ := rep_dp S.le _ v hn r
        exact ⟨q1, rep_shaped q2 q3, hn⟩
      · cases e
    cases x with
    | ref n =>
      simp only [MP.dataOf] at e
      split at e
      · rename_i l hl
        split at e
        · rename_i hn
          cases e
          have el : MP.lstOf h (.d (.ref n)) = some l := by simp only [MP.lstOf, hl]
          exact ⟨(lists el hn).1, (lists el hn).2, hn⟩
        · cases e
      · cases e
    | non => exact plain r e
    | bl b => exact plain r e
    | int i => exact plain r e
    | str t => exact plain r e
    | tup l => exact plain r e
    | lst l => exact plain r e
    | ctp l => exact plain r e
    | ltp l => exact plain r e

/-! ### comparisons -/
def CmpS (c : Ct) (op : MP.Cop) (f : Value → Value → Sem Value) : Prop := ∀ H1 H2 m h H F x y vx vy k Q σ, c.Sm m h H F → RepV c.X.K H1 m H F x vx → RepV c.X.K H2 m H F y vy → MP.cmpOp h op x y = some k → Q (.bl k) H → WOp c.X f vx vy σ H Q
theorem we_cmp {a b : Expr} {op : CmpOp} {σ : L2.St} {H : L2.Hp} {Q : VK} {X : Cx} (h1 : behindInMarks op b = false) (h : WE X a σ H fun x H1 => WE X b σ H1 fun y H2 => WOp X (compareOp op) x y σ H2 Q) : WE X (.Compare a [op] [b] pos) σ H Q := fun pins s I =>
  wpAny_Compare1 (bin pe_sem pe_sem I h fun v u s2 x y H2 I2 rx ry q => q pins s2 v u I2 rx ry) h1
theorem wt_cmp {a b : Expr} {op : CmpOp} {σ : L2.St} {H : L2.Hp} {Q : Bool → L2.Hp → Prop} {X : Cx} (h1 : behindInMarks op b = false) (h : WE X a σ H fun x H1 => WE X b σ H1 fun y H2 => WOp X (compareOp op) x y σ H2 fun z H3 => ∃ k, z = .bl k ∧ Q k H3) : WT X (.Compare a [op] [b] pos) σ H Q := fun pins s I => by
  refine wpAny_isTrue_Compare1 (bin pe_sem pe_sem I h fun v u s2 x y H2 I2 rx ry q => thn (q pins s2 v u I2 rx ry) fun w s3 ⟨z, H3, I3, rz, k, ek, qk⟩ => ?_) h1
  subst ek
  cases rz
  exact wpAny_truthy_bool ⟨H3, I3, qk⟩
theorem post_bl {σ : L2.St} {m : List Addr} {H F : L2.Hp} {Q : VK} {o : Option Bool} {h : MP.Hp} (S : c.Sm m h H F) (p : Post c (rV c) σ m H F Q (match o with | some k => .ok (.d (.bl k)) h | none => .err)) : ∃ k, o = some k ∧ Q (.bl k) H := by
  cases o with
  | none => exact p.elim
  | some v => exact ⟨v, rfl, p m H F _ (Ext.refl _ _ _) S rfl⟩
theorem post_b {σ : L2.St} {m : List Addr} {H F : L2.Hp} {Q : Bool → L2.Hp → Prop} {o : Option Bool} {h : MP.Hp} (S : c.Sm m h H F) (p : Post c rB σ m H F Q (match o with | some k => .ok k h | none => .err)) : ∃ k, o = some k ∧ Q k H := by
  cases o with
  | none => exact p.elim
  | some v => exact ⟨v, rfl, p m H F _ (Ext.refl _ _ _) S rfl⟩
theorem s_cmp {op : MP.Cop} {op' : CmpOp} {x y : MP.Ex} {a b : Expr} (h1 : behindInMarks op' b = false) (ho : CmpS c op (compareOp op')) (hx : SE c x a) (hy : SE c y b) : SE c (.cmp op x y) (.Compare a [op'] [b] pos) := by
  intro fl ρ h σ m H F Q er S p
  unfold MP.ev at p
  refine we_cmp h1 (hx fl ρ h σ m H F _ er S (p.bind fun v h1 m1 H1 F1 u _ e1 S1 r1 p1 => ?_))
  refine hy fl ρ h1 σ m1 H1 F1 _ (er.ext e1 S.le) S1 ((p1.shift early_V e1).bind fun w h2 m2 H2 F2 z _ e2 S2 r2 p2 => ?_)
  obtain ⟨k, hk, p3⟩ := post_bl S2 (p2.shift early_V e2)
  exact ho H H1 m2 h2 H2 F2 v w u z k Q σ S2 (r1.ext e2 S1.le) r2 hk p3
theorem t_cmp {op : MP.Cop} {op' : CmpOp} {x y : MP.Ex} {a b : Expr} (h1 : behindInMarks op' b = false) (ho : CmpS c op (compareOp op')) (hx : SE c x a) (hy : SE c y b) : ST c (.cmp op x y) (.Compare a [op'] [b] pos) := by
  intro fl ρ h σ m H F Q er S p
  unfold MP.evT at p
  refine wt_cmp h1 (hx fl ρ h σ m H F _ er S (p.bind fun v h1 m1 H1 F1 u _ e1 S1 r1 p1 => ?_))
  refine hy fl ρ h1 σ m1 H1 F1 _ (er.ext e1 S.le) S1 ((p1.shift early_B e1).bind fun w h2 m2 H2 F2 z _ e2 S2 r2 p2 => ?_)
  obtain ⟨k, hk, p3⟩ := post_b S2 (p2.shift early_B e2)
  exact ho H H1 m2 h2 H2 F2 v w u z k _ σ S2 (r1.ext e2 S1.le) r2 hk ⟨k, rfl, p3⟩
end
end MPS
end
section
set_option Elab.async false
set_option linter.all false
set_option maxRecDepth 100000
set_option maxHeartbeats 4000000
namespace MPS
open PySem PySem.Spec PyProof.Rows L2
/-! ### a dict with tuples for keys, asked by a tuple of which all is known -/
def DGetF (H : L2.Hp) (a : Addr) (y : V) (r : Option V) : Prop := ∃ kvs k b o, Rd H a (.dT kvs) ∧ y = .ref b ∧ H b = some (.frz o (.tup (List.map kV k))) ∧ r = valV kvs k
theorem key_ofF {P : Program} {w : World} {H : L2.Hp} {h : Heap} {a : Addr} {ks : List Key} {o : Obj} (ok : HOk P w H h) (e : H a = some (.frz o (.tup (ks.map kV)))) : (tupleKind (mixKind P w)).is h ks a := by
  obtain ⟨_, _, its, r, o, h1, h2, n, h3⟩ := (show ObjOk P w H h a (.frz o (.tup (ks.map kV))) from ok a _ e)
  exact ⟨o, its.toArray, n, h1, h2, h3, by simpa using items_are r⟩
section
variable {X : Cx} {pins : List (Addr × Obj)} {σ : L2.St} {H : L2.Hp} {s : Shared} {a : Addr} {y v : V} {u r : Value} {o : Option V} {A : Around} {E : Value → Shared → Prop}
theorem d_getItemF {Q : Value → Shared → Prop} (hu : A.units + 1 < cLine) (I : Inv X pins σ H s) (g : DGetF H a y (some v)) (ry : RelV y u) (h : ∀ w' s', Inv X pins σ H s' → RelV v w' → Q w' s') :
    wpAny (model X.prog X.w) A (getItem (.ref a) u) Q E s := by
  obtain ⟨kvs, k, b, ob, e, ey, eb, l⟩ := g
  subst ey
  cases (show u = Value.ref b from ry)
  obtain ⟨z, hd, xs, rel, dd⟩ := dt_rd I.hok e
  obtain ⟨w', hw, rw'⟩ := RelO.some_of (v := v) (o := (atKey xs k).map (·.2)) (by rw [l]; exact rel.val k)
  obtain ⟨p, hp, hp2⟩ := Option.map_eq_some_iff.mp hw
  refine wpAny_getItem_heap (tupleKind_room_in1 hu) (key_ofF I.hok eb) dd hp ?_
  rw [hp2]
  exact h w' _ (I.tok _) rw'
theorem d_inF {Q : Value → Shared → Prop} (hu : A.units + 1 < cLine) (I : Inv X pins σ H s) (g : DGetF H a y o) (ry : RelV y u) (h : ∀ s', Inv X pins σ H s' → Q (.bool o.isSome) s') :
    wpAny (model X.prog X.w) A (compareOp .In u (.ref a)) Q E s := by
  obtain ⟨kvs, k, b, ob, e, ey, eb, l⟩ := g
  subst ey
  cases (show u = Value.ref b from ry)
  obtain ⟨z, hd, xs, rel, dd⟩ := dt_rd I.hok e
  refine wpAny_in_heap (tupleKind_room_in1 hu) (key_ofF I.hok eb) hd dd ?_
  have q := (rel.val k).isSome_eq
  rw [Option.isSome_map] at q
  rw [← q, ← l]
  exact h _ (I.tok _)
theorem d_notInF {Q : Value → Shared → Prop} (hu : A.units + 1 < cLine) (I : Inv X pins σ H s) (g : DGetF H a y o) (ry : RelV y u) (h : ∀ s', Inv X pins σ H s' → Q (.bool (!o.isSome)) s') :
    wpAny (model X.prog X.w) A (compareOp .NotIn u (.ref a)) Q E s := by
  obtain ⟨kvs, k, b, ob, e, ey, eb, l⟩ := g
  subst ey
  cases (show u = Value.ref b from ry)
  obtain ⟨z, hd, xs, rel, dd⟩ := dt_rd I.hok e
  refine wpAny_notIn_heap (tupleKind_room_in1 hu) (key_ofF I.hok eb) hd dd ?_
  have q := (rel.val k).isSome_eq
  rw [Option.isSome_map] at q
  rw [← q, ← l]
  exact h _ (I.tok _)
end
section
variable {c : Ct} {pos : Pos}
theorem ltT_iff : ∀ (a b : MP.Txt), MP.ltT a b = true ↔ a < b
  | [], [] => by simp [MP.ltT]
  | [], _ :: _ => by simp [MP.ltT]
  | _ :: _, [] => by simp [MP.ltT]
  | x :: a, y :: b => by
    unfold MP.ltT
    rw [List.cons_lt_cons_iff]
    by_cases h1 : x < y
    · simp [h1]
    · by_cases h2 : y < x
      · have : ¬ x = y := by omega
        simp [h1, h2, this]
      · have : x = y := by omega
        subst this
        simp [h1, ltT_iff a b]
theorem ltT_dec (a b : MP.Txt) {i : Decidable (a < b)} : @decide (a < b) i = MP.ltT a b := by
  rw [Bool.eq_iff_iff, decide_eq_true_iff, ltT_iff]
theorem k_lt : CmpS c .lt (compareOp .Lt) := by
  intro H1 H2 m h H F x y vx vy k Q σ S rx ry e q
  simp only [MP.cmpOp] at e
  unfold MP.ltV at e
  split at e
  · cases e; cases rx; cases ry
    exact wop_of op_lt ⟨_, _, rfl, rfl, q⟩
  · cases e
    obtain ⟨rfl, _⟩ := rx
    obtain ⟨rfl, _⟩ := ry
    refine wop_of op_lt_str ⟨_, _, rfl, rfl, ?_⟩
    show Q (.bl (decide (_ < _))) H
    rw [ltT_dec]; exact q
  · cases e
theorem k_gt : CmpS c .gt (compareOp .Gt) := by
  intro H1 H2 m h H F x y vx vy k Q σ S rx ry e q
  simp only [MP.cmpOp] at e
  unfold MP.ltV at e
  split at e
  · cases e; cases rx; cases ry
    exact wop_of op_gt ⟨_, _, rfl, rfl, q⟩
  · cases e
    obtain ⟨rfl, _⟩ := rx
    obtain ⟨rfl, _⟩ := ry
    refine wop_of op_gt_str ⟨_, _, rfl, rfl, ?_⟩
    show Q (.bl (decide (_ < _))) H
    rw [ltT_dec]; exact q
  · cases e
theorem k_le : CmpS c .le (compareOp .LtE) := by
  intro H1 H2 m h H F x y vx vy k Q σ S rx ry e q
  simp only [MP.cmpOp] at e
  unfold MP.leV at e
  split at e
  · cases e; cases rx; cases ry
    exact wop_of op_le ⟨_, _, rfl, rfl, q⟩
  · cases e
theorem k_ge : CmpS c .ge (compareOp .GtE) := by
  intro H1 H2 m h H F x y vx vy k Q σ S rx ry e q
  simp only [MP.cmpOp] at e
  unfold MP.leV at e
  split at e
  · cases e; cases rx; cases ry
    exact wop_of op_ge ⟨_, _, rfl, rfl, q⟩
  · cases e
theorem eqVl_at {H1 H2 : L2.Hp} {m : List Addr} {h : MP.Hp} {H F : L2.Hp} {x y : MP.Vl} {vx vy : V} {k : Bool} (S : c.Sm m h H F) (rx : RepV c.X.K H1 m H F x vx) (ry : RepV c.X.K H2 m H F y vy) (e : MP.eqVl h x y = some k) :
    ∃ d e', Dp c.X.K H vx d ∧ Dp c.X.K H vy e' ∧ SeqAt.shaped d = true ∧ SeqAt.shaped e' = true ∧ PyData.eqv d e' = k := by
  unfold MP.eqVl at e
  split at e
  · rename_i a b ha hb
    cases e
    obtain ⟨x1, x2, x3⟩ := data_at S rx ha
    obtain ⟨y1, y2, y3⟩ := data_at S ry hb
    exact ⟨_, _, x1, y1, x2, y2, eqv_pyD a b x3 y3⟩
  · cases e
theorem k_eq (hu : c.X.A.units + 64 < cLine) : CmpS c .eq (compareOp .Eq) := by
  intro H1 H2 m h H F x y vx vy k Q σ S rx ry e q
  obtain ⟨d, e', h1, h2, h3, h4, h5⟩ := eqVl_at S rx ry (show MP.eqVl h x y = some k from e)
  exact wop_of (op_eqD hu) ⟨d, e', h1, h2, h3, h4, by rw [h5]; exact q⟩
theorem k_ne (hu : c.X.A.units + 64 < cLine) : CmpS c .ne (compareOp .NotEq) := by
  intro H1 H2 m h H F x y vx vy k Q σ S rx ry e q
  simp only [MP.cmpOp, Option.map_eq_some_iff] at e
  obtain ⟨k', e, rfl⟩ := e
  obtain ⟨d, e', h1, h2, h3, h4, h5⟩ := eqVl_at S rx ry e
  exact wop_of (op_neD hu) ⟨d, e', h1, h2, h3, h4, by rw [h5]; exact q⟩
theorem isNon_at {H1 : L2.Hp} {m : List Addr} {H F : L2.Hp} {x : MP.Vl} {v : V} (r : RepV c.X.K H1 m H F x v) : decide (v = .non) = MP.isNon x := by
  cases x with
  | d x =>
    cases x with
    | non => cases r; rfl
    | bl b => cases r; rfl
    | int b => cases r; rfl
    | str b => obtain ⟨rfl, _⟩ := r; rfl
    | tup l => obtain ⟨a, _, rfl, _⟩ := r; rfl
    | lst l => obtain ⟨a, _, rfl, _⟩ := r; rfl
    | ctp l => obtain ⟨a, _, rfl, _⟩ := r; rfl
    | ltp l => obtain ⟨a, _, rfl, _⟩ := r; rfl
    | ref l => obtain ⟨a, _, rfl⟩ := r; rfl
  | nls l => obtain ⟨a, _, rfl, _⟩ := r; rfl
  | ndc l => obtain ⟨a, _, rfl, _⟩ := r; rfl
  | ndt l => obtain ⟨a, _, rfl, _⟩ := r; rfl
theorem isNon_v {H1 : L2.Hp} {m : List Addr} {H F : L2.Hp} {x : MP.Vl} {v : V} (r : RepV c.X.K H1 m H F x v) (e : MP.isNon x = true) : v = .non := by
  rw [← isNon_at r] at e; exact of_decide_eq_true e
theorem k_isn : CmpS c .isn (compareOp .Is) := by
  intro H1 H2 m h H F x y vx vy k Q σ S rx ry e q
  simp only [MP.cmpOp] at e
  split at e
  · rename_i hb
    cases e
    exact wop_of op_isN ⟨isNon_v ry hb, by rw [isNon_at rx]; exact q⟩
  · cases e
theorem k_notn : CmpS c .notn (compareOp .IsNot) := by
  intro H1 H2 m h H F x y vx vy k Q σ S rx ry e q
  simp only [MP.cmpOp] at e
  split at e
  · rename_i hb
    cases e
    exact wop_of op_notN ⟨isNon_v ry hb, by rw [isNon_at rx]; exact q⟩
  · cases e
theorem bl_at {H1 : L2.Hp} {m : List Addr} {H F : L2.Hp} {x : MP.Vl} {v : V} {b : Bool} (r : RepV c.X.K H1 m H F x v) (e : MP.blOf x = some b) : v = .bl b := by
  unfold MP.blOf at e
  split at e
  · cases e; exact r
  · cases e
theorem k_isb : CmpS c .isb (compareOp .Is) := by
  intro H1 H2 m h H F x y vx vy k Q σ S rx ry e q
  simp only [MP.cmpOp] at e
  split at e
  · rename_i a b ha hb
    cases e
    exact wop_of op_isBl ⟨a, b, bl_at rx ha, bl_at ry hb, q⟩
  · cases e
theorem k_notb : CmpS c .notb (compareOp .IsNot) := by
  intro H1 H2 m h H F x y vx vy k Q σ S rx ry e q
  simp only [MP.cmpOp] at e
  split at e
  · rename_i a b ha hb
    cases e
    exact wop_of op_notBl ⟨a, b, bl_at rx ha, bl_at ry hb, q⟩
  · cases e

/-! ### in -/
theorem dic_at {H1 : L2.Hp} {m : List Addr} {h : MP.Hp} {H F : L2.Hp} {x : MP.Vl} {v : V} {l : List (MP.Ky × MP.D)} (S : c.Sm m h H F) (r : RepV c.X.K H1 m H F x v) (e : MP.dicOf h x = some l) : ∃ a vs, v = .ref a ∧ H a = some (.dK vs) ∧ RepK c.X.K F m kyV kyOk l vs := by
  unfold MP.dicOf at e
  split at e
  · cases e
    obtain ⟨a, vs, q, _, q2, _, _, q3⟩ := r
    exact ⟨a, vs, q, q2, q3⟩
  · split at e
    · rename_i q3
      cases e
      obtain ⟨a, q, q2⟩ := r
      obtain ⟨a', q4, vs, q5, q6⟩ := S.at q3
      rw [q] at q4; cases q4
      exact ⟨a, vs, q2, q5, q6⟩
    · cases e
  · cases e
theorem dtu_at {H1 : L2.Hp} {m : List Addr} {h : MP.Hp} {H F : L2.Hp} {x : MP.Vl} {v : V} {l : List (List MP.Ky × MP.D)} (S : c.Sm m h H F) (r : RepV c.X.K H1 m H F x v) (e : MP.dtuOf h x = some l) : ∃ a vs, v = .ref a ∧ H a = some (.dT vs) ∧ RepK c.X.K F m (List.map kyV) kysOk l vs := by
  unfold MP.dtuOf at e
  split at e
  · cases e
    obtain ⟨a, vs, q, _, q2, _, _, q3⟩ := r
    exact ⟨a, vs, q, q2, q3⟩
  · split at e
    · rename_i q3
      cases e
      obtain ⟨a, q, q2⟩ := r
      obtain ⟨a', q4, vs, q5, q6⟩ := S.at q3
      rw [q] at q4; cases q4
      exact ⟨a, vs, q2, q5, q6⟩
    · cases e
  · cases e
theorem kyV_inj : ∀ {a b : MP.Ky}, kyV a = kyV b → a = b
  | .i _, .i _, h => by injection h with h; rw [h]
  | .s _, .s _, h => by injection h with h; rw [tx_inj h]
  | .i _, .s _, h => by cases h
  | .s _, .i _, h => by cases h
theorem kysV_inj : ∀ {a b : List MP.Ky}, a.map kyV = b.map kyV → a = b
  | [], [], _ => rfl
  | [], _ :: _, h => by cases h
  | _ :: _, [], h => by cases h
  | x :: a, y :: b, h => by
    simp only [List.map_cons, List.cons.injEq] at h
    rw [kyV_inj h.1, kysV_inj h.2]
section
variable {K : PySem.W.Frag} {F : L2.Hp} {m : List Addr} {κ κ' : Type} [DecidableEq κ] [DecidableEq κ'] {f : κ → κ'} {ok : κ → Prop}
/-- the value of a key -/
theorem RepK.look (fi : ∀ {a b}, f a = f b → a = b) : ∀ {l : List (κ × MP.D)} {vs : List (κ' × V)} (k : κ), RepK K F m f ok l vs →
    (MP.lookK k l = none ∧ valV vs (f k) = none) ∨ ∃ d v, MP.lookK k l = some d ∧ valV vs (f k) = some v ∧ Rep K F m d v
  | [], _, k, h => by cases h; exact .inl ⟨rfl, rfl⟩
  | p :: l, _, k, ⟨v, r, e, h1, h2⟩ => by
    subst e
    by_cases q : p.1 = k
    · exact .inr ⟨p.2, v, by unfold MP.lookK; rw [if_pos q], by rw [valV_pos (by rw [q])], h1.2⟩
    · have q' : ¬ f p.1 = f k := fun z => q (fi z)
      have e1 : MP.lookK k (p :: l) = MP.lookK k l := by
        obtain ⟨p1, p2⟩ := p
        show (if p1 = k then some p2 else MP.lookK k l) = _
        rw [if_neg q]
      rw [e1, valV_neg q']
      exact RepK.look fi k h2
theorem any_look (k : κ) : ∀ l : List (κ × MP.D), (l.any fun p => decide (p.1 = k)) = (MP.lookK k l).isSome
  | [] => rfl
  | p :: l => by
    obtain ⟨p1, p2⟩ := p
    simp only [List.any_cons, MP.lookK]
    by_cases q : p1 = k
    · simp [q]
    · rw [if_neg q, any_look k l]; simp [q]
theorem RepK.has (fi : ∀ {a b}, f a = f b → a = b) {l : List (κ × MP.D)} {vs : List (κ' × V)} (k : κ) (r : RepK K F m f ok l vs) : (valV vs (f k)).isSome = l.any fun p => decide (p.1 = k) := by
  rw [any_look]
  rcases RepK.look fi k r with ⟨a, b⟩ | ⟨d, v, a, b, _⟩ <;> rw [a, b] <;> rfl
end
theorem ky_at {m : List Addr} {F : L2.Hp} {x : MP.D} {v : V} {k : MP.Ky} (r : Rep c.X.K F m x v) (e : MP.kyOf x = some k) : v = kV (kyV k) ∧ kyOk k := by
  unfold MP.kyOf at e
  split at e
  · cases e; exact ⟨r, trivial⟩
  · cases e; exact r
  · cases e
theorem kys_at {m : List Addr} {F : L2.Hp} : ∀ {l : List MP.D} {vs : List V} {k : List MP.Ky}, Reps c.X.K F m l vs → MP.kysOf l = some k → vs = (k.map kyV).map kV ∧ kysOk k
  | [], _, k, r, e => by
    cases r
    cases e
    exact ⟨rfl, fun _ h => by cases h⟩
  | d :: l, _, k, ⟨v, r, ev, h1, h2⟩, e => by
    subst ev
    unfold MP.kysOf at e
    split at e
    · rename_i a b ha hb
      cases e
      obtain ⟨q1, q2⟩ := kys_at h2 hb
      obtain ⟨q3, q4⟩ := ky_at h1 ha
      rw [q1, q3]
      exact ⟨rfl, fun z hz => (List.mem_cons.mp hz).elim (fun e => e ▸ q4) (q2 z)⟩
    · cases e
theorem any_pyL (d : MP.D) (hd : MP.nr d = true) : ∀ (l : List MP.D) {k : Nat}, MP.nrL k l = true → ((pyL l).any fun z => PyData.eqv z (pyD d)) = MP.hasD d l
  | [], _, _ => rfl
  | x :: l, k, h => by
    simp only [MP.nrL, Bool.and_eq_true] at h
    show (PyData.eqv (pyD x) (pyD d) || (pyL l).any fun z => PyData.eqv z (pyD d)) = (MP.eqD x d || MP.hasD d l)
    rw [eqv_pyD x d h.1 hd, any_pyL d hd l h.2]
/-- x in y, both ways; neg: not in -/
theorem k_in_any (hu : c.X.A.units + 66 < cLine) {H1 H2 : L2.Hp} {m : List Addr} {h : MP.Hp} {H F : L2.Hp} {x y : MP.Vl} {vx vy : V} {k : Bool} {Q : VK} {σ : L2.St} (S : c.Sm m h H F) (rx : RepV c.X.K H1 m H F x vx) (ry : RepV c.X.K H2 m H F y vy) (e : MP.inOp h x y = some k) :
    (Q (.bl k) H → WOp c.X (compareOp .In) vx vy σ H Q) ∧ (Q (.bl (!k)) H → WOp c.X (compareOp .NotIn) vx vy σ H Q) := by
  have seqs : ∀ {l : List MP.D} {d : MP.D}, MP.seqOf h y = some l → MP.dataOf h x = some d → MP.nr (.lst l) = true → k = MP.hasD d l →
      (Q (.bl k) H → WOp c.X (compareOp .In) vx vy σ H Q) ∧ (Q (.bl (!k)) H → WOp c.X (compareOp .NotIn) vx vy σ H Q) := fun {l d} hl hd hn hk => by
    obtain ⟨a, vs, rfl, hs, ra⟩ := seq_at S ry hl
    obtain ⟨d1, d2, d3⟩ := data_at S rx hd
    obtain ⟨q1, q2, q3⟩ := reps_dp S.le l vs hn ra
    have ek := any_pyL d d3 l hn
    subst hk
    rcases hs with hs | hs
    · have sh : SeqAt.shaped (PyData.list (pyL l)) = true := rep_shaped (d := .lst l) q2 (Nat.succ_le_succ q3)
      exact ⟨fun q => wop_of (op_inD (by omega)) ⟨_, _, d1, .lst hs q1, d2, sh, by rw [ek]; exact q⟩, fun q => wop_of (op_notInD (by omega)) ⟨_, _, d1, .lst hs q1, d2, sh, by rw [ek]; exact q⟩⟩
    · have dep := SeqAt.depth_of_shaped d2
      have rm : c.X.A.units + 1 + min (PyData.depthAll (pyL l)) (pyD d).depth < cLine := by
        have := Nat.min_le_right (PyData.depthAll (pyL l)) (pyD d).depth
        omega
      refine ⟨fun q pins s v u I rv ru => ?_, fun q pins s v u I rv ru => ?_⟩
      · obtain ⟨as, r1⟩ := Dp.reads I _ _ v d1 rv
        obtain ⟨bs, r2⟩ := Dp.reads I (.tuple (pyL l)) _ u (.tup hs q1) ru
        exact SeqAt.in_tuple_reads r2 r1 q2 (SeqAt.canLay_of_shaped d2) rm ⟨.bl _, H, I, rfl, by rw [ek]; exact q⟩
      · obtain ⟨as, r1⟩ := Dp.reads I _ _ v d1 rv
        obtain ⟨bs, r2⟩ := Dp.reads I (.tuple (pyL l)) _ u (.tup hs q1) ru
        exact SeqAt.notIn_tuple_reads r2 r1 q2 (SeqAt.canLay_of_shaped d2) rm ⟨.bl _, H, I, rfl, by rw [ek]; exact q⟩
  have dicts : ∀ {a : Addr} {o : Option V}, vy = .ref a → DGet H a vx o → k = o.isSome →
      (Q (.bl k) H → WOp c.X (compareOp .In) vx vy σ H Q) ∧ (Q (.bl (!k)) H → WOp c.X (compareOp .NotIn) vx vy σ H Q) := fun {a o} ev g hk => by
    subst ev hk
    refine ⟨fun q pins s v u I rv ru => ?_, fun q pins s v u I rv ru => ?_⟩
    · cases ru
      exact d_in (by omega) I g rv fun s3 I3 => ⟨.bl o.isSome, H, I3, rfl, q⟩
    · cases ru
      exact d_notIn (by omega) I g rv fun s3 I3 => ⟨.bl (!o.isSome), H, I3, rfl, q⟩
  have dictF : ∀ {a : Addr} {o : Option V}, vy = .ref a → DGetF H a vx o → k = o.isSome →
      (Q (.bl k) H → WOp c.X (compareOp .In) vx vy σ H Q) ∧ (Q (.bl (!k)) H → WOp c.X (compareOp .NotIn) vx vy σ H Q) := fun {a o} ev g hk => by
    subst ev hk
    refine ⟨fun q pins s v u I rv ru => ?_, fun q pins s v u I rv ru => ?_⟩
    · cases ru
      exact d_inF (by omega) I g rv fun s3 I3 => ⟨.bl o.isSome, H, I3, rfl, q⟩
    · cases ru
      exact d_notInF (by omega) I g rv fun s3 I3 => ⟨.bl (!o.isSome), H, I3, rfl, q⟩
  unfold MP.inOp at e
  split at e
  · split at e
    · rename_i t x' cc
      cases e
      obtain ⟨rfl, _⟩ := rx
      obtain ⟨rfl, _⟩ := ry
      have ek : decide (cc ∈ (tx t).cps.toList) = t.contains cc := by
        rw [Bool.eq_iff_iff, decide_eq_true_iff, List.contains_iff_mem]; simp [tx]
      exact ⟨fun q => wop_of op_in_sign ⟨cc, _, rfl, rfl, by rw [ek]; exact q⟩, fun q => wop_of op_notIn_sign ⟨cc, _, rfl, rfl, by rw [ek]; exact q⟩⟩
    · cases e
  · split at e
    · rename_i l hl
      split at e
      · rename_i d hd
        split at e
        · rename_i hn
          cases e
          exact seqs hl hd hn rfl
        · cases e
      · cases e
    · split at e
      · rename_i kvs hk
        split at e
        · rename_i a
          simp only [Option.map_eq_some_iff] at e
          obtain ⟨ky, e1, e2⟩ := e
          obtain ⟨p, vs, ev, eH, rk⟩ := dic_at S ry hk
          obtain ⟨ex, _⟩ := ky_at rx e1
          refine dicts ev (o := valV vs (kyV ky)) (by rw [ex]; exact DGet.k eH) ?_
          rw [← e2]
          exact (RepK.has kyV_inj ky rk).symm
        · cases e
      · split at e
        · rename_i kvs hk
          split at e
          · rename_i l
            simp only [Option.map_eq_some_iff] at e
            obtain ⟨ky, e1, e2⟩ := e
            obtain ⟨p, vs, ev, eH, rk⟩ := dtu_at S ry hk
            obtain ⟨b, ws, ex, ⟨ob, eb, _⟩, rl⟩ := rx
            obtain ⟨ew, _⟩ := kys_at rl e1
            refine dictF ev (o := valV vs (ky.map kyV)) ⟨vs, _, b, ob, .inl eH, ex, by rw [← ew]; exact S.le _ _ eb, rfl⟩ ?_
            rw [← e2]
            exact (RepK.has kysV_inj ky rk).symm
          · cases e
        · cases e
theorem k_in (hu : c.X.A.units + 66 < cLine) : CmpS c .isin (compareOp .In) := by
  intro H1 H2 m h H F x y vx vy k Q σ S rx ry e q
  exact (k_in_any hu S rx ry (show MP.inOp h x y = some k from e)).1 q
theorem k_notin (hu : c.X.A.units + 66 < cLine) : CmpS c .notin (compareOp .NotIn) := by
  intro H1 H2 m h H F x y vx vy k Q σ S rx ry e q
  simp only [MP.cmpOp, Option.map_eq_some_iff] at e
  obtain ⟨k', e, rfl⟩ := e
  exact (k_in_any hu S rx ry e).2 q
end
end MPS
end
section
set_option Elab.async false
set_option linter.all false
set_option maxRecDepth 100000
set_option maxHeartbeats 4000000
namespace MPS
open PySem PySem.Spec PyProof.Rows L2
section
variable {c : Ct} {pos : Pos}
theorem isEmpty_len {α β : Type} {l : List α} {r : List β} (h : l.length = r.length) : l.isEmpty = r.isEmpty := by
  cases l <;> cases r <;> first | rfl | (simp at h)
theorem RepK.length {K : PySem.W.Frag} {F : L2.Hp} {m : List Addr} {κ κ' : Type} {f : κ → κ'} {ok : κ → Prop} : ∀ {l : List (κ × MP.D)} {vs : List (κ' × V)}, RepK K F m f ok l vs → l.length = vs.length
  | [], _, h => by cases h; rfl
  | p :: l, _, ⟨v, r, e, h1, h2⟩ => by subst e; simp [RepK.length h2]
/-- truth -/
theorem tru_at {H1 : L2.Hp} {m : List Addr} {h : MP.Hp} {H F : L2.Hp} {x : MP.Vl} {v : V} {k : Bool} (S : c.Sm m h H F) (r : RepV c.X.K H1 m H F x v) (e : MP.truth h x = some k) : TruV c.X.K v H k := by
  have seqs : ∀ {l : List MP.D}, MP.seqOf h x = some l → k = !l.isEmpty → TruV c.X.K v H k := fun {l} hl hk => by
    obtain ⟨a, vs, rfl, hs, ra⟩ := seq_at S r hl
    rw [isEmpty_len ra.length] at hk
    rcases hs with hs | hs
    · exact .inl ⟨vs, hs, hk⟩
    · exact .inr (.inl ⟨vs, hs, hk⟩)
  cases x with
  | nls l => cases e; exact seqs rfl rfl
  | ndc l =>
    cases e
    obtain ⟨a, vs, rfl, _, q, _, _, rk⟩ := r
    exact .inr (.inr ⟨vs, q, by rw [isEmpty_len rk.length]⟩)
  | ndt l => cases e
  | d x =>
    cases x with
    | non => cases e; cases r; rfl
    | bl b => cases e; cases r; rfl
    | int i => cases e; cases r; rfl
    | str s =>
      obtain ⟨rfl, _⟩ := r
      simp only [MP.truth] at e
      split at e
      · rename_i hl
        cases e
        refine ⟨by rw [tx_len, sizeLine_eq]; exact hl, ?_⟩
        rw [tx_len]
        cases s <;> simp
        omega
      · cases e
    | tup l => cases e; exact seqs rfl rfl
    | lst l => cases e; exact seqs rfl rfl
    | ctp l => cases e
    | ltp l => cases e; exact seqs rfl rfl
    | ref n =>
      simp only [MP.truth] at e
      split at e
      · rename_i l hl
        cases e
        exact seqs (by simp only [MP.seqOf, hl]) rfl
      · rename_i l hl
        cases e
        obtain ⟨a, vs, rfl, q, rk⟩ := dic_at S r (show MP.dicOf h (.d (.ref n)) = some l by simp only [MP.dicOf, hl])
        exact .inr (.inr ⟨vs, q, by rw [isEmpty_len rk.length]⟩)
      · cases e
/-! ### not, -, and, or -/
theorem s_neg {x : MP.Ex} {a : Expr} (hx : SE c x a) : SE c (.neg x) (.UnaryOp .USub a pos) := by
  intro fl ρ h σ m H F Q er S p
  refine peSem (pe_un un_neg pe_sem) ?_
  unfold MP.ev at p
  refine hx fl ρ h σ m H F _ er S (p.bind fun v h1 m1 H1 F1 u _ e1 S1 r1 p1 => ?_)
  split at p1
  · cases r1
    exact ⟨_, rfl, p1 m1 H1 F1 _ e1 S1 rfl⟩
  · exact p1.elim
theorem s_not {x : MP.Ex} {a : Expr} (hx : SE c x a) : SE c (.not x) (.UnaryOp .Not a pos) := by
  intro fl ρ h σ m H F Q er S p
  refine peSem (pe_notT pe_sem) ?_
  unfold MP.ev at p
  refine hx fl ρ h σ m H F _ er S (p.bind fun v h1 m1 H1 F1 u _ e1 S1 r1 p1 => ?_)
  split at p1
  · rename_i b hb
    exact ⟨b, tru_at S1 r1 hb, p1 m1 H1 F1 _ e1 S1 rfl⟩
  · exact p1.elim
theorem t_not {x : MP.Ex} {a : Expr} (hx : ST c x a) : ST c (.not x) (.UnaryOp .Not a pos) := by
  intro fl ρ h σ m H F Q er S p
  refine ptSem (pt_not pt_sem) ?_
  unfold MP.evT at p
  refine hx fl ρ h σ m H F _ er S (p.bind fun v h1 m1 H1 F1 u _ e1 S1 r1 p1 => ?_)
  cases r1
  exact p1 m1 H1 F1 _ e1 S1 rfl
/-- a test by a value's truth -/
theorem t_of {x : MP.Ex} {a : Expr} (hx : SE c x a) (he : ∀ whole, isTrue a c.X.env whole = (do let v ← whole; standAt a.pos; holding [v] (truthy v)))
    (hev : ∀ fl ρ h, MP.evT c.G fl x ρ h = (MP.ev c.G fl x ρ h).bind fun v h => match MP.truth h v with | some b => .ok b h | none => .err) : ST c x a := by
  intro fl ρ h σ m H F Q er S p
  refine ptSem (pt_truth pe_sem he) ?_
  rw [hev] at p
  refine hx fl ρ h σ m H F _ er S (p.bind fun v h1 m1 H1 F1 u _ e1 S1 r1 p1 => ?_)
  obtain ⟨b, hb, q⟩ := post_b S1 (p1.shift early_B e1)
  exact ⟨b, tru_at S1 r1 hb, q⟩

theorem s_one {op : BoolOp} {x : MP.Ex} {a : Expr} (hx : SE c x a) : SE c x (.BoolOp op [a] pos) := by
  intro fl ρ h σ m H F Q er S p pins s I
  exact BoolOp_one (hx fl ρ h σ m H F Q er S p pins s I)
theorem s_and {x y : MP.Ex} {a b : Expr} {rest : List Expr} (hx : SE c x a) (hy : SE c y (.BoolOp .And (b :: rest) pos)) : SE c (.and x y) (.BoolOp .And (a :: b :: rest) pos) := by
  intro fl ρ h σ m H F Q er S p
  refine peSem (pe_and pe_sem pe_sem) ?_
  unfold MP.ev at p
  refine hx fl ρ h σ m H F _ er S (p.bind fun v h1 m1 H1 F1 u _ e1 S1 r1 p1 => ?_)
  split at p1
  · cases r1
    exact ⟨true, rfl, hy fl ρ h1 σ m1 H1 F1 _ (er.ext e1 S.le) S1 (p1.shift early_V e1)⟩
  · cases r1
    exact ⟨false, rfl, p1 m1 H1 F1 _ e1 S1 rfl⟩
  · exact p1.elim
theorem s_or {x y : MP.Ex} {a b : Expr} {rest : List Expr} (hx : SE c x a) (hy : SE c y (.BoolOp .Or (b :: rest) pos)) : SE c (.or x y) (.BoolOp .Or (a :: b :: rest) pos) := by
  intro fl ρ h σ m H F Q er S p
  refine peSem (pe_or pe_sem pe_sem) ?_
  unfold MP.ev at p
  refine hx fl ρ h σ m H F _ er S (p.bind fun v h1 m1 H1 F1 u _ e1 S1 r1 p1 => ?_)
  split at p1
  · cases r1
    exact ⟨true, rfl, p1 m1 H1 F1 _ e1 S1 rfl⟩
  · cases r1
    exact ⟨false, rfl, hy fl ρ h1 σ m1 H1 F1 _ (er.ext e1 S.le) S1 (p1.shift early_V e1)⟩
  · exact p1.elim
/-- a chain of and, or as a test -/
def WW (X : Cx) (e : Expr) : TT := fun σ H Q => ∀ whole pins s, Inv X pins σ H s → wpAny (model X.prog X.w) X.A (isTrue e X.env whole) (TP X pins σ Q) X.xe s
theorem pw_sem {X : Cx} {e : Expr} : PW X e (WW X e) := ⟨fun wh pins s _ _ _ I h => h wh pins s I⟩
theorem pwSem {X : Cx} {e : Expr} {t : TT} (p : PW X e t) {σ : L2.St} {H : L2.Hp} {Q : Bool → L2.Hp → Prop} (h : t σ H Q) : WW X e σ H Q := fun wh pins s I => p.run wh pins s σ H Q I h
def SW (c : Ct) (x : MP.Ex) (e : Expr) : Prop := ∀ fl ρ h σ m H F Q, EnvR c.X.K F m ρ σ → c.Sm m h H F → Post c rB σ m H F Q (MP.evT c.G fl x ρ h) → WW c.X e σ H Q
theorem t_w {x : MP.Ex} {e : Expr} (h : SW c x e) : ST c x e := fun fl ρ h' σ m H F Q er S p pins s I => h fl ρ h' σ m H F Q er S p _ pins s I
theorem w_and1 {x : MP.Ex} {a : Expr} (hx : ST c x a) : SW c x (.BoolOp .And [a] pos) := fun fl ρ h σ m H F Q er S p => pwSem (pw_and1 pt_sem) (hx fl ρ h σ m H F Q er S p)
theorem w_or1 {x : MP.Ex} {a : Expr} (hx : ST c x a) : SW c x (.BoolOp .Or [a] pos) := fun fl ρ h σ m H F Q er S p => pwSem (pw_or1 pt_sem) (hx fl ρ h σ m H F Q er S p)
theorem w_and {x y : MP.Ex} {a b : Expr} {rest : List Expr} (hx : ST c x a) (hy : SW c y (.BoolOp .And (b :: rest) pos)) : SW c (.and x y) (.BoolOp .And (a :: b :: rest) pos) := by
  intro fl ρ h σ m H F Q er S p
  refine pwSem (pw_and pt_sem pw_sem) ?_
  unfold MP.evT at p
  refine hx fl ρ h σ m H F _ er S (p.bind fun v h1 m1 H1 F1 u _ e1 S1 r1 p1 => ?_)
  cases r1
  cases v with
  | true => exact hy fl ρ h1 σ m1 H1 F1 _ (er.ext e1 S.le) S1 (Post.shift early_B e1 p1)
  | false => exact p1 m1 H1 F1 _ e1 S1 rfl
theorem w_or {x y : MP.Ex} {a b : Expr} {rest : List Expr} (hx : ST c x a) (hy : SW c y (.BoolOp .Or (b :: rest) pos)) : SW c (.or x y) (.BoolOp .Or (a :: b :: rest) pos) := by
  intro fl ρ h σ m H F Q er S p
  refine pwSem (pw_or pt_sem pw_sem) ?_
  unfold MP.evT at p
  refine hx fl ρ h σ m H F _ er S (p.bind fun v h1 m1 H1 F1 u _ e1 S1 r1 p1 => ?_)
  cases r1
  cases v with
  | true => exact p1 m1 H1 F1 _ e1 S1 rfl
  | false => exact hy fl ρ h1 σ m1 H1 F1 _ (er.ext e1 S.le) S1 (Post.shift early_B e1 p1)
theorem s_ife {x y z : MP.Ex} {a b d : Expr} (hx : ST c x a) (hy : SE c y b) (hz : SE c z d) : SE c (.ife x y z) (.IfExp a b d pos) := by
  intro fl ρ h σ m H F Q er S p
  refine peSem (pe_ifExp pt_sem pe_sem pe_sem) ?_
  unfold MP.ev at p
  refine hx fl ρ h σ m H F _ er S (p.bind fun v h1 m1 H1 F1 u _ e1 S1 r1 p1 => ?_)
  cases r1
  cases v with
  | true => exact hy fl ρ h1 σ m1 H1 F1 _ (er.ext e1 S.le) S1 (Post.shift early_V e1 p1)
  | false => exact hz fl ρ h1 σ m1 H1 F1 _ (er.ext e1 S.le) S1 (Post.shift early_V e1 p1)
/-! ### chains -/
theorem opr_all {X : Cx} {f : Value → Value → Sem Value} : OpR X f (fun x y H Q => ∀ σ, WOp X f x y σ H Q) := fun pins s σ H x y v u Q I rx ry h => h σ pins s v u I rx ry
theorem s_chn {o1 o2 : MP.Cop} {o1' o2' : CmpOp} {x y z : MP.Ex} {a b d : Expr} (hm : lastMarks [o1', o2'] [b, d] = false) (h1 : CmpS c o1 (compareOp o1')) (h2 : CmpS c o2 (compareOp o2')) (hx : SE c x a) (hy : SE c y b) (hz : SE c z d) :
    SE c (.chn o1 o2 x y z) (.Compare a [o1', o2'] [b, d] pos) := by
  intro fl ρ h σ m H F Q er S p
  refine peSem (pe_chain opr_all opr_all pe_sem pe_sem pe_sem hm) ?_
  unfold MP.ev at p
  refine hx fl ρ h σ m H F _ er S (p.bind fun v h1' m1 H1 F1 u _ e1 S1 r1 p1 => ?_)
  refine hy fl ρ h1' σ m1 H1 F1 _ (er.ext e1 S.le) S1 ((p1.shift early_V e1).bind fun w h2' m2 H2 F2 q _ e2 S2 r2 p2 => ?_)
  intro σ'
  split at p2
  · rename_i hk
    refine h1 H H1 m2 h2' H2 F2 v w u q false _ σ' S2 (r1.ext e2 S1.le) r2 hk ⟨false, rfl, ?_⟩
    exact p2 m2 H2 F2 _ e2 S2 rfl
  · rename_i hk
    refine h1 H H1 m2 h2' H2 F2 v w u q true _ σ' S2 (r1.ext e2 S1.le) r2 hk ⟨true, rfl, ?_⟩
    refine hz fl ρ h2' σ m2 H2 F2 _ ((er.ext e1 S.le).ext e2 S1.le) S2 ((p2.shift early_V e2).bind fun w3 h3' m3 H3 F3 q3 _ e3 S3 r3 p3 => ?_)
    intro σ''
    obtain ⟨k, hk3, p4⟩ := post_bl S3 (p3.shift early_V e3)
    exact h2 H1 H2 m3 h3' H3 F3 w w3 q q3 k _ σ'' S3 (r2.ext e3 S2.le) r3 hk3 p4
  · exact p2.elim
theorem t_chn {o1 o2 : MP.Cop} {o1' o2' : CmpOp} {x y z : MP.Ex} {a b d : Expr} (hm : lastMarks [o1', o2'] [b, d] = false) (h1 : CmpS c o1 (compareOp o1')) (h2 : CmpS c o2 (compareOp o2')) (hx : SE c x a) (hy : SE c y b) (hz : SE c z d) :
    ST c (.chn o1 o2 x y z) (.Compare a [o1', o2'] [b, d] pos) := by
  intro fl ρ h σ m H F Q er S p
  refine ptSem (pt_chain opr_all opr_all pe_sem pe_sem pe_sem hm) ?_
  unfold MP.evT at p
  refine hx fl ρ h σ m H F _ er S (p.bind fun v h1' m1 H1 F1 u _ e1 S1 r1 p1 => ?_)
  refine hy fl ρ h1' σ m1 H1 F1 _ (er.ext e1 S.le) S1 ((p1.shift early_B e1).bind fun w h2' m2 H2 F2 q _ e2 S2 r2 p2 => ?_)
  intro σ'
  split at p2
  · rename_i hk
    refine h1 H H1 m2 h2' H2 F2 v w u q false _ σ' S2 (r1.ext e2 S1.le) r2 hk ⟨false, rfl, ⟨false, rfl, ?_⟩⟩
    exact p2 m2 H2 F2 _ e2 S2 rfl
  · rename_i hk
    refine h1 H H1 m2 h2' H2 F2 v w u q true _ σ' S2 (r1.ext e2 S1.le) r2 hk ⟨true, rfl, ?_⟩
    refine hz fl ρ h2' σ m2 H2 F2 _ ((er.ext e1 S.le).ext e2 S1.le) S2 ((p2.shift early_B e2).bind fun w3 h3' m3 H3 F3 q3 _ e3 S3 r3 p3 => ?_)
    intro σ''
    obtain ⟨k, hk3, p4⟩ := post_b S3 (p3.shift early_B e3)
    exact h2 H1 H2 m3 h3' H3 F3 w w3 q q3 k _ σ'' S3 (r2.ext e3 S2.le) r3 hk3 ⟨k, rfl, p4⟩
  · exact p2.elim
/-! ### subscripts -/
theorem atIx_ixN {n : Nat} {i : Int} {j : Nat} (h : MP.atIx n i = some j) : ixN n i = some j := by
  unfold MP.atIx at h
  unfold ixN
  by_cases h0 : 0 ≤ i
  · rw [if_pos h0] at h ⊢
    split at h
    · rename_i hl
      rw [if_pos (by omega)]; exact h
    · cases h
  · rw [if_neg h0] at h ⊢
    split at h
    · rename_i hl
      rw [if_pos hl]
      rw [Int.add_comm]; exact h
    · cases h
/-- d[k] among the subscripts by values -/
def DG (H : L2.Hp) (a : Addr) (y : V) (r : Option V) : Prop := DGet H a y r ∨ DGetF H a y r
theorem d_getItemG {X : Cx} {pins : List (Addr × Obj)} {σ : L2.St} {H : L2.Hp} {s : Shared} {a : Addr} {y v : V} {u : Value} {A : Around} {E : Value → Shared → Prop} {Q : Value → Shared → Prop} (hu : A.units + 1 < cLine) (I : Inv X pins σ H s) (g : DG H a y (some v)) (ry : RelV y u) (h : ∀ w' s', Inv X pins σ H s' → RelV v w' → Q w' s') :
    wpAny (model X.prog X.w) A (getItem (.ref a) u) Q E s := by
  rcases g with g | g
  · exact d_getItem hu I g ry h
  · exact d_getItemF hu I g ry h
theorem dict_typeIsG {X : Cx} {pins : List (Addr × Obj)} {σ : L2.St} {H : L2.Hp} {s : Shared} {a : Addr} {y : V} {r : Option V} (I : Inv X pins σ H s) (g : DG H a y r) : s.TypeIs (.ref a) "dict" := by
  rcases g with g | ⟨kvs, k, b, ob, e, ey, eb, l⟩
  · exact dict_typeIs I g
  · obtain ⟨_, _, _, _, dd⟩ := dt_rd I.hok e
    exact dd.typeIs
theorem ix_dic {X : Cx} (hu : X.A.units + 1 < cLine) : IxR X (fun x y H Q => ∃ a o, x = .ref a ∧ DG H a y (some o) ∧ Q o H) := by
  intro value slice pins s σ H x y v u Q I rx ry hw hs
  obtain ⟨a, o, ex, g, q⟩ := hw
  subst ex
  cases rx
  have hT := dict_typeIsG I g
  have go : wpAny (model X.prog X.w) X.A (subscripted slice false (.ref a) u)
      (fun r s3 => wpAny (model X.prog X.w) X.A (letTemporaryGo value (.ref a) r >>= fun _ => pure r) (EP X pins σ Q) X.xe s3) X.xe s := by
    rw [hs]
    refine wpAny_operating (wpAny_mono (d_getItemG (Q := EP X pins σ Q) hu I g ry fun w' s3 I3 rw' => ⟨o, H, I3, rw', q⟩) (fun r s3 h3 => ?_) fun _ _ z => z)
    exact wpAny_bind (wpAny_letTemporaryGo (wpAny_pure h3))
  unfold subscriptTail
  refine wpAny_bind ?_
  rw [getitemInPython_of_ne hT.not_modules]
  refine wpAny_bind (wpAny_specialOf hT PySem.F.slot_dict_getitem.lookup ?_)
  first
    | exact wpAny_bind (wpAny_pure (wpAny_bind go))
    | exact wpAny_pure (wpAny_bind go)
    | exact wpAny_bind go
theorem get_of {K : PySem.W.Frag} {F : L2.Hp} {m : List Addr} {l : List MP.D} {vs : List V} {i : Int} {n : Nat} {x : MP.D} (r : Reps K F m l vs) (e : MP.atIx l.length i = some n) (ex : l[n]? = some x) : ∃ v, atI vs i = some v ∧ Rep K F m x v := by
  obtain ⟨v, hv, rv⟩ := r.get ex
  refine ⟨v, ?_, rv⟩
  unfold atI
  rw [← r.length, atIx_ixN e]
  exact hv
theorem sub_at {H1 H2 : L2.Hp} {m : List Addr} {h : MP.Hp} {H F : L2.Hp} {x y v : MP.Vl} {vx vy : V} {Q : VK} (S : c.Sm m h H F) (rx : RepV c.X.K H1 m H F x vx) (ry : RepV c.X.K H2 m H F y vy) (e : MP.subOp h x y = some v) (p : PostO c m H F Q v h) :
    (∃ a o, vx = .ref a ∧ DG H a vy (some o) ∧ Q o H) ∨ rIx c.X.K vx vy H Q := by
  unfold MP.subOp at e
  split at e
  · rename_i t
    obtain ⟨rfl, kx⟩ := rx
    split at e
    · rename_i j
      cases ry
      split at e
      · rename_i hl
        split at e
        · rename_i n hn
          cases e
          have hi := atIx_ixN hn
          have lt : n < t.length := (ixN_seq hi).2.1
          refine .inr (.inr (.inr ⟨tx t, j, t.getD n 0, rfl, rfl, by rw [tx_len, sizeLine_eq]; exact hl, ?_, ?_⟩))
          · unfold atI
            show (ixN (tx t).cps.toList.length j).bind _ = _
            simp only [tx, List.toList_toArray]
            rw [hi]
            simp [List.getD, lt]
          · have ec : t.getD n 0 ∈ t := by
              rw [List.getD_eq_getElem?_getD, List.getElem?_eq_getElem lt]; exact List.getElem_mem lt
            exact p.now S ⟨rfl, fun q hq => by simp at hq; subst hq; exact kx _ (by simpa using ec)⟩
        · cases e
      · cases e
    · cases e
  · split at e
    · rename_i l hl
      obtain ⟨a, vs, rfl, hs, ra⟩ := seq_at S rx hl
      split at e
      · rename_i j
        cases ry
        split at e
        · rename_i n hn
          split at e
          · rename_i z hz
            cases e
            obtain ⟨u, hu, ru⟩ := get_of ra hn hz
            rcases hs with hs | hs
            · exact .inr (.inl ⟨a, vs, j, u, rfl, rfl, hs, hu, p.now S ru⟩)
            · exact .inr (.inr (.inl ⟨a, vs, j, u, rfl, rfl, hs, hu, p.now S ru⟩))
          · cases e
        · cases e
      · cases e
    · split at e
      · rename_i kvs hk
        obtain ⟨a, vs, rfl, ea, rk⟩ := dic_at S rx hk
        split at e
        · rename_i z
          split at e
          · rename_i k hk2
            split at e
            · rename_i d hd
              cases e
              obtain ⟨ey, _⟩ := ky_at ry hk2
              rcases RepK.look kyV_inj k rk with ⟨q1, _⟩ | ⟨d', u, q1, q2, q3⟩
              · rw [hd] at q1; cases q1
              · rw [hd] at q1; cases q1
                refine .inl ⟨a, u, rfl, ?_, p.now S q3⟩
                rw [ey, ← q2]; exact .inl (DGet.k ea)
            · cases e
          · cases e
        · cases e
      · split at e
        · rename_i kvs hk
          obtain ⟨a, vs, rfl, ea, rk⟩ := dtu_at S rx hk
          split at e
          · rename_i l
            obtain ⟨b, ws, rfl, ⟨ob, eb, _⟩, rl⟩ := ry
            split at e
            · rename_i k hk2
              split at e
              · rename_i d hd
                cases e
                obtain ⟨ew, _⟩ := kys_at rl hk2
                rcases RepK.look kysV_inj k rk with ⟨q1, _⟩ | ⟨d', u, q1, q2, q3⟩
                · rw [hd] at q1; cases q1
                · rw [hd] at q1; cases q1
                  refine .inl ⟨a, u, rfl, ?_, p.now S q3⟩
                  exact .inr ⟨vs, _, b, ob, .inl ea, rfl, by rw [← ew]; exact S.le _ _ eb, q2.symm⟩
              · cases e
            · cases e
          · cases e
        · cases e
theorem s_sub (hu : c.X.A.units + 1 < cLine) {x y : MP.Ex} {a b : Expr} (hs : PlainIx b) (hx : SE c x a) (hy : SE c y b) : SE c (.sub x y) (.Subscript a b pos) := by
  intro fl ρ h σ m H F Q er S p
  refine peSem (pe_ix ((ix_dic hu).or ix_seq) pe_sem pe_sem hs) ?_
  unfold MP.ev at p
  refine hx fl ρ h σ m H F _ er S (p.bind fun v h1 m1 H1 F1 u _ e1 S1 r1 p1 => ?_)
  refine hy fl ρ h1 σ m1 H1 F1 _ (er.ext e1 S.le) S1 ((p1.shift early_V e1).bind fun w h2 m2 H2 F2 z _ e2 S2 r2 p2 => ?_)
  obtain ⟨k, hk, p3⟩ := post_of (p2.shift early_V e2)
  exact sub_at S2 (r1.ext e2 S1.le) r2 hk p3
/-! ### slices -/
theorem cut_lo (n : Nat) (lo : Option Int) : (match lo with | some i => MP.cutAt n i | none => 0) = HT.sIx n 0 lo := by
  cases lo with
  | none => rfl
  | some i =>
    show MP.cutAt n i = if i < 0 then (i + (n : Int)).toNat else min i.toNat n
    unfold MP.cutAt
    by_cases h : i < 0
    · rw [if_pos h, if_neg (by omega), Int.add_comm]
    · rw [if_neg h, if_pos (by omega)]
theorem cut_hi (n : Nat) (hi : Option Int) : (match hi with | some i => MP.cutAt n i | none => n) = HT.sIx n n hi := by
  cases hi with
  | none => rfl
  | some i => exact cut_lo n (some i)
theorem Reps.cut {K : PySem.W.Frag} {F : L2.Hp} {m : List Addr} {l : List MP.D} {vs : List V} (r : Reps K F m l vs) (lo hi : Option Int) : Reps K F m (MP.cut l lo hi) (cutV vs lo hi) := by
  have e : cutV vs lo hi = (vs.take (HT.sIx vs.length vs.length hi)).drop (HT.sIx vs.length 0 lo) := by
    unfold cutV; rw [List.drop_take]
  rw [e, ← cut_lo, ← cut_hi, ← r.length]
  exact (r.take _).drop _
theorem cut_str (t : MP.Txt) (lo hi : Option Int) : MP.cut t lo hi = (t.take (HT.sIx t.length t.length hi)).drop (HT.sIx t.length 0 lo) := by
  rw [← cut_lo, ← cut_hi]; rfl
theorem cut_len {α : Type} (l : List α) (lo hi : Option Int) : (MP.cut l lo hi).length ≤ l.length := by
  unfold MP.cut
  simp only [List.length_drop, List.length_take]
  omega
/-- a part of a slice -/
def SO (c : Ct) (x : Option MP.Ex) (e : Option Expr) : Prop := ∃ t, PO c.X e t ∧ ∀ fl ρ h σ m H F Q, EnvR c.X.K F m ρ σ → c.Sm m h H F → Post c (fun _ _ _ _ a u => a = u) σ m H F Q (MP.evO c.G fl x ρ h) → t σ H Q
theorem early_eq {α : Type} : Early (fun _ _ _ _ (a : α) u => a = u) := fun _ _ _ _ _ _ _ _ q => q
theorem o_none : SO c none none := ⟨tNoPart, po_none, fun fl ρ h σ m H F Q er S p => p m H F none (Ext.refl _ _ _) S rfl⟩
theorem o_some {x : MP.Ex} {e : Expr} (hx : SE c x e) : SO c (some x) (some e) := by
  refine ⟨_, po_some pe_sem, fun fl ρ h σ m H F Q er S p => ?_⟩
  unfold MP.evO at p
  refine hx fl ρ h σ m H F _ er S (p.bind fun v h1 m1 H1 F1 u _ e1 S1 r1 p1 => ?_)
  split at p1
  · cases r1
    exact ⟨_, rfl, p1 m1 H1 F1 _ e1 S1 rfl⟩
  · exact p1.elim
theorem slc_at {H1 : L2.Hp} {m : List Addr} {h : MP.Hp} {H F : L2.Hp} {x v : MP.Vl} {vx : V} {lo hi : Option Int} {Q : VK} (S : c.Sm m h H F) (rx : RepV c.X.K H1 m H F x vx) (e : MP.slcOp h x lo hi = some v) (p : PostO c m H F Q v h) :
    (∃ z, vx = .str z ∧ z.length ≤ sizeLine ∧ Q (.str (cutS z lo hi)) H) ∨ rSlF c.X.K vx lo hi H Q ∨ rSlL c.X.K vx lo hi H Q := by
  unfold MP.slcOp at e
  split at e
  · rename_i t
    obtain ⟨rfl, kx⟩ := rx
    split at e
    · rename_i hl
      cases e
      refine .inl ⟨tx t, rfl, by rw [tx_len, sizeLine_eq]; exact hl, ?_⟩
      have e2 : cutS (tx t) lo hi = tx (MP.cut t lo hi) := by
        rw [cut_str, List.drop_take]
        unfold cutS
        rw [tx_len]
        simp [tx]
      rw [e2]
      refine p.now S ⟨rfl, fun q hq => kx q ?_⟩
      rw [cut_str] at hq
      exact List.mem_of_mem_take (List.mem_of_mem_drop hq)
    · cases e
  · rename_i l
    cases e
    obtain ⟨a, vs, rfl, ⟨oa, ea, da⟩, ra⟩ := rx
    refine .inr (.inl ⟨a, vs, rfl, sq_ltp (S.le a _ ea), fun hw => ?_, fun _ q o nq hd => p.tup S (ra.cut lo hi) (Nat.le_trans (cut_len l lo hi) (ra.sizeT S (S.le a _ ea))) nq hd⟩)
    have e2 : MP.cut l lo hi = l := by
      have : MP.cut l lo hi = (l.take (HT.sIx l.length l.length hi)).drop (HT.sIx l.length 0 lo) := by rw [← cut_lo, ← cut_hi]; rfl
      rw [this, ra.length, hw.1, hw.2, ← ra.length]; simp
    rw [e2] at p
    exact p.now S ⟨a, vs, rfl, ⟨oa, ea, da⟩, ra⟩
  · split at e
    · rename_i l hl
      cases e
      obtain ⟨a, vs, rfl, ea, ra⟩ := lst_at S rx hl
      exact .inr (.inr ⟨a, vs, rfl, SqL.of ea, fun q nq => p.nls S (ra.cut lo hi) (Nat.le_trans (cut_len l lo hi) (ra.sizeL S ea)) nq⟩)
    · cases e
theorem s_slc {x : MP.Ex} {lo hi : Option MP.Ex} {a : Expr} {l u : Option Expr} {p2 : Pos} (hx : SE c x a) (hl : SO c lo l) (hh : SO c hi u) : SE c (.slc x lo hi) (.Subscript a (.Slice l u none p2) pos) := by
  obtain ⟨tl, pl, kl⟩ := hl
  obtain ⟨th, ph, kh⟩ := hh
  intro fl ρ h σ m H F Q er S p
  refine peSem (pe_slice (sl_str.or (sl_tupF.or sl_list)) pe_sem pl ph) ?_
  unfold MP.ev at p
  refine hx fl ρ h σ m H F _ er S (p.bind fun v h1 m1 H1 F1 u _ e1 S1 r1 p1 => ?_)
  have er1 := er.ext e1 S.le
  refine kl fl ρ h1 σ m1 H1 F1 _ er1 S1 ((p1.shift early_V e1).bind fun i h2 m2 H2 F2 i' _ e2 S2 r2 p2 => ?_)
  cases r2
  refine kh fl ρ h2 σ m2 H2 F2 _ (er1.ext e2 S1.le) S2 ((p2.shift early_V e2).bind fun j h3 m3 H3 F3 j' _ e3 S3 r3 p3 => ?_)
  cases r3
  obtain ⟨k, hk, p4⟩ := post_of (p3.shift early_V e3)
  exact slc_at S3 ((r1.ext e2 S1.le).ext e3 S2.le) hk p4
theorem s_rev {x : MP.Ex} {a : Expr} {k : Nat} {p1 p2 p3 : Pos} (hx : SE c x a) : SE c (.rev x) (.Subscript a (.Slice none none (some (.UnaryOp .USub (.Constant (.int 1) k p1) p2)) p3) pos) := by
  intro fl ρ h σ m H F Q er S p
  refine peSem (pe_revL pe_sem) ?_
  unfold MP.ev at p
  refine hx fl ρ h σ m H F _ er S (p.bind fun v h1 m1 H1 F1 u _ e1 S1 r1 q1 => ?_)
  split at q1
  · rename_i l hl
    obtain ⟨b, vs, rfl, ea, ra⟩ := lst_at S1 r1 hl
    refine ⟨b, vs, rfl, SqL.of ea, fun q nq => ?_⟩
    obtain ⟨a1, a2, a3⟩ := nls_new e1 S1 ra.reverse (by rw [List.length_reverse]; exact ra.sizeL S1 ea) nq
    exact q1 m1 _ F1 _ a1 a2 a3
  · exact q1.elim
/-! ### a built-in's arguments -/
def RepVs (K : PySem.W.Frag) (H0 : L2.Hp) (m : List Addr) (H F : L2.Hp) : List MP.Vl → List V → Prop
  | [], vs => vs = []
  | x :: xs, vs => ∃ v r, vs = v :: r ∧ RepV K H0 m H F x v ∧ RepVs K H0 m H F xs r
theorem RepVs.start {K : PySem.W.Frag} {H0 H1 : L2.Hp} {m : List Addr} {H F : L2.Hp} (th : ∀ b, H0 b ≠ none → H1 b ≠ none) : ∀ {xs : List MP.Vl} {vs : List V}, RepVs K H1 m H F xs vs → RepVs K H0 m H F xs vs
  | [], _, h => h
  | x :: xs, _, ⟨v, r, e, h1, h2⟩ => ⟨v, r, e, RepV.start th h1, RepVs.start th h2⟩
def rVs (c : Ct) : Rl (List MP.Vl) (List V) := RepVs c.X.K
theorem early_Vs : Early (rVs c) := fun _ _ _ _ _ _ _ th q => RepVs.start th q
def SV (c : Ct) (xs : List MP.Ex) (es : List Expr) : Prop := ∃ t, PA c.X es t ∧ ∀ fl ρ h σ m H F Q, EnvR c.X.K F m ρ σ → c.Sm m h H F → Post c (rVs c) σ m H F Q (MP.evV c.G fl xs ρ h) → t σ H Q
theorem v_nil : SV c [] [] := ⟨tNil, pa_nil, fun fl ρ h σ m H F Q er S p => p m H F [] (Ext.refl _ _ _) S rfl⟩
theorem v_cons {x : MP.Ex} {xs : List MP.Ex} {e : Expr} {es : List Expr} (h1 : SE c x e) (h2 : SV c xs es) (hs : starEach (e :: es) c.X.env = (false, eval e c.X.env) :: starEach es c.X.env) : SV c (x :: xs) (e :: es) := by
  obtain ⟨t, ht, k⟩ := h2
  refine ⟨_, pa_cons pe_sem ht hs, fun fl ρ h σ m H F Q er S p => ?_⟩
  unfold MP.evV at p
  refine h1 fl ρ h σ m H F _ er S (p.bind fun a h1 m1 H1 F1 u _ e1 S1 r1 p1 => ?_)
  refine k fl ρ _ σ m1 H1 F1 _ (er.ext e1 S.le) S1 ((p1.shift early_Vs e1).bind fun l h3 m3 H3 F3 us hr e3 S3 r3 _ => ?_)
  rw [hr] at p1
  exact p1 m3 H3 F3 _ (e1.trans e3) S3 ⟨u, us, rfl, r1.ext e3 S1.le, RepVs.start e1.th r3⟩
/-- a built-in by values -/
def BltS (c : Ct) (b : MP.Blt) (r : List V → L2.Hp → VK → Prop) : Prop := ∀ fl m0 H0 F0 m h H F xs vs v h' Q, Ext m0 H0 F0 m H F → c.Sm m h H F → RepVs c.X.K H0 m H F xs vs → MP.bltOp fl h b xs = some (v, h') → PostO c m0 H0 F0 Q v h' → r vs H Q
theorem post_ofP {σ : L2.St} {m : List Addr} {H F : L2.Hp} {Q : VK} {o : Option (MP.Vl × MP.Hp)} (p : Post c (rV c) σ m H F Q (MP.R.ofP o)) : ∃ v h', o = some (v, h') ∧ PostO c m H F Q v h' := by
  cases o with
  | none => exact p.elim
  | some v => exact ⟨v.1, v.2, rfl, p⟩
theorem s_callB {b : MP.Blt} {r : List V → L2.Hp → VK → Prop} {id : String} {xs : List MP.Ex} {e : Expr} {es : List Expr} {x : Str} {p : Pos} (hb : BltS c b r) (hc : CallR c.X (.builtin id) r) (hg : Gl c.X x) (hm : c.X.mg x = none) (hv : bootBuiltins x = some (.builtin id)) (ha : SV c xs (e :: es))
    (hn : x ≠ "__name__") (hdb : (x == ("__debug__" : Str)) = false) (hs : starEach (e :: es) c.X.env = (false, eval e c.X.env) :: starEach es c.X.env) (hpl : (backTo pos (starEach es c.X.env)).any (·.1) = false) : SE c (.blt b xs) (.Call (.Name x p) (e :: es) [] pos) := by
  obtain ⟨t, ht, k⟩ := ha
  intro fl ρ h σ m H F Q er S q
  refine peSem (pe_callB hc hg hm hv ht hn hdb hs hpl) ?_
  unfold MP.ev at q
  refine k fl ρ h σ m H F _ er S (q.bind fun l h1 m1 H1 F1 us _ e1 S1 r1 q1 => ?_)
  obtain ⟨v, h', hv, q2⟩ := post_ofP q1
  exact hb fl m H F m1 h1 H1 F1 l us v h' _ e1 S1 r1 hv q2
theorem s_callTy {b : MP.Blt} {r : List V → L2.Hp → VK → Prop} {T : String} {xs : List MP.Ex} {e : Expr} {es : List Expr} {x : Str} {p : Pos} (hb : BltS c b r) (hc : CallR c.X (.type T) r) (hg : Gl c.X x) (hm : c.X.mg x = none) (hv : bootBuiltins x = some (.type T)) (ha : SV c xs (e :: es))
    (hn : x ≠ "__name__") (hdb : (x == ("__debug__" : Str)) = false) (hs : starEach (e :: es) c.X.env = (false, eval e c.X.env) :: starEach es c.X.env) (hpl : (backTo pos (starEach es c.X.env)).any (·.1) = false) : SE c (.blt b xs) (.Call (.Name x p) (e :: es) [] pos) := by
  obtain ⟨t, ht, k⟩ := ha
  intro fl ρ h σ m H F Q er S q
  refine peSem (pe_callTy hc hg hm hv ht hn hdb hs hpl) ?_
  unfold MP.ev at q
  refine k fl ρ h σ m H F _ er S (q.bind fun l h1 m1 H1 F1 us _ e1 S1 r1 q1 => ?_)
  obtain ⟨v, h', hv, q2⟩ := post_ofP q1
  exact hb fl m H F m1 h1 H1 F1 l us v h' _ e1 S1 r1 hv q2
end
end MPS
end
section
set_option Elab.async false
set_option linter.all false
set_option maxRecDepth 100000
set_option maxHeartbeats 4000000
namespace MPS
open PySem PySem.Spec PyProof.Rows L2
section
variable {c : Ct} {pos : Pos}
/-! ### methods of built-in types -/
def MthS (c : Ct) (b : MP.Blt) (r : V → List V → L2.Hp → VK → Prop) : Prop := ∀ fl m0 H0 F0 m h H F x xs v vs w h' Q, Ext m0 H0 F0 m H F → c.Sm m h H F → RepV c.X.K H0 m H F x v → RepVs c.X.K H0 m H F xs vs → MP.bltOp fl h b (x :: xs) = some (w, h') → PostO c m0 H0 F0 Q w h' → r v vs H Q
def RcvS (c : Ct) (b : MP.Blt) (T : String) : Prop := ∀ H1 m h H F x v, c.Sm m h H F → RepV c.X.K H1 m H F x v → MP.rcv h b x = true → tyV c.X.K T v H
theorem s_bm {b : MP.Blt} {T id : String} {r : V → List V → L2.Hp → VK → Prop} {x : MP.Ex} {xs : List MP.Ex} {o e : Expr} {es : List Expr} {name : Str} {apos : Pos} (hb : MthS c b r) (hk : RcvS c b T) (pa : PlainAttrs T) (slot : Slot T name id) (hty : typeOf (.builtin id) = pure (.type "method_descriptor")) (hm : MtR c.X id r)
    (hx : SE c x o) (ha : SV c xs (e :: es)) (hbase : attributeBase o name c.X.env (eval o c.X.env) = eval o c.X.env)
    (hfew : ((backTo pos (starEach (e :: es) c.X.env)).all (fun x => !x.1) && (backToKw pos (keywordEach [] c.X.env)).all (fun x => x.1.isSome) && decide ((e :: es).length + ([] : List Keyword).length + (if ([] : List Keyword).isEmpty then 0 else 1) < 30)) = true)
    (hline : (apos.endLine == pos.line) = true) (hs : starEach (e :: es) c.X.env = (false, eval e c.X.env) :: starEach es c.X.env) (hpl : (backTo pos (starEach es c.X.env)).any (·.1) = false) : SE c (.mth b x xs) (.Call (.Attribute o name apos) (e :: es) [] pos) := by
  obtain ⟨t, ht, k⟩ := ha
  intro fl ρ h σ m H F Q er S q
  refine peSem (pe_bm pa slot hty hm pe_sem ht hbase hfew hline hs hpl) ?_
  unfold MP.ev at q
  refine hx fl ρ h σ m H F _ er S (q.bind fun v h1 m1 H1 F1 u _ e1 S1 r1 q1 => ?_)
  split at q1
  · rename_i hr
    refine ⟨hk H m1 h1 H1 F1 v u S1 r1 hr, ?_⟩
    refine k fl ρ h1 σ m1 H1 F1 _ (er.ext e1 S.le) S1 ((q1.shift early_V e1).bind fun l h2 m2 H2 F2 us hr2 e2 S2 r2 _ => ?_)
    rw [hr2] at q1
    obtain ⟨w, h', hv, q2⟩ := post_ofP q1
    exact hb fl m H F m2 h2 H2 F2 v l u us w h' _ (e1.trans e2) S2 (r1.ext e2 S1.le) (RepVs.start e1.th r2) hv q2
  · exact q1.elim
theorem rcv_list {b : MP.Blt} (hb : ∀ h x, MP.rcv h b x = true → (MP.lstOf h x).isSome = true) : RcvS c b "list" := by
  intro H1 m h H F x v S r e
  obtain ⟨l, hl⟩ := Option.isSome_iff_exists.mp (hb h x e)
  obtain ⟨a, vs, rfl, ea, _⟩ := lst_at S r hl
  exact .inl ⟨rfl, vs, SqL.of ea⟩
theorem rcv_str {b : MP.Blt} (hb : ∀ h x, MP.rcv h b x = true → ∃ t, x = .d (.str t)) : RcvS c b "str" := by
  intro H1 m h H F x v S r e
  obtain ⟨t, rfl⟩ := hb h x e
  obtain ⟨rfl, _⟩ := r
  rfl
/-- an object of the small heap that is a list -/
theorem ref_lst {m : List Addr} {h : MP.Hp} {H F : L2.Hp} {n : Nat} {v : V} {l : List MP.D} (S : c.Sm m h H F) (r : Rep c.X.K F m (.ref n) v) (e : h[n]? = some (.lst l)) : ∃ a vs, v = .ref a ∧ m[n]? = some a ∧ H a = some (.lst vs) ∧ Reps c.X.K F m l vs := by
  obtain ⟨a, q, q2⟩ := r
  obtain ⟨a', q4, vs, q5, q6⟩ := S.at e
  rw [q] at q4; cases q4
  exact ⟨a, vs, q2, q, q5, q6⟩
theorem vs1 {K : PySem.W.Frag} {H0 : L2.Hp} {m : List Addr} {H F : L2.Hp} {x : MP.Vl} {vs : List V} (r : RepVs K H0 m H F [x] vs) : ∃ v, vs = [v] ∧ RepV K H0 m H F x v := by
  obtain ⟨v, r', rfl, h1, h2⟩ := r
  cases h2
  exact ⟨v, rfl, h1⟩
theorem vs2 {K : PySem.W.Frag} {H0 : L2.Hp} {m : List Addr} {H F : L2.Hp} {x y : MP.Vl} {vs : List V} (r : RepVs K H0 m H F [x, y] vs) : ∃ v u, vs = [v, u] ∧ RepV K H0 m H F x v ∧ RepV K H0 m H F y u := by
  obtain ⟨v, r', rfl, h1, h2⟩ := r
  obtain ⟨u, rfl, h3⟩ := vs1 h2
  exact ⟨v, u, rfl, h1, h3⟩
/-- a list of the small heap is changed by a kept value -/
theorem put_lst {m0 : List Addr} {H0 F0 : L2.Hp} {m : List Addr} {h : MP.Hp} {H F : L2.Hp} {n : Nat} {a : Addr} {x : MP.Vl} {u : V} {l' : MP.D → List MP.D} {vs' : List V} {Q : VK} (e0 : Ext m0 H0 F0 m H F) (S : c.Sm m h H F) (em : m[n]? = some a) (rx : RepV c.X.K H0 m H F x u)
    (z : vs'.length ≤ sizeLine) (hl : ∀ F' m' d, m <+: m' → Le F F' → Rep c.X.K F' m' d u → Reps c.X.K F' m' (l' d) vs') (p : PostO c m0 H0 F0 Q (.d .non) ((MP.keep h x).2.set n (.lst (l' (MP.keep h x).1)))) : Q .non (upd H a (.lst vs')) := by
  obtain ⟨m1, F1, e1, S1, r1, p1, l1⟩ := keep_ok e0 S rx
  have em1 := get_pre p1 em
  refine p m1 (upd H a (.lst vs')) F1 .non (e1.trans (Ext.put (List.mem_of_getElem? em1))) (S1.put (by exact z) em1 ⟨vs', upd_same, hl F1 m1 _ p1 l1 r1⟩) rfl
theorem m_append : MthS c .append rAppend := by
  intro fl m0 H0 F0 m h H F x xs v vs w h' Q e0 S rx rxs e p
  simp only [MP.bltOp] at e
  unfold MP.bAppend at e
  split at e
  · rename_i n y heq
    cases heq
    split at e
    · cases e
    · split at e
      · rename_i l hl
        split at e
        · rename_i hz
          cases e
          obtain ⟨u, rfl, ru⟩ := vs1 rxs
          obtain ⟨a, vl, rfl, em, ea, ra⟩ := ref_lst S rx hl
          refine ⟨a, vl, u, rfl, rfl, ea, by rw [← ra.length, sizeLine_eq]; exact hz, ?_⟩
          exact put_lst (l' := fun d => l ++ [d]) e0 S em ru (by rw [List.length_append, ← ra.length, sizeLine_eq]; exact hz) (fun F' m' d pm lf rd => (ra.mono lf pm).snoc rd) p
        · cases e
      · cases e
  · cases e
theorem m_insert : MthS c .insert (fun x vs H Q => ∃ (l : Addr) (xs : List V) (i : Int) (y : V), x = .ref l ∧ vs = [.int i, y] ∧ H l = some (.lst xs) ∧ xs.length < sizeLine ∧ 0 ≤ i ∧ i < 2 ^ 63 ∧
    Q .non (upd H l (.lst (xs.take i.toNat ++ [y] ++ xs.drop i.toNat)))) := by
  intro fl m0 H0 F0 m h H F x xs v vs w h' Q e0 S rx rxs e p
  simp only [MP.bltOp] at e
  unfold MP.bInsert at e
  split at e
  · rename_i n i y heq
    cases heq
    split at e
    · cases e
    · split at e
      · rename_i l hl
        split at e
        · rename_i hz
          cases e
          obtain ⟨ui, u, rfl, ri, ru⟩ := vs2 rxs
          cases ri
          obtain ⟨a, vl, rfl, em, ea, ra⟩ := ref_lst S rx hl
          have hm : MP.most = 16777216 := rfl
          refine ⟨a, vl, i, u, rfl, rfl, ea, by rw [← ra.length, sizeLine_eq]; exact hz.1, hz.2.1, by omega, ?_⟩
          refine put_lst (l' := fun d => MP.insertAt l i.toNat d) e0 S em ru (by simp only [List.length_append, List.length_take, List.length_drop, List.length_cons, List.length_nil, ← ra.length, sizeLine_eq]; omega) (fun F' m' d pm lf rd => ?_) p
          unfold MP.insertAt
          rw [List.append_assoc]
          exact ((ra.mono lf pm).take _).append ⟨u, _, rfl, rd, (ra.mono lf pm).drop _⟩
        · cases e
      · cases e
  · cases e
theorem m_popAt : MthS c .popAt rPopAt := by
  intro fl m0 H0 F0 m h H F x xs v vs w h' Q e0 S rx rxs e p
  simp only [MP.bltOp] at e
  unfold MP.bPopAt at e
  split at e
  · rename_i n i heq
    cases heq
    split at e
    · cases e
    · split at e
      · rename_i l hl
        split at e
        · rename_i hlen
          split at e
          · rename_i k hk
            split at e
            · rename_i z hz
              cases e
              obtain ⟨ui, rfl, ri⟩ := vs1 rxs
              cases ri
              obtain ⟨a, vl, rfl, em, ea, ra⟩ := ref_lst S rx hl
              obtain ⟨u, hu, ru⟩ := ra.get hz
              obtain ⟨q1, q2, q3, q4⟩ := ixN_seq (atIx_ixN hk)
              have hm : MP.most = 16777216 := rfl
              refine ⟨a, vl, i, k, u, rfl, rfl, ea, by omega, by omega, by rw [← ra.length]; exact q1, hu, ?_⟩
              exact p m _ F u (e0.trans (Ext.put (List.mem_of_getElem? em))) (S.put (by show (vl.eraseIdx k).length ≤ sizeLine; have := List.length_eraseIdx_le vl k; have := S.sz a _ ea; exact Nat.le_trans (List.length_eraseIdx_le vl k) this) em ⟨_, upd_same, ra.eraseIdx k⟩) ru
            · cases e
          · cases e
        · cases e
      · cases e
  · cases e
theorem m_extend : MthS c .extend rExtend := by
  intro fl m0 H0 F0 m h H F x xs v vs w h' Q e0 S rx rxs e p
  simp only [MP.bltOp] at e
  unfold MP.bExtend at e
  split at e
  · rename_i n y heq
    cases heq
    split at e
    · cases e
    · split at e
      · rename_i l hl
        split at e
        · rename_i r hr
          split at e
          · rename_i hz
            cases e
            obtain ⟨u, rfl, ru⟩ := vs1 rxs
            obtain ⟨a, vl, rfl, em, ea, ra⟩ := ref_lst S rx hl
            obtain ⟨b, vr, rfl, eb, rb⟩ := lst_at S ru hr
            refine ⟨a, b, vl, vr, rfl, rfl, ea, eb, by rw [← ra.length, ← rb.length, sizeLine_eq]; exact hz, ?_⟩
            exact p m _ F .non (e0.trans (Ext.put (List.mem_of_getElem? em))) (S.put (by show (vl ++ vr).length ≤ sizeLine; rw [List.length_append, ← ra.length, ← rb.length, sizeLine_eq]; exact hz) em ⟨_, upd_same, ra.append rb⟩) rfl
          · cases e
        · cases e
      · cases e
  · cases e
theorem eqV_D {K : PySem.W.Frag} {F : L2.Hp} {m : List Addr} {a b : MP.D} {v u : V} (fa : MP.flat a = true) (fb : MP.flat b = true) (ra : Rep K F m a v) (rb : Rep K F m b u) : eqV v u = MP.eqD a b ∧ flatV v = true := by
  cases a <;> first | (cases fa; done) | skip
  all_goals (cases b <;> first | (cases fb; done) | skip)
  all_goals first
    | (cases ra; cases rb; exact ⟨rfl, rfl⟩)
    | (obtain ⟨rfl, _⟩ := ra; cases rb; exact ⟨rfl, rfl⟩)
    | (cases ra; obtain ⟨rfl, _⟩ := rb; exact ⟨rfl, rfl⟩)
    | (obtain ⟨rfl, _⟩ := ra; obtain ⟨rfl, _⟩ := rb; exact ⟨tx_beq _ _, rfl⟩)
theorem index_spec (y : MP.D) : ∀ {l : List MP.D} {k : Nat}, MP.indexD y l = some k → (∃ z, l[k]? = some z ∧ MP.eqD z y = true) ∧ ∀ (j : Nat) z, j < k → l[j]? = some z → MP.eqD z y = false
  | [], k, h => by cases h
  | x :: l, k, h => by
    unfold MP.indexD at h
    split at h
    · rename_i hx
      cases h
      exact ⟨⟨x, rfl, hx⟩, fun j z hj => absurd hj (Nat.not_lt_zero _)⟩
    · rename_i hx
      simp only [Option.map_eq_some_iff] at h
      obtain ⟨k', hk, rfl⟩ := h
      obtain ⟨⟨z, q1, q2⟩, q3⟩ := index_spec y hk
      refine ⟨⟨z, by simpa using q1, q2⟩, fun j z' hj e => ?_⟩
      cases j with
      | zero =>
        simp at e; subst e
        simpa using hx
      | succ j => exact q3 j z' (by omega) (by simpa using e)
theorem flat_nr {d : MP.D} (f : MP.flat d = true) : MP.nr d = true := by
  cases d <;> first | rfl | (cases f)
theorem m_index : MthS c .index (rIndex c.X.K) := by
  intro fl m0 H0 F0 m h H F x xs v vs w h' Q e0 S rx rxs e p
  simp only [MP.bltOp] at e
  unfold MP.bIndex at e
  split at e
  · rename_i x' y heq
    cases heq
    split at e
    · rename_i l hl
      split at e
      · rename_i d hd
        split at e
        · rename_i hf
          split at e
          · rename_i k hk
            cases e
            simp only [Bool.and_eq_true] at hf
            obtain ⟨u, rfl, ru⟩ := vs1 rxs
            obtain ⟨a, vl, rfl, ea, ra⟩ := lst_at S rx hl
            have rd : Rep c.X.K F m d u := by
              unfold MP.dataOf at hd
              split at hd
              · split at hd
                · split at hd
                  · cases hd; cases hf.1
                  · cases hd
                · cases hd
              · split at hd
                · cases hd; exact ru
                · cases hd
              · split at hd
                · cases hd; cases hf.1
                · cases hd
              · cases hd
            obtain ⟨⟨z, hz, ez⟩, hno⟩ := index_spec d hk
            have fl' : ∀ (j : Nat) q, l[j]? = some q → MP.flat q = true := fun j q hq => List.all_eq_true.mp hf.2 q (List.mem_of_getElem? hq)
            obtain ⟨vz, hvz, rz⟩ := ra.get hz
            refine ⟨a, vl, u, k, vz, rfl, rfl, SqL.of ea, (eqV_D hf.1 hf.1 rd rd).2, ?_, hvz, ?_, fun j z' hj hz' => ?_, p m H F _ e0 S rfl⟩
            · refine List.all_eq_true.mpr fun q hq => ?_
              obtain ⟨j, hj, rfl⟩ := List.mem_iff_getElem.mp hq
              have hjl : j < l.length := by rw [ra.length]; exact hj
              obtain ⟨vq, hvq, rq⟩ := ra.get (List.getElem?_eq_getElem hjl)
              rw [List.getElem?_eq_getElem hj] at hvq
              cases hvq
              exact (eqV_D (fl' j _ (List.getElem?_eq_getElem hjl)) hf.1 rq rd).2
            · rw [(eqV_D (fl' k z hz) hf.1 rz rd).1]; exact ez
            · have hjl : j < l.length := by rw [ra.length]; exact (List.getElem?_eq_some_iff.mp hz').1
              obtain ⟨vq, hvq, rq⟩ := ra.get (List.getElem?_eq_getElem hjl)
              rw [hz'] at hvq
              cases hvq
              rw [(eqV_D (fl' j _ (List.getElem?_eq_getElem hjl)) hf.1 rq rd).1]
              exact hno j _ hj (List.getElem?_eq_getElem hjl)
          · cases e
        · cases e
      · cases e
    · cases e
  · cases e

/-! ### built-ins by name -/
theorem c_len : BltS c .len (fun vs H Q => (∃ p ys, vs = [.ref p] ∧ (SqL c.X.K H p ys ∨ SqT c.X.K H p ys) ∧ Q (.int ys.length) H) ∨ (∃ z, vs = [.str z] ∧ z.length ≤ sizeLine ∧ Q (.int z.length) H) ∨ ∃ p kvs, vs = [.ref p] ∧ H p = some (.dK kvs) ∧ Q (.int kvs.length) H) := by
  intro fl m0 H0 F0 m h H F xs vs w h' Q e0 S rxs e p
  simp only [MP.bltOp] at e
  unfold MP.bLen at e
  split at e
  · split at e
    · rename_i hl
      cases e
      obtain ⟨u, rfl, rfl, _⟩ := vs1 rxs
      refine .inr (.inl ⟨_, rfl, by rw [tx_len, sizeLine_eq]; exact hl, ?_⟩)
      rw [tx_len]
      exact p m H F _ e0 S rfl
    · cases e
  · obtain ⟨u, rfl, ru⟩ := vs1 rxs
    split at e
    · rename_i l hl
      cases e
      obtain ⟨a, vl, rfl, hs, ra⟩ := seq_at S ru hl
      refine .inl ⟨a, vl, rfl, hs, ?_⟩
      rw [← ra.length]
      exact p m H F _ e0 S rfl
    · split at e
      · rename_i l hl
        cases e
        obtain ⟨a, vl, rfl, hs, ra⟩ := dic_at S ru hl
        refine .inr (.inr ⟨a, vl, rfl, hs, ?_⟩)
        rw [← RepK.length ra]
        exact p m H F _ e0 S rfl
      · cases e
  · cases e
theorem c_max2 : BltS c .max2 (fun xs H Q => ∃ i j, xs = [.int i, .int j] ∧ Q (.int (if j > i then j else i)) H) := by
  intro fl m0 H0 F0 m h H F xs vs w h' Q e0 S rxs e p
  simp only [MP.bltOp] at e
  unfold MP.bMax2 at e
  split at e
  · cases e
    obtain ⟨u, v, rfl, rfl, rfl⟩ := vs2 rxs
    exact ⟨_, _, rfl, p m H F _ e0 S rfl⟩
  · cases e
theorem c_min2 : BltS c .min2 (fun xs H Q => ∃ i j, xs = [.int i, .int j] ∧ Q (.int (if j < i then j else i)) H) := by
  intro fl m0 H0 F0 m h H F xs vs w h' Q e0 S rxs e p
  simp only [MP.bltOp] at e
  unfold MP.bMin2 at e
  split at e
  · cases e
    obtain ⟨u, v, rfl, rfl, rfl⟩ := vs2 rxs
    exact ⟨_, _, rfl, p m H F _ e0 S rfl⟩
  · cases e
/-- tuple(e): of a list it is a new one, of which all is known; of a tuple it is that -/
def rTupF (K : PySem.W.Frag) : List V → L2.Hp → VK → Prop := fun xs H Q => ∃ p ys, xs = [.ref p] ∧ ((SqL K H p ys ∧ ∀ l o, H l = none → o.dict = none → Q (.ref l) (upd H l (.frz o (.tup ys)))) ∨ (SqT K H p ys ∧ Q (.ref p) H))
theorem call_tupF {X : Cx} : CallR X (.type "tuple") (rTupF X.K) := by
  intro pins s σ H xs us Q I r h
  obtain ⟨p, ys, rfl, h⟩ := h
  rw [Vals.ref1 r]
  rcases h with ⟨hq, q⟩ | ⟨hq, q⟩
  · obtain ⟨its, rv, pl, hz⟩ := I.list hq
    refine PySem.call_tuple_list pl.isList (fun h' kp => ?_) (by rw [List.size_toArray, ← rv.length]; exact hz)
    have J : Inv X pins σ H { s with heap := h' } := I.kept (t' := s.toks) kp
    have new := J.hok.fresh (Nat.le_refl _)
    refine ⟨.ref h'.objs.size, _, J.laid (t' := s.toks) (fun b o e => Heap.get?_push_of_some _ e) (Nat.le_refl _) ?_, rfl, q h'.objs.size { cls := .type "tuple", data := .seq its.toArray } new rfl⟩
    exact ⟨Heap.get?_push_size _ rfl, hz, its, rv, IsTup.new _ _⟩
  · obtain ⟨its, rv, pt, hz⟩ := I.tuple hq
    exact call_tuple_tup pt ⟨.ref p, H, I, rfl, q⟩
theorem c_tuple : BltS c .tuple (rTupF c.X.K) := by
  intro fl m0 H0 F0 m h H F xs vs w h' Q e0 S rxs e p
  simp only [MP.bltOp] at e
  unfold MP.bTuple at e
  split at e
  · rename_i l
    cases e
    obtain ⟨u, rfl, a, vl, rfl, ⟨o, ea, hd⟩, ra⟩ := vs1 rxs
    exact ⟨a, vl, rfl, .inr ⟨sq_ltp (S.le _ _ ea), p m H F _ e0 S ⟨a, vl, rfl, ⟨o, ea, hd⟩, ra⟩⟩⟩
  · split at e
    · rename_i l hl
      cases e
      obtain ⟨u, rfl, ru⟩ := vs1 rxs
      obtain ⟨a, vl, rfl, ea, ra⟩ := lst_at S ru hl
      refine ⟨a, vl, rfl, .inl ⟨SqL.of ea, fun q o nq hd => ?_⟩⟩
      exact p m _ _ _ (e0.trans (Ext.newF nq)) (S.newF nq (show SzO (.tup vl) from S.sz a (.lst vl) ea)) ⟨q, vl, rfl, ⟨o, upd_same, hd⟩, ra.mono (S.le.self nq) (List.prefix_refl _)⟩
    · cases e
  · cases e
theorem c_list : BltS c .list (fun xs H Q => (∃ p ys, xs = [.ref p] ∧ (SqL c.X.K H p ys ∨ SqT c.X.K H p ys) ∧ ∀ l, H l = none → Q (.ref l) (upd H l (.lst ys))) ∨ rListD xs H Q) := by
  intro fl m0 H0 F0 m h H F xs vs w h' Q e0 S rxs e p
  simp only [MP.bltOp] at e
  unfold MP.bList at e
  split at e
  · rename_i x
    obtain ⟨u, rfl, ru⟩ := vs1 rxs
    split at e
    · rename_i l hl
      split at e <;> try (cases e; done)
      rename_i hlen
      cases e
      obtain ⟨a, vl, rfl, hs, ra⟩ := seq_at S ru hl
      refine .inl ⟨a, vl, rfl, hs, fun q nq => ?_⟩
      obtain ⟨a1, a2, a3⟩ := nls_new e0 S ra (by rw [sizeLine_eq]; exact hlen) nq
      exact p m _ F _ a1 a2 a3
    · split at e
      · rename_i l hl
        split at e <;> try (cases e; done)
        rename_i hlen
        cases e
        obtain ⟨a, vl, rfl, hs, ra⟩ := dic_at S ru hl
        refine .inr ⟨a, vl, rfl, hs, fun q nq => ?_⟩
        have rr : ∀ {l : List (MP.Ky × MP.D)} {vs : List (Key × V)}, RepK c.X.K F m kyV kyOk l vs → Reps c.X.K F m (l.map fun p => MP.kyD p.1) (vs.map fun kv => kV kv.1) := by
          intro l
          induction l with
          | nil => intro vs r; cases r; exact rfl
          | cons p l ih =>
            intro vs r
            obtain ⟨v, r', e, ⟨h0, h1⟩, h2⟩ := r
            subst e
            refine ⟨_, _, rfl, ?_, ih h2⟩
            obtain ⟨k, d⟩ := p
            cases k with
            | i n => exact rfl
            | s t => exact ⟨rfl, h0⟩
        obtain ⟨a1, a2, a3⟩ := nls_new e0 S (rr ra) (by rw [List.length_map, sizeLine_eq]; exact hlen) nq
        exact p m _ F _ a1 a2 a3
      · cases e
  · cases e

/-! ### isinstance -/
def tyS : MP.Ty → String
  | .int => "int"
  | .bool => "bool"
  | .str => "str"
  | .tuple => "tuple"
  | .list => "list"
def ofS : Nat → String
  | 0 => "NoneType"
  | 1 => "bool"
  | 2 => "int"
  | 3 => "str"
  | 4 => "tuple"
  | _ => "list"
def isT : Nat → MP.Ty → Bool
  | 1, .int => true
  | 1, .bool => true
  | 2, .int => true
  | 3, .str => true
  | 4, .tuple => true
  | 5, .list => true
  | _, _ => false
theorem kit_all : ∀ (i : Nat) (t : MP.Ty), i < 6 → kitB (ofS i) (tyS t) = some (isT i t)
  | 0, .int, _ => by decide +kernel
  | 0, .bool, _ => by decide +kernel
  | 0, .str, _ => by decide +kernel
  | 0, .tuple, _ => by decide +kernel
  | 0, .list, _ => by decide +kernel
  | 1, .int, _ => by decide +kernel
  | 1, .bool, _ => by decide +kernel
  | 1, .str, _ => by decide +kernel
  | 1, .tuple, _ => by decide +kernel
  | 1, .list, _ => by decide +kernel
  | 2, .int, _ => by decide +kernel
  | 2, .bool, _ => by decide +kernel
  | 2, .str, _ => by decide +kernel
  | 2, .tuple, _ => by decide +kernel
  | 2, .list, _ => by decide +kernel
  | 3, .int, _ => by decide +kernel
  | 3, .bool, _ => by decide +kernel
  | 3, .str, _ => by decide +kernel
  | 3, .tuple, _ => by decide +kernel
  | 3, .list, _ => by decide +kernel
  | 4, .int, _ => by decide +kernel
  | 4, .bool, _ => by decide +kernel
  | 4, .str, _ => by decide +kernel
  | 4, .tuple, _ => by decide +kernel
  | 4, .list, _ => by decide +kernel
  | 5, .int, _ => by decide +kernel
  | 5, .bool, _ => by decide +kernel
  | 5, .str, _ => by decide +kernel
  | 5, .tuple, _ => by decide +kernel
  | 5, .list, _ => by decide +kernel
theorem isi_at {H1 : L2.Hp} {m : List Addr} {h : MP.Hp} {H F : L2.Hp} {x : MP.Vl} {v : V} {t : MP.Ty} {b : Bool} (S : c.Sm m h H F) (r : RepV c.X.K H1 m H F x v) (e : MP.isiV h t x = some b) : ∃ i, i < 6 ∧ TyX c.X.K H v (.type (ofS i)) ∧ b = isT i t := by
  have lists : ∀ {l : List MP.D}, MP.lstOf h x = some l → b = isT 5 t → ∃ i, i < 6 ∧ TyX c.X.K H v (.type (ofS i)) ∧ b = isT i t := fun {l} hl hb => by
    obtain ⟨a, vl, rfl, ea, ra⟩ := lst_at S r hl
    exact ⟨5, by decide, .base (.lst ea), hb⟩
  cases x with
  | ndc l => cases e
  | ndt l => cases e
  | nls l =>
    cases e
    exact lists rfl (by cases t <;> rfl)
  | d x =>
    cases x with
    | non => cases e; cases r; exact ⟨0, by decide, .base .non, by cases t <;> rfl⟩
    | bl x => cases e; cases r; exact ⟨1, by decide, .base (.bl _), by cases t <;> rfl⟩
    | int x => cases e; cases r; exact ⟨2, by decide, .base (.int _), by cases t <;> rfl⟩
    | str x => cases e; obtain ⟨rfl, _⟩ := r; exact ⟨3, by decide, .base (.str _), by cases t <;> rfl⟩
    | ltp l =>
      cases e
      obtain ⟨a, vl, rfl, ea, ra⟩ := r
      exact ⟨4, by decide, .base (.tup (S.le _ _ ea)), by cases t <;> rfl⟩
    | lst l =>
      cases e
      exact lists rfl (by cases t <;> rfl)
    | ctp l => cases e
    | tup l =>
      cases e
      obtain ⟨a, vl, rfl, ⟨o, ea, _⟩, ra⟩ := r
      exact ⟨4, by decide, .fTuple (S.le _ _ ea), by cases t <;> rfl⟩
    | ref n =>
      simp only [MP.isiV] at e
      split at e
      · rename_i l hl
        cases e
        exact lists (l := l) (by simp only [MP.lstOf, hl]) (by cases t <;> rfl)
      · cases e
theorem s_isi {t : MP.Ty} {x : MP.Ex} {a : Expr} {y : Str} {p p2 : Pos} (hx : SE c x a) (hg : Gl c.X "isinstance") (hm : c.X.mg "isinstance" = none) (hgt : Gl c.X y) (hmt : c.X.mg y = none) (hvt : bootBuiltins y = some (.type (tyS t))) (hn : y ≠ "__name__") (hdb : (y == ("__debug__" : Str)) = false)
    (hs : starEach [a, .Name y p2] c.X.env = (false, eval a c.X.env) :: starEach [.Name y p2] c.X.env) : SE c (.blt (.isi t) [x]) (.Call (.Name "isinstance" p) [a, .Name y p2] [] pos) := by
  intro fl ρ h σ m H F Q er S q
  have ha : PA c.X [a, .Name y p2] _ := pa_cons (te := WE c.X a) pe_sem (pa_cons (pe_bltn (v := .ty (tyS t)) hgt hmt hvt rfl hn hdb) pa_nil rfl) hs
  refine peSem (pe_callB call_isi hg hm boot_isinstance ha (by decide) (by decide) hs rfl) ?_
  unfold MP.ev at q
  unfold MP.evV at q
  refine hx fl ρ h σ m H F _ er S ?_
  cases hr : MP.ev c.G fl x ρ h with
  | err => rw [hr] at q; exact q
  | exc k h' => rw [hr] at q; exact q
  | ok v h1 =>
    rw [hr] at q
    intro m1 H1 F1 u e1 S1 r1
    have q : Post c (rV c) σ m H F Q (MP.R.ofP (MP.bltOp fl h1 (.isi t) [v])) := q
    obtain ⟨w, h', hw, q2⟩ := post_ofP q
    simp only [MP.bltOp, MP.bIsi] at hw
    split at hw
    · rename_i b hb
      cases hw
      obtain ⟨i, hi, ty, eb⟩ := isi_at S1 r1 hb
      exact ⟨u, .ty (tyS t), _, _, b, rfl, .ty _, ty, kit_ty (by rw [eb]; exact kit_all i t hi), q2 m1 H1 F1 _ e1 S1 rfl⟩
    · cases hw
/-! ### d.get(k, x) -/
theorem s_get (hu : c.X.A.units + 1 < cLine) {x y z : MP.Ex} {o e f : Expr} {apos : Pos} (hx : SE c x o) (hy : SE c y e) (hz : SE c z f) (hM : M2 c.X o "get" apos e f pos) : SE c (.mth .get x [y, z]) (.Call (.Attribute o "get" apos) [e, f] [] pos) := by
  intro fl ρ h σ m H F Q er S q
  refine peSem (pe_dget2 hu pe_sem pe_sem pe_sem hM) ?_
  unfold MP.ev at q
  refine hx fl ρ h σ m H F _ er S (q.bind fun v h1 m1 H1 F1 u _ e1 S1 r1 q1 => ?_)
  split at q1
  · rename_i hr
    obtain ⟨l, hl⟩ := Option.isSome_iff_exists.mp hr
    obtain ⟨a, vs, rfl, ea, ra⟩ := dic_at S1 r1 hl
    refine ⟨a, rfl, .inl ⟨vs, .inl ea⟩, ?_⟩
    have er1 := er.ext e1 S.le
    unfold MP.evV at q1
    cases hy1 : MP.ev c.G fl y ρ h1 with
    | err => rw [hy1] at q1; exact q1.elim
    | exc k h' =>
      rw [hy1] at q1
      refine hy fl ρ h1 σ m1 H1 F1 _ er1 S1 ?_
      rw [hy1]
      exact fun m2 H2 F2 e2 S2 => q1 m2 H2 F2 (e1.trans e2) S2
    | ok w h2 =>
      rw [hy1] at q1
      refine hy fl ρ h1 σ m1 H1 F1 _ er1 S1 ?_
      rw [hy1]
      intro m2 H2 F2 u2 e2 S2 r2
      have er2 := er1.ext e2 S1.le
      unfold MP.evV at q1
      cases hz1 : MP.ev c.G fl z ρ h2 with
      | err =>
        simp only [MP.R.bind_ok] at q1
        rw [hz1] at q1; exact q1.elim
      | exc k h' =>
        simp only [MP.R.bind_ok] at q1
        rw [hz1] at q1
        refine hz fl ρ h2 σ m2 H2 F2 _ er2 S2 ?_
        rw [hz1]
        exact fun m3 H3 F3 e3 S3 => q1 m3 H3 F3 ((e1.trans e2).trans e3) S3
      | ok w3 h3 =>
        simp only [MP.R.bind_ok] at q1
        rw [hz1] at q1
        refine hz fl ρ h2 σ m2 H2 F2 _ er2 S2 ?_
        rw [hz1]
        intro m3 H3 F3 u3 e3 S3 r3
        have q : Post c (rV c) σ m H F Q (MP.R.ofP (MP.bltOp fl h3 .get [v, w, w3])) := q1
        obtain ⟨w4, h', hw, q2⟩ := post_ofP q
        have r1' := (r1.ext e2 S1.le).ext e3 S2.le
        have e13 := (e1.trans e2).trans e3
        simp only [MP.bltOp] at hw
        unfold MP.bGet at hw
        split at hw
        · rename_i v' k x' heq
          cases heq
          split at hw
          · rename_i kvs hk
            obtain ⟨a', vs', ea', eH', rk⟩ := dic_at S3 r1' hk
            cases ea'
            split at hw
            · rename_i ky hky
              obtain ⟨ey, _⟩ := ky_at (r2.ext e3 S2.le) hky
              refine ⟨valV vs' (kyV ky), by rw [ey]; exact DGet.k eH', ?_⟩
              rcases RepK.look kyV_inj ky rk with ⟨g1, g2⟩ | ⟨d', u', g1, g2, g3⟩
              · rw [g1] at hw
                cases hw
                rw [g2]
                obtain ⟨m4, F4, e4, S4, r4, _, _⟩ := keep_ok e13 S3 (RepV.start (fun b hb => e2.th b (e1.th b hb)) r3)
                exact q2 m4 H3 F4 _ e4 S4 r4
              · rw [g1] at hw
                cases hw
                rw [g2]
                exact q2 m3 H3 F3 _ e13 S3 g3
            · cases hw
          · cases hw
        · cases hw
  · exact q1.elim
end
end MPS
end
section
set_option Elab.async false
set_option linter.all false
set_option maxRecDepth 100000
set_option maxHeartbeats 4000000
namespace MPS
open PySem PySem.Spec PyProof.Rows L2

/-! ### what a def promises -/
def spOf (K : PySem.W.Frag) (cA : Nat → Addr) (fN : Nat → Str) (eA : Nat → Addr) (g : List MP.D → Nat → MP.Hp → MP.R MP.Vl) (np : Nat) : Sp := fun vs H Q E => vs.length = np ∧ ∃ m h F as fl, Sm K cA fN m h H F ∧ Reps K F m as vs ∧ match g as fl h with
  | .ok v h' => ∀ m' H' F' u, Ext m H F m' H' F' → Sm K cA fN m' h' H' F' → RepV K H m' H' F' v u → Q u H'
  | .exc k h' => ∀ m' H' F', Ext m H F m' H' F' → Sm K cA fN m' h' H' F' → E (.ref (eA k)) none H'
  | .err => False
/-- objects below the floor stay -/
def Stay (fl : Nat) (h h' : MP.Hp) : Prop := (∀ n, n < fl → h'[n]? = h[n]?) ∧ h.length ≤ h'.length
def FlOk (G : MP.Fns) : Prop := ∀ b f as fl h, fl ≤ h.length → match G b f as fl h with
  | .ok _ h' => Stay fl h h'
  | .exc _ h' => Stay fl h h'
  | .err => True
section
variable {K : PySem.W.Frag} {F : L2.Hp} {m m' : List Addr}
mutual
/-- without objects of the small heap their addresses do not matter -/
theorem Rep.free : ∀ (d : MP.D) (v : V) {k : Nat}, MP.nrN k d = true → Rep K F m d v → Rep K F m' d v
  | .non, _, _, _, h => h
  | .bl _, _, _, _, h => h
  | .int _, _, _, _, h => h
  | .str _, _, _, _, h => h
  | .tup ds, _, k, hn, ⟨a, vs, e, s, r⟩ => by
    cases k with
    | zero => cases hn
    | succ k => exact ⟨a, vs, e, s, Reps.free ds vs hn r⟩
  | .lst ds, _, k, hn, ⟨a, vs, e, s, r⟩ => by
    cases k with
    | zero => cases hn
    | succ k => exact ⟨a, vs, e, s, Reps.free ds vs hn r⟩
  | .ltp ds, _, k, hn, ⟨a, vs, e, s, r⟩ => by
    cases k with
    | zero => cases hn
    | succ k => exact ⟨a, vs, e, s, Reps.free ds vs hn r⟩
  | .ctp _, _, _, hn, _ => by simp [MP.nrN] at hn
  | .ref _, _, _, hn, _ => by simp [MP.nrN] at hn
theorem Reps.free : ∀ (ds : List MP.D) (vs : List V) {k : Nat}, MP.nrL k ds = true → Reps K F m ds vs → Reps K F m' ds vs
  | [], _, _, _, h => h
  | d :: ds, _, k, hn, ⟨v, r, e, h1, h2⟩ => by
    simp only [MP.nrL, Bool.and_eq_true] at hn
    exact ⟨v, r, e, Rep.free d v hn.1 h1, Reps.free ds r hn.2 h2⟩
end
theorem RepK.free {κ κ' : Type} {f : κ → κ'} {ok : κ → Prop} : ∀ (ds : List (κ × MP.D)) (vs : List (κ' × V)), (ds.all fun p => MP.nr p.2) = true → RepK K F m f ok ds vs → RepK K F m' f ok ds vs
  | [], _, _, h => h
  | d :: ds, _, hn, ⟨v, r, e, h1, h2⟩ => by
    simp only [List.all_cons, Bool.and_eq_true] at hn
    exact ⟨v, r, e, ⟨h1.1, Rep.free d.2 v hn.1 h1.2⟩, RepK.free ds r hn.2 h2⟩
end
section
variable {K : PySem.W.Frag} {F F' : L2.Hp} {m m' : List Addr}
theorem pre_back {l l' : List Addr} (p : l <+: l') {n : Nat} {a b : Addr} (h : l[n]? = some a) (h' : l'[n]? = some b) : l[n]? = some b := by
  rw [get_pre p h] at h'; cases h'; exact h
mutual
/-- what was said of addresses that were there is said of them still -/
theorem Rep.back (p : m <+: m') : ∀ (d : MP.D) (v v' : V), Rep K F m d v → Rep K F' m' d v' → Rep K F' m d v'
  | .non, _, _, _, h => h
  | .bl _, _, _, _, h => h
  | .int _, _, _, _, h => h
  | .str _, _, _, _, h => h
  | .tup ds, _, _, ⟨_, us, _, _, r0⟩, ⟨a, vs, e, s, r⟩ => ⟨a, vs, e, s, Reps.back p ds us vs r0 r⟩
  | .lst ds, _, _, ⟨_, us, _, _, r0⟩, ⟨a, vs, e, s, r⟩ => ⟨a, vs, e, s, Reps.back p ds us vs r0 r⟩
  | .ctp ds, _, _, ⟨_, us, _, _, r0⟩, ⟨a, vs, e, s, r⟩ => ⟨a, vs, e, s, Reps.back p ds us vs r0 r⟩
  | .ltp ds, _, _, ⟨_, us, _, _, r0⟩, ⟨a, vs, e, s, r⟩ => ⟨a, vs, e, s, Reps.back p ds us vs r0 r⟩
  | .ref _, _, _, ⟨_, e0, _⟩, ⟨a, e, q⟩ => ⟨a, pre_back p e0 e, q⟩
theorem Reps.back (p : m <+: m') : ∀ (ds : List MP.D) (vs vs' : List V), Reps K F m ds vs → Reps K F' m' ds vs' → Reps K F' m ds vs'
  | [], _, _, _, h => h
  | d :: ds, _, _, ⟨v0, r0, _, g1, g2⟩, ⟨v, r, e, h1, h2⟩ => ⟨v, r, e, Rep.back p d v0 v g1 h1, Reps.back p ds r0 r g2 h2⟩
end
theorem RepK.back {κ κ' : Type} {f : κ → κ'} {ok : κ → Prop} (p : m <+: m') : ∀ (ds : List (κ × MP.D)) (vs vs' : List (κ' × V)), RepK K F m f ok ds vs → RepK K F' m' f ok ds vs' → RepK K F' m f ok ds vs'
  | [], _, _, _, h => h
  | d :: ds, _, _, ⟨v0, r0, _, g1, g2⟩, ⟨v, r, e, h1, h2⟩ => ⟨v, r, e, ⟨h1.1, Rep.back p d.2 v0 v g1.2 h1.2⟩, RepK.back p ds r0 r g2 h2⟩
theorem ObR.back {cA : Nat → Addr} {fN : Nat → Str} {H H' : L2.Hp} {a : Addr} {o : MP.O} (p : m <+: m') (x0 : ObR K cA fN F m H a o) (x : ObR K cA fN F' m' H' a o) : ObR K cA fN F' m H' a o := by
  cases o with
  | lst _ => obtain ⟨us, _, r0⟩ := x0; obtain ⟨vs, q, r⟩ := x; exact ⟨vs, q, r0.back p _ _ _ r⟩
  | rol _ => obtain ⟨us, _, _, r0⟩ := x0; obtain ⟨vs, q, n, r⟩ := x; exact ⟨vs, q, n, r0.back p _ _ _ r⟩
  | dic _ => obtain ⟨us, _, r0⟩ := x0; obtain ⟨vs, q, r⟩ := x; exact ⟨vs, q, r0.back p _ _ _ r⟩
  | dtu _ => obtain ⟨us, _, r0⟩ := x0; obtain ⟨vs, q, r⟩ := x; exact ⟨vs, q, r0.back p _ _ _ r⟩
  | ins _ _ => obtain ⟨_, us, _, r0⟩ := x0; obtain ⟨dx, vs, q, r⟩ := x; exact ⟨dx, vs, q, r0.back p _ _ _ r⟩
end
section
variable {c : Ct} {pos : Pos}
/-- behind a def that changed nothing that was there: its own objects are forgotten -/
theorem out_ok {m : List Addr} {h h' : MP.Hp} {H F : L2.Hp} {m' : List Addr} {H' F' : L2.Hp} {v w : MP.Vl} {u : V} (S : c.Sm m h H F) (st : Stay h.length h h') (e : Ext m H F m' H' F') (S' : c.Sm m' h' H' F') :
    Ext m H F m H' F' ∧ c.Sm m h H' F' ∧ (RepV c.X.K H m' H' F' v u → MP.outV h.length h' v = some w → RepV c.X.K H m H' F' w u) := by
  have ml : m.length = h.length := S.len
  have sub : ∀ a ∈ m, a ∈ m' := fun a ha => e.mm.subset ha
  refine ⟨⟨List.prefix_refl _, e.th, e.kH, e.kF, fun _ _ n => n⟩, ⟨S'.le, S.nd, S.len, fun a ha => S'.nf a (sub a ha), S'.sz, fun n a o e1 e2 => ?_⟩, fun r ew => ?_⟩
  · have lt : n < h.length := (List.getElem?_eq_some_iff.mp e2).1
    exact ObR.back e.mm (S.ob n a o e1 e2) (S'.ob n a o (get_pre e.mm e1) (by rw [st.1 n lt]; exact e2))
  · -- what is handed back
    have newA : ∀ {n : Nat} {a : Addr}, ¬ n < h.length → m'[n]? = some a → a ∉ m ∧ H a = none ∧ F' a = none := fun {n a} hn ea => by
      have hm : a ∉ m := fun hm => by
        obtain ⟨k, hk, ek⟩ := List.mem_iff_getElem.mp hm
        have q : m'[k]? = some a := get_pre e.mm (by rw [List.getElem?_eq_getElem hk, ek])
        have : k = n := (List.getElem?_inj (List.getElem?_eq_some_iff.mp q).1 S'.nd).mp (by rw [q, ea])
        omega
      refine ⟨hm, ?_, S'.nf a (List.mem_of_getElem? ea)⟩
      exact Classical.byContradiction fun q => e.kM a q hm (List.mem_of_getElem? ea)
    cases v with
    | nls l =>
      simp only [MP.outV] at ew
      split at ew
      · rename_i hn
        cases ew
        obtain ⟨a, vs, q1, q2, q3, q4, q5, q6⟩ := r
        exact ⟨a, vs, q1, q2, q3, q4, fun z => q5 (sub a z), Reps.free l vs hn q6⟩
      · cases ew
    | ndc l =>
      simp only [MP.outV] at ew
      split at ew
      · rename_i hn
        cases ew
        obtain ⟨a, vs, q1, q2, q3, q4, q5, q6⟩ := r
        exact ⟨a, vs, q1, q2, q3, q4, fun z => q5 (sub a z), RepK.free l vs hn q6⟩
      · cases ew
    | ndt l =>
      simp only [MP.outV] at ew
      split at ew
      · rename_i hn
        cases ew
        obtain ⟨a, vs, q1, q2, q3, q4, q5, q6⟩ := r
        exact ⟨a, vs, q1, q2, q3, q4, fun z => q5 (sub a z), RepK.free l vs hn q6⟩
      · cases ew
    | d x =>
      have plain : ∀ {x : MP.D}, Rep c.X.K F' m' x u → (if MP.nr x = true then some (MP.Vl.d x) else none) = some w → RepV c.X.K H m H' F' w u := fun {x} r ew => by
        split at ew
        · rename_i hn
          cases ew
          exact Rep.free _ u hn r
        · cases ew
      cases x with
      | ref n =>
        obtain ⟨a, q, q2⟩ := r
        simp only [MP.outV] at ew
        split at ew
        · rename_i lt
          cases ew
          refine ⟨a, ?_, q2⟩
          obtain ⟨t, et⟩ := e.mm
          rw [← et, List.getElem?_append_left (by omega)] at q
          exact q
        · rename_i nlt
          obtain ⟨h1, h2, h3⟩ := newA nlt q
          split at ew
          · rename_i l hl
            split at ew
            · rename_i hn
              cases ew
              obtain ⟨a', q4, vs, q5, q6⟩ := S'.at hl
              rw [q] at q4; cases q4
              exact ⟨a, vs, q2, h2, q5, h3, h1, Reps.free l vs hn q6⟩
            · cases ew
          · rename_i l hl
            split at ew
            · rename_i hn
              cases ew
              obtain ⟨a', q4, vs, q5, q6⟩ := S'.at hl
              rw [q] at q4; cases q4
              exact ⟨a, vs, q2, h2, q5, h3, h1, RepK.free l vs hn q6⟩
            · cases ew
          · rename_i l hl
            split at ew
            · rename_i hn
              cases ew
              obtain ⟨a', q4, vs, q5, q6⟩ := S'.at hl
              rw [q] at q4; cases q4
              exact ⟨a, vs, q2, h2, q5, h3, h1, RepK.free l vs hn q6⟩
            · cases ew
          · cases ew
      | non => exact plain r ew
      | bl b => exact plain r ew
      | int b => exact plain r ew
      | str b => exact plain r ew
      | tup b => exact plain r ew
      | lst b => exact plain r ew
      | ctp b => exact plain r ew
      | ltp b => exact plain r ew
/-- a call's promise, from the promise of what callA gives -/
theorem call_sp {pu : Bool} {f : Nat} {as : List MP.D} {fl : Nat} {m0 : List Addr} {H0 F0 : L2.Hp} {m : List Addr} {h : MP.Hp} {H F : L2.Hp} {vs : List V} {Q : VK} {σ : L2.St} {np : Nat} (hG : FlOk c.G) (S : c.Sm m h H F) (e0 : Ext m0 H0 F0 m H F) (r : Reps c.X.K F m as vs) (hl : vs.length = np)
    (p : Post c (rV c) σ m0 H0 F0 Q (MP.callA c.G pu f as fl h)) : spOf c.X.K c.cA c.fN c.eA (c.G false f) np vs H Q (L2.WE c.W σ) := by
  refine ⟨hl, ?_⟩
  cases pu with
  | false =>
    refine ⟨m, h, F, as, fl, S, r, ?_⟩
    have p : Post c (rV c) σ m0 H0 F0 Q (c.G false f as fl h) := p
    have p2 := p.shift early_V e0
    revert p2
    cases c.G false f as fl h with
    | ok v h' => exact fun p2 => p2
    | exc k h' => exact fun p2 => p2
    | err => exact fun p2 => p2
  | true =>
    refine ⟨m, h, F, as, h.length, S, r, ?_⟩
    have st := hG false f as h.length h (Nat.le_refl _)
    have p2 := p.shift early_V e0
    simp only [MP.callA, MP.callP, if_true] at p2
    revert p2 st
    cases c.G false f as h.length h with
    | ok v h' =>
      intro st p2 m' H' F' u e S' rv
      cases ho : MP.outV h.length h' v with
      | none =>
        simp only [ho] at p2
        exact p2.elim
      | some w =>
        simp only [ho] at p2
        obtain ⟨a1, a2, a3⟩ := out_ok (v := v) (w := w) (u := u) S st e S'
        exact p2 m H' F' u a1 a2 (a3 rv ho)
    | exc k h' =>
      intro st p2 m' H' F' e S'
      obtain ⟨a1, a2, _⟩ := out_ok (v := .d .non) (w := .d .non) (u := .non) S st e S'
      exact p2 m H' F' a1 a2
    | err => exact fun _ p2 => p2
/-- f(e, ..) -/
theorem s_call {pu : Bool} {f : Nat} {xs : List MP.Ex} {e : Expr} {es : List Expr} {x : Str} {p : Pos} {k : Nat} {fa : Addr} {fd : FuncData} {ps : List Str} (hG : FlOk c.G) (tk : Takes c.X c.W)
    (Fn : FnOk c.X.prog c.X.w c.X.K c.X.mg c.X.base (L2.CX c.X.prog c.X.w) k fa fd ps (spOf c.X.K c.cA c.fN c.eA (c.G false f) ps.length)) (hr : Room k c.X.A) (hg : Gl c.X x) (hm : c.X.mg x = some (.ref fa)) (hk : PySem.W.keepIn c.X.K (.ref fa) = true) (hb : Binds c.X.K fd ps [])
    (ha : SA c xs (e :: es)) (hlen : xs.length = ps.length) (hdb : (x == ("__debug__" : Str)) = false) (hs : starEach (e :: es) c.X.env = (false, eval e c.X.env) :: starEach es c.X.env) (hpl : (backTo pos (starEach es c.X.env)).any (·.1) = false) :
    SE c (.call pu f xs) (.Call (.Name x p) (e :: es) [] pos) := by
  obtain ⟨t, ht, q⟩ := ha
  intro fl ρ h σ m H F Q er S pp
  refine peSem (pe_callS (E := L2.WE c.W) Fn hr hg hm hk hb (fun σ => passAt tk σ) ht hdb hs hpl) ?_
  unfold MP.ev at pp
  refine q fl ρ h σ m H F _ er S (pp.bind fun l h1 m1 H1 F1 us hr1 e1 S1 r1 p1 => ?_)
  exact call_sp hG S1 e1 r1 (by rw [← Reps.length r1, evL_length hr1, hlen]) p1
end
end MPS
end
section
set_option Elab.async false
set_option linter.all false
set_option maxRecDepth 100000
set_option maxHeartbeats 4000000
namespace MPS
open PySem PySem.Spec PyProof.Rows L2
/-! ### what is walked -/
def WI (X : Cx) (tg iter : Expr) : TI := fun σ H R => ∀ pins s, Inv X pins σ H s → wpAny (model X.prog X.w) X.A (eval iter X.env) (fun v s1 => wpAny (model X.prog X.w) X.A (pyIter v) (PIE X pins σ tg R) X.xe s1) X.xe s
theorem pi_sem {X : Cx} {tg iter : Expr} : PI X tg iter (WI X tg iter) := ⟨fun pins s _ _ _ I h => h pins s I⟩
theorem piSem {X : Cx} {tg iter : Expr} {t : TI} (p : PI X tg iter t) {σ : L2.St} {H : L2.Hp} {R : It → L2.Hp → Prop} (h : t σ H R) : WI X tg iter σ H R := fun pins s I => p.run pins s σ H R I h
/-- the items that an iterator J gives are the source's -/
structure Walk (c : Ct) (s : MP.Src) (J : It) (m0 : List Addr) (F0 : L2.Hp) : Prop where
  fixed : ∀ l, s = .fix l → l.length ≤ sizeLine ∧ ∀ m h H F (i : Nat), c.Sm m h H F → Le F0 F → m0 <+: m →
    (∀ d, l[i]? = some d → J.go i H ∧ ∀ x H', J.yld i H x H' → ∃ F', Ext m H F m H' F' ∧ c.Sm m h H' F' ∧ Rep c.X.K F' m d x) ∧ (l.length ≤ i → J.stop i H)
  live : ∀ n k, s = .live n k → k ≤ sizeLine ∧ ∀ m h H F (i : Nat), c.Sm m h H F → Le F0 F → m0 <+: m →
    (∀ d, MP.itemAt h n k i = some d → J.go i H ∧ ∀ x H', J.yld i H x H' → ∃ F', Ext m H F m H' F' ∧ c.Sm m h H' F' ∧ Rep c.X.K F' m d x) ∧ (MP.stillAt h n k = true → k ≤ i → J.stop i H)
def rI (c : Ct) : Rl MP.Src It := fun _ m _ F s J => Walk c s J m F
theorem early_I {c : Ct} : Early (rI c) := fun _ _ _ _ _ _ _ _ q => q
def SI (c : Ct) (it : MP.It) (tg iter : Expr) : Prop := ∀ fl ρ h σ m H F R, EnvR c.X.K F m ρ σ → c.Sm m h H F → Post c (rI c) σ m H F R (MP.evI c.G fl it ρ h) → WI c.X tg iter σ H R
section
variable {c : Ct} {pos : Pos} {tg : Expr}
theorem walk_lst {m : List Addr} {h : MP.Hp} {H F : L2.Hp} {a : Addr} {l : List MP.D} {vs : List V} (S : c.Sm m h H F) (e : F a = some (.lst vs)) (r : Reps c.X.K F m l vs) : Walk c (.fix l) (Itl c.X.K a) m F := by
  refine ⟨fun l' el => ?_, fun n k el => by cases el⟩
  cases el
  refine ⟨r.sizeL S (S.le a _ e), fun m1 h1 H1 F1 i S1 le pm => ⟨fun d hd => ?_, fun hl => ?_⟩⟩
  · have eH := S1.le a _ (le a _ e)
    obtain ⟨v, hv, rv⟩ := r.get hd
    refine ⟨⟨vs, v, SqL.of eH, hv⟩, fun x H' hy => ?_⟩
    obtain ⟨rfl, hx⟩ := hy
    have q := hx vs (SqL.of eH)
    rw [hv] at q; cases q
    exact ⟨F1, Ext.refl _ _ _, S1, rv.mono le pm⟩
  · exact ⟨vs, SqL.of (S1.le a _ (le a _ e)), by rw [← r.length]; exact hl⟩
theorem walk_tup {m : List Addr} {h : MP.Hp} {H F : L2.Hp} {a : Addr} {l : List MP.D} {vs : List V} (S : c.Sm m h H F) (e : SqT c.X.K F a vs) (r : Reps c.X.K F m l vs) : Walk c (.fix l) (Itt c.X.K a) m F := by
  refine ⟨fun l' el => ?_, fun n k el => by cases el⟩
  cases el
  refine ⟨r.size S (S.le.sqT e), fun m1 h1 H1 F1 i S1 le pm => ⟨fun d hd => ?_, fun hl => ?_⟩⟩
  · have eH : SqT c.X.K H1 a vs := S1.le.sqT (le.sqT e)
    obtain ⟨v, hv, rv⟩ := r.get hd
    refine ⟨⟨vs, v, eH, hv⟩, fun x H' hy => ?_⟩
    obtain ⟨rfl, hx⟩ := hy
    have q := hx vs eH
    rw [hv] at q; cases q
    exact ⟨F1, Ext.refl _ _ _, S1, rv.mono le pm⟩
  · exact ⟨vs, S1.le.sqT (le.sqT e), by rw [← r.length]; exact hl⟩
theorem walk_live {m : List Addr} {h : MP.Hp} {H F : L2.Hp} {n : Nat} {a : Addr} {l : List MP.D} {vs : List V} (S : c.Sm m h H F) (em : m[n]? = some a) (e : H a = some (.lst vs)) (r : Reps c.X.K F m l vs) : Walk c (.live n l.length) (Itl c.X.K a) m F := by
  refine ⟨fun l' el => (by cases el), fun n' k el => ?_⟩
  cases el
  refine ⟨r.sizeL S e, fun m1 h1 H1 F1 i S1 le pm => ⟨fun d hd => ?_, fun hs hl => ?_⟩⟩
  · unfold MP.itemAt at hd
    split at hd
    · rename_i l1 hl1
      split at hd
      · obtain ⟨a1, q1, ws, q2, rw1⟩ := S1.at hl1
        rw [get_pre pm em] at q1; cases q1
        obtain ⟨v, hv, rv⟩ := rw1.get hd
        refine ⟨⟨ws, v, SqL.of q2, hv⟩, fun x H' hy => ?_⟩
        obtain ⟨rfl, hx⟩ := hy
        have q := hx ws (SqL.of q2)
        rw [hv] at q; cases q
        exact ⟨F1, Ext.refl _ _ _, S1, rv⟩
      · cases hd
    · cases hd
  · unfold MP.stillAt at hs
    split at hs
    · rename_i l1 hl1
      obtain ⟨a1, q1, ws, q2, rw1⟩ := S1.at hl1
      rw [get_pre pm em] at q1; cases q1
      refine ⟨ws, SqL.of q2, ?_⟩
      rw [← rw1.length]
      have := beq_iff_eq.mp hs
      omega
    · cases hs
theorem walk_str {m : List Addr} {F : L2.Hp} {t : MP.Txt} (hl : t.length ≤ sizeLine) (ht : ∀ k ∈ t, k < 1114112) : Walk c (.fix (t.map fun k => .str [k])) (Its (tx t)) m F := by
  refine ⟨fun l' el => ?_, fun n k el => by cases el⟩
  cases el
  have es : (tx t).cps.size = t.length := by simp [tx]
  refine ⟨by rw [List.length_map]; exact hl, fun m1 h1 H1 F1 i S1 le pm => ⟨fun d hd => ?_, fun hl => ?_⟩⟩
  · rw [List.getElem?_map] at hd
    simp only [Option.map_eq_some_iff] at hd
    obtain ⟨k, hk, rfl⟩ := hd
    refine ⟨by show i < (tx t).cps.size; rw [es]; exact (List.getElem?_eq_some_iff.mp hk).1, fun x H' hy => ?_⟩
    obtain ⟨rfl, k', hk', rfl⟩ := hy
    have : t[i]? = some k' := by simpa [tx] using hk'
    rw [hk] at this; cases this
    exact ⟨F1, Ext.refl _ _ _, S1, rfl, fun q hq => by simp at hq; subst hq; exact ht _ (List.mem_of_getElem? hk)⟩
  · show (tx t).cps.size ≤ i
    rw [es]; simpa using hl
theorem walk_rng {m : List Addr} {F : L2.Hp} {lo : Int} {n : Nat} (hn : n ≤ sizeLine) : Walk c (.fix (MP.rngD lo n)) (Itr lo n) m F := by
  refine ⟨fun l' el => ?_, fun n k el => by cases el⟩
  cases el
  have el : (MP.rngD lo n).length = n := by simp [MP.rngD]
  refine ⟨by rw [el]; exact hn, fun m1 h1 H1 F1 i S1 le pm => ⟨fun d hd => ?_, fun hl => ?_⟩⟩
  · have lt : i < n := by rw [← el]; exact (List.getElem?_eq_some_iff.mp hd).1
    refine ⟨lt, fun x H' hy => ?_⟩
    obtain ⟨rfl, rfl⟩ := hy
    have : d = .int (lo + i) := by
      simp [MP.rngD, lt] at hd
      exact hd.symm
    subst this
    exact ⟨F1, Ext.refl _ _ _, S1, rfl⟩
  · show n ≤ i
    rw [← el]; exact hl
theorem enum_get {l : List MP.D} {i : Nat} {d : MP.D} (h : (MP.enumD l)[i]? = some d) : ∃ x, l[i]? = some x ∧ d = .ltp [.int i, x] := by
  unfold MP.enumD at h
  rw [List.getElem?_zipWith] at h
  by_cases lt : i < l.length
  · simp [lt] at h
    exact ⟨l[i], List.getElem?_eq_getElem lt, h.symm⟩
  · have : l[i]? = none := List.getElem?_eq_none (by omega)
    rw [this] at h
    simp at h
theorem enum_len (l : List MP.D) : (MP.enumD l).length = l.length := by simp [MP.enumD]
theorem walk_enum {m : List Addr} {h : MP.Hp} {H F : L2.Hp} {a : Addr} {l : List MP.D} {vs : List V} (S : c.Sm m h H F) (e : F a = some (.lst vs)) (r : Reps c.X.K F m l vs) : Walk c (.fix (MP.enumD l)) (Ite c.X.K a) m F := by
  refine ⟨fun l' el => ?_, fun n k el => by cases el⟩
  cases el
  refine ⟨by rw [enum_len]; exact r.sizeL S (S.le a _ e), fun m1 h1 H1 F1 i S1 le pm => ⟨fun d hd => ?_, fun hl => ?_⟩⟩
  · have eH := S1.le a _ (le a _ e)
    obtain ⟨x, hx, rfl⟩ := enum_get hd
    obtain ⟨v, hv, rv⟩ := r.get hx
    refine ⟨⟨vs, v, SqL.of eH, hv⟩, fun y H' hy => ?_⟩
    obtain ⟨T, z, rfl, nT, rfl, hz⟩ := hy
    have q := hz vs (SqL.of eH)
    rw [hv] at q; cases q
    refine ⟨_, Ext.newF nT, S1.newF nT (by show 2 ≤ sizeLine; rw [sizeLine_eq]; omega), T, _, rfl, upd_same, ?_⟩
    exact ⟨_, _, rfl, rfl, _, _, rfl, (rv.mono le pm).mono (S1.le.self nT) (List.prefix_refl _), rfl⟩
  · exact ⟨vs, SqL.of (S1.le a _ (le a _ e)), by rw [← r.length, ← enum_len]; exact hl⟩
/-! ### the forms of iterables -/
theorem i_seq {x : MP.Ex} {e : Expr} (hx : SE c x e) : SI c (.seq x) tg e := by
  intro fl ρ h σ m H F R er S p
  unfold MP.evI at p
  cases hr : MP.ev c.G fl x ρ h with
  | err => rw [hr] at p; exact p.elim
  | exc k h' =>
    rw [hr] at p
    refine piSem (pi_list (tg := tg) pe_sem) (hx fl ρ h σ m H F _ er S ?_)
    rw [hr]; exact p
  | ok v h1 =>
    rw [hr] at p
    simp only [MP.R.bind_ok] at p
    have base : ∀ {t : TI}, PI c.X tg e t → (∀ m1 H1 F1 u, Ext m H F m1 H1 F1 → c.Sm m1 h1 H1 F1 → RepV c.X.K H m1 H1 F1 v u → True) → True := fun _ _ => trivial
    cases v with
    | ndc l => exact p.elim
    | ndt l => exact p.elim
    | nls l =>
      refine piSem (pi_list (tg := tg) pe_sem) (hx fl ρ h σ m H F _ er S ?_)
      rw [hr]
      intro m1 H1 F1 u e1 S1 r1
      obtain ⟨a, vs, rfl, n0, eH, nF, nM, rs⟩ := r1
      refine ⟨a, rfl, ⟨vs, SqL.of eH⟩, ?_⟩
      have S2 := S1.frz eH nF nM
      have rs2 := rs.mono (Le.frz1 (o := .lst vs) nF) (List.prefix_refl _)
      exact p m1 H1 _ _ (e1.frz n0) S2 (walk_lst S2 upd_same rs2)
    | d x =>
      cases x with
      | non => exact p.elim
      | bl b => exact p.elim
      | int b => exact p.elim
      | str t =>
        simp only [MP.srcOf] at p
        split at p
        · rename_i s hs
          split at hs
          · rename_i hl
            cases hs
            refine piSem (pi_str (tg := tg) pe_sem) (hx fl ρ h σ m H F _ er S ?_)
            rw [hr]
            intro m1 H1 F1 u e1 S1 r1
            obtain ⟨rfl, kt⟩ := r1
            exact ⟨_, rfl, p m1 H1 F1 _ e1 S1 (walk_str (by rw [sizeLine_eq]; exact hl) kt)⟩
          · cases hs
        · exact p.elim
      | ltp l =>
        refine piSem (pi_tup (tg := tg) pe_sem) (hx fl ρ h σ m H F _ er S ?_)
        rw [hr]
        intro m1 H1 F1 u e1 S1 r1
        obtain ⟨a, vs, rfl, ea, ra⟩ := r1
        exact ⟨a, rfl, ⟨vs, SqT.of (S1.le a _ ea)⟩, p m1 H1 F1 _ e1 S1 (walk_tup S1 (SqT.of ea) ra)⟩
      | lst l =>
        refine piSem (pi_list (tg := tg) pe_sem) (hx fl ρ h σ m H F _ er S ?_)
        rw [hr]
        intro m1 H1 F1 u e1 S1 r1
        obtain ⟨a, vs, rfl, ea, ra⟩ := r1
        exact ⟨a, rfl, ⟨vs, SqL.of (S1.le a _ ea)⟩, p m1 H1 F1 _ e1 S1 (walk_lst S1 ea ra)⟩
      | ctp l => exact p.elim
      | tup l =>
        refine piSem (pi_tup (tg := tg) pe_sem) (hx fl ρ h σ m H F _ er S ?_)
        rw [hr]
        intro m1 H1 F1 u e1 S1 r1
        obtain ⟨a, vs, rfl, ⟨o, ea, _⟩, ra⟩ := r1
        exact ⟨a, rfl, ⟨vs, sq_ltp (S1.le a _ ea)⟩, p m1 H1 F1 _ e1 S1 (walk_tup S1 (sq_ltp ea) ra)⟩
      | ref n =>
        simp only [MP.srcOf] at p
        split at p
        · rename_i s hs
          split at hs
          · rename_i l hl
            cases hs
            refine piSem (pi_list (tg := tg) pe_sem) (hx fl ρ h σ m H F _ er S ?_)
            rw [hr]
            intro m1 H1 F1 u e1 S1 r1
            obtain ⟨a, vs, rfl, em, ea, ra⟩ := ref_lst S1 r1 hl
            exact ⟨a, rfl, ⟨vs, SqL.of ea⟩, p m1 H1 F1 _ e1 S1 (walk_live S1 em ea ra)⟩
          · cases hs
        · exact p.elim
theorem pa_one {X : Cx} {e : Expr} (hs : starEach [e] X.env = [(false, eval e X.env)]) : PA X [e] (tCons (WE X e) tNil) := pa_cons pe_sem pa_nil hs
theorem i_rng1 {x : MP.Ex} {a : Expr} {p : Pos} (hx : SE c x a) (hg : Gl c.X "range") (hm : c.X.mg "range" = none) (hs : starEach [a] c.X.env = [(false, eval a c.X.env)]) : SI c (.rng1 x) tg (.Call (.Name "range" p) [a] [] pos) := by
  intro fl ρ h σ m H F R er S q
  refine piSem (pi_range1 hg hm (pa_one hs) hs) ?_
  unfold MP.evI at q
  refine hx fl ρ h σ m H F _ er S (q.bind fun v h1 m1 H1 F1 u _ e1 S1 r1 p1 => ?_)
  split at p1
  · cases r1
    split at p1
    · rename_i hn
      exact ⟨_, rfl, by omega, by omega, p1 m1 H1 F1 _ e1 S1 (walk_rng (by rw [sizeLine_eq]; omega))⟩
    · exact p1.elim
  · exact p1.elim
theorem i_rng2 {x y : MP.Ex} {a b : Expr} {p : Pos} (hx : SE c x a) (hy : SE c y b) (hg : Gl c.X "range") (hm : c.X.mg "range" = none) (hs : starEach [a, b] c.X.env = [(false, eval a c.X.env), (false, eval b c.X.env)]) (hs2 : starEach [b] c.X.env = [(false, eval b c.X.env)]) : SI c (.rng2 x y) tg (.Call (.Name "range" p) [a, b] [] pos) := by
  intro fl ρ h σ m H F R er S q
  have ha : PA c.X [a, b] (tCons (WE c.X a) (tCons (WE c.X b) tNil)) := pa_cons pe_sem (pa_one hs2) (by rw [hs, hs2])
  refine piSem (pi_range2 hg hm ha hs hs2) ?_
  unfold MP.evI at q
  refine hx fl ρ h σ m H F _ er S (q.bind fun v h1 m1 H1 F1 u _ e1 S1 r1 p1 => ?_)
  refine hy fl ρ h1 σ m1 H1 F1 _ (er.ext e1 S.le) S1 ((p1.shift early_I e1).bind fun w h2 m2 H2 F2 u2 _ e2 S2 r2 p2 => ?_)
  split at p2
  · cases r1
    cases r2
    split at p2
    · rename_i hn
      exact ⟨_, _, rfl, ⟨by omega, by omega, by omega, by omega⟩, p2 m2 H2 F2 _ e2 S2 (walk_rng (by rw [sizeLine_eq]; omega))⟩
    · exact p2.elim
  · exact p2.elim
end
end MPS
end
section
set_option Elab.async false
set_option linter.all false
set_option maxRecDepth 100000
set_option maxHeartbeats 4000000
namespace MPS
open PySem PySem.Spec PyProof.Rows L2
/-! ### targets -/
def WG (X : Cx) (tg : Expr) : TG := fun v σ H Q => ∀ pins s u, Inv X pins σ H s → RelV v u → wpAny (model X.prog X.w) X.A (assign tg X.env u) (fun _ s' => ∃ σ' H', Inv X pins σ' H' s' ∧ Q σ' H') X.xe s
theorem pg_sem {X : Cx} {tg : Expr} : PG X tg (WG X tg) := ⟨fun pins s _ _ _ u _ I r h => h pins s u I r⟩
theorem pgSem {X : Cx} {tg : Expr} {t : TG} (p : PG X tg t) {v : V} {σ : L2.St} {H : L2.Hp} {Q : L2.St → L2.Hp → Prop} (h : t v σ H Q) : WG X tg v σ H Q := fun pins s u I r => p.run pins s σ H v u Q I r h
mutual
def slotsT : MP.Tg → List Nat
  | .v i => [i]
  | .t ts => slotsTs ts
def slotsTs : List MP.Tg → List Nat
  | [] => []
  | t :: ts => slotsT t ++ slotsTs ts
end
/-- but for some slots the same -/
def But (is : List Nat) (σ σ' : L2.St) : Prop := σ'.length = σ.length ∧ ∀ i, i ∉ is → σ'[i]? = σ[i]?
theorem But.refl (is : List Nat) (σ : L2.St) : But is σ σ := ⟨rfl, fun _ _ => rfl⟩
theorem But.trans {is js : List Nat} {σ σ1 σ2 : L2.St} (a : But is σ σ1) (b : But js σ1 σ2) : But (is ++ js) σ σ2 := ⟨b.1.trans a.1, fun i hi => by
  rw [List.mem_append, not_or] at hi
  exact (b.2 i hi.2).trans (a.2 i hi.1)⟩
def SG (c : Ct) (t : MP.Tg) (tg : Expr) : Prop := ∀ h d ρ ρ' v σ m H F Q, EnvR c.X.K F m ρ σ → c.Sm m h H F → Rep c.X.K F m d v → MP.bindT h t d ρ = some ρ' → (∀ σ', EnvR c.X.K F m ρ' σ' → But (slotsT t) σ σ' → Q σ' H) → WG c.X tg v σ H Q
def SGs (c : Ct) (ts : List MP.Tg) (tgs : List Expr) : Prop := ∃ t, PGs c.X tgs t ∧ ∀ h ds ρ ρ' vs σ m H F Q, EnvR c.X.K F m ρ σ → c.Sm m h H F → Reps c.X.K F m ds vs → MP.bindTs h ts ds ρ = some ρ' → (∀ σ', EnvR c.X.K F m ρ' σ' → But (slotsTs ts) σ σ' → Q σ' H) → t vs σ H Q
section
variable {c : Ct} {pos : Pos}
theorem EnvR.set {K : PySem.W.Frag} {F : L2.Hp} {m : List Addr} {ρ : MP.Env} {σ : L2.St} {i : Nat} {d : MP.D} {v : V} (er : EnvR K F m ρ σ) (r : Rep K F m d v) : EnvR K F m (ρ.set i (some d)) (σ.set i (some v)) := by
  refine ⟨by simp [er.1], fun j d' hj => ?_⟩
  by_cases e : j = i
  · subst e
    by_cases lt : j < ρ.length
    · rw [List.getElem?_set_self lt] at hj
      cases hj
      exact ⟨v, List.getElem?_set_self (by rw [← er.1]; exact lt), r⟩
    · rw [List.getElem?_eq_none (by simpa using lt)] at hj; cases hj
  · rw [List.getElem?_set_ne (Ne.symm e)] at hj ⊢
    exact er.2 j d' hj
theorem g_name {i : Nat} {x : Str} (hN : c.X.N.Nodup) (hi : c.X.N[i]? = some x) (hx : Loc c.X.env.scope x) (hf : c.X.fn x = true ∨ c.X.env.scope.names.lookup x = some .local) : SG c (.v i) (.Name x pos) := by
  intro h d ρ ρ' v σ m H F Q er S r e q
  refine pgSem (pg_name hN hi hx hf) ?_
  unfold MP.bindT at e
  split at e
  · cases e
    exact q _ (er.set r) ⟨by simp, fun j hj => List.getElem?_set_ne (fun z => hj (by simp [slotsT, z]))⟩
  · cases e
theorem gs_nil : SGs c [] [] := by
  refine ⟨gNil, pgs_nil, fun h ds ρ ρ' vs σ m H F Q er S r e q => ?_⟩
  cases ds with
  | nil =>
    cases e
    exact ⟨r, q _ er (But.refl _ _)⟩
  | cons d ds => cases e
theorem gs_cons {t : MP.Tg} {ts : List MP.Tg} {a : Expr} {as : List Expr} (h1 : SG c t a) (h2 : SGs c ts as) (hs : (assignEach (a :: as) c.X.env).map (·.2) = assign a c.X.env :: (assignEach as c.X.env).map (·.2)) : SGs c (t :: ts) (a :: as) := by
  obtain ⟨u, hu, k⟩ := h2
  refine ⟨_, pgs_cons pg_sem hu hs, fun h ds ρ ρ' vs σ m H F Q er S r e q => ?_⟩
  cases ds with
  | nil => cases e
  | cons d ds =>
    obtain ⟨v, r', rfl, g1, g2⟩ := r
    unfold MP.bindTs at e
    split at e
    · rename_i ρ1 hb
      refine ⟨v, r', rfl, h1 h d ρ ρ1 v σ m H F _ er S g1 hb fun σ1 er1 b1 => ?_⟩
      exact k h ds ρ1 ρ' r' σ1 m H F _ er1 S g2 e fun σ2 er2 b2 => q σ2 er2 (b1.trans b2)
    · cases e
theorem g_tup {ts : List MP.Tg} {as : List Expr} {k : Nat} (hc : c.X.calm = true) (hs : SGs c ts as) (hn : (assignEach as c.X.env).length = ts.length) (hst : (assignEach as c.X.env).findIdx? (·.1) = none) : SG c (.t ts) (.Tuple as k pos) := by
  obtain ⟨u, hu, kk⟩ := hs
  intro h d ρ ρ' v σ m H F Q er S r e q
  unfold MP.bindT at e
  split at e
  · rename_i l hl
    obtain ⟨a, vs, rfl, hsq, ra⟩ := seq_at (x := .d d) (H1 := H) S r hl
    have hlen : vs.length = ts.length := by
      rw [← ra.length]
      have : ∀ {ts : List MP.Tg} {l : List MP.D} {ρ ρ' : MP.Env}, MP.bindTs h ts l ρ = some ρ' → l.length = ts.length := by
        intro ts
        induction ts with
        | nil => intro l ρ ρ' e; cases l with
          | nil => rfl
          | cons _ _ => cases e
        | cons t ts ih =>
          intro l ρ ρ' e
          cases l with
          | nil => cases e
          | cons d l =>
            unfold MP.bindTs at e
            split at e
            · simp [ih e]
            · cases e
      exact this e
    have go : u vs σ H Q := kk h l ρ ρ' vs σ m H F Q er S ra e fun σ' er' b' => q σ' er' b'
    rcases hsq with hsq | hsq
    · exact pgSem (pg_lst hc hu hn hst) ⟨a, vs, rfl, hsq, hlen, go⟩
    · exact pgSem (pg_tup hc hu hn hst) ⟨a, vs, rfl, hsq, hlen, go⟩
  · cases e
/-! ### the slots of a comprehension -/
theorem wipe_get (σ : L2.St) : ∀ (vs : List Nat) (i : Nat), (L2.wipe σ vs)[i]? = if i ∈ vs ∧ i < σ.length then some none else σ[i]?
  | [], i => by simp [L2.wipe]
  | v :: vs, i => by
    unfold L2.wipe
    by_cases e : v = i
    · subst e
      by_cases lt : v < σ.length
      · rw [List.getElem?_set_self (by rw [wipe_length]; exact lt)]; simp [lt]
      · rw [List.getElem?_eq_none (by rw [List.length_set, wipe_length]; omega), List.getElem?_eq_none (by omega)]; simp [lt]
    · rw [List.getElem?_set_ne e, wipe_get σ vs i]
      have : i ≠ v := fun z => e z.symm
      simp [this]
theorem wipe_ext {σ σ' : L2.St} {vs is : List Nat} (b : But is (L2.wipe σ vs) σ') (hs : ∀ i ∈ is, i ∈ vs) : L2.wipe σ' vs = L2.wipe σ vs := by
  have hl : σ'.length = σ.length := b.1.trans (wipe_length _ _)
  refine List.ext_getElem? fun i => ?_
  rw [wipe_get, wipe_get]
  by_cases hi : i ∈ vs
  · simp only [hi, true_and, hl]
    by_cases lt : i < σ.length
    · simp [lt]
    · simp only [lt, if_false]
      rw [List.getElem?_eq_none (by omega), List.getElem?_eq_none (by omega)]
  · simp only [hi, false_and, if_false]
    rw [b.2 i (fun z => hi (hs i z)), wipe_get]
    simp [hi]
theorem EnvR.wipe {K : PySem.W.Frag} {F : L2.Hp} {m : List Addr} {ρ : MP.Env} {σ : L2.St} (er : EnvR K F m ρ σ) (vs : List Nat) : EnvR K F m (MP.wipe ρ vs) (L2.wipe σ vs) := by
  induction vs with
  | nil => exact er
  | cons v vs ih =>
    unfold MP.wipe L2.wipe
    refine ⟨by simp [ih.1], fun j d hj => ?_⟩
    by_cases e : j = v
    · subst e
      by_cases lt : j < (MP.wipe ρ vs).length
      · rw [List.getElem?_set_self lt] at hj; cases hj
      · rw [List.getElem?_eq_none (by simpa using lt)] at hj; cases hj
    · rw [List.getElem?_set_ne (Ne.symm e)] at hj ⊢
      exact ih.2 j d hj
end
end MPS
end
section
set_option Elab.async false
set_option linter.all false
set_option maxRecDepth 100000
set_option maxHeartbeats 4000000
namespace MPS
open PySem PySem.Spec PyProof.Rows L2
section
variable {K : PySem.W.Frag} {cA : Nat → Addr} {fN : Nat → Str} {m : List Addr} {h : MP.Hp} {H F : L2.Hp}
/-- a thing of one's own is changed -/
theorem Ext.own {m0 : List Addr} {H0 F0 : L2.Hp} {D : Addr} {o : HO} (e : Ext m0 H0 F0 m H F) (n0 : H0 D = none) : Ext m0 H0 F0 m (upd H D o) F :=
  ⟨e.mm, fun b hb => by rw [upd_ne (ne_by hb n0)]; exact e.th b hb, fun b hb nb => by rw [upd_ne (ne_by hb n0)]; exact e.kH b hb nb, e.kF, e.kM⟩
theorem Sm.own {D : Addr} {o : HO} (S : Sm K cA fN m h H F) (z : SzO o) (nF : F D = none) (nM : D ∉ m) : Sm K cA fN m h (upd H D o) F :=
  ⟨fun a u r => by rw [upd_ne (fun q => by rw [q, nF] at r; cases r)]; exact S.le a u r, S.nd, S.len, S.nf, sz_upd S.sz z,
    fun n a ob e1 e2 => (S.ob n a ob e1 e2).mono (upd_ne (fun q => nM (by rw [← q]; exact List.mem_of_getElem? e1))) (Le.refl _) (List.prefix_refl _)⟩
end
/-- the context of a comprehension's block: no exception leaves it -/
def Ct.blk (c : Ct) (s : Shared) (H : L2.Hp) (scope : Scope) (cl : List (Str × Addr)) (C : Addr) (fp : List Addr) : Ct := { c with X := c.X.blk s H scope (compEnvC scope cl C c.X.env) fp, W := fun _ _ _ _ => False }
/-- the state of a comprehension's list -/
structure Acc (c : Ct) (m1 : List Addr) (H1 F1 : L2.Hp) (D : Addr) (acc : List MP.D) (h : MP.Hp) (m : List Addr) (H F : L2.Hp) (vs : List V) : Prop where
  ex : Ext m1 H1 F1 m H F
  sm : c.Sm m h H F
  at_ : H D = some (.lst vs)
  nf : F D = none
  nm : D ∉ m
  rs : Reps c.X.K F m acc vs
theorem Acc.ext {c : Ct} {m1 : List Addr} {H1 F1 : L2.Hp} {D : Addr} {acc : List MP.D} {h h' : MP.Hp} {m : List Addr} {H F : L2.Hp} {vs : List V} (A : Acc c m1 H1 F1 D acc h m H F vs) {m' : List Addr} {H' F' : L2.Hp} (e : Ext m H F m' H' F') (S : c.Sm m' h' H' F') : Acc c m1 H1 F1 D acc h' m' H' F' vs := by
  have ne : H D ≠ none := by rw [A.at_]; simp
  exact ⟨A.ex.trans e, S, (e.kH D ne A.nm).trans A.at_, (e.kF D ne).trans A.nf, e.kM D ne A.nm, A.rs.ext e A.sm.le⟩
section
variable {c : Ct} {pos : Pos}
def stepC (G : MP.Fns) (fl : Nat) (tg : MP.Tg) (cond : Option MP.Ex) (elt : MP.Ex) (ρ : MP.Env) (x : MP.D) (h : MP.Hp) : MP.R (Option MP.D) := match MP.bindT h tg x ρ with
  | some ρ' => (MP.evC G fl cond ρ' h).bind fun k h => if k then (MP.ev G fl elt ρ' h).bind fun y h => .ok (some (MP.keep h y).1) (MP.keep h y).2 else .ok none h
  | none => .err
/-- a comprehension's test, in all blocks -/
def SC (c : Ct) (scope : Scope) (cond : Option MP.Ex) (ifs : List Expr) : Prop := match cond, ifs with
  | none, [] => True
  | some x, [e] => ∀ s H C cl fp, ST (c.blk s H scope cl C fp) x e
  | _, _ => False
def tC2 (c : Ct) (scope : Scope) : List Expr → TT
  | [e] => fun σ H Q => ∀ s H0 C cl fp, WT (c.X.blk s H0 scope (compEnvC scope cl C c.X.env) fp) e σ H Q
  | _ => tYes
def gC (c : Ct) (scope : Scope) (tg : Expr) : TG := fun v σ H Q => ∀ s H0 C cl fp, WG (c.X.blk s H0 scope (compEnvC scope cl C c.X.env) fp) tg v σ H Q
def eC (c : Ct) (scope : Scope) (e : Expr) : TE := fun σ H Q => ∀ s H0 C cl fp, WE (c.X.blk s H0 scope (compEnvC scope cl C c.X.env) fp) e σ H Q
theorem comp_turn {scope : Scope} {own : List Nat} {t : MP.Tg} {tg : Expr} {cond : Option MP.Ex} {ifs : List Expr} {elt : MP.Ex} {e : Expr} {fl : Nat} {ρ : MP.Env} {σ : L2.St}
    (hG : ∀ s H C cl fp, SG (c.blk s H scope cl C fp) t tg) (hT : SC c scope cond ifs) (hE : ∀ s H C cl fp, SE (c.blk s H scope cl C fp) elt e) (hsub : ∀ i ∈ slotsT t, i ∈ own)
    {m1 : List Addr} {H1 F1 : L2.Hp} {D : Addr} {acc : List MP.D} {h : MP.Hp} {m : List Addr} {H F : L2.Hp} {vs : List V} (n1 : H1 D = none) (A : Acc c m1 H1 F1 D acc h m H F vs) (er : EnvR c.X.K F m ρ σ) {d : MP.D} {x : V} (rd : Rep c.X.K F m d x) (hlen : acc.length < sizeLine)
    {y : Option MP.D} {h' : MP.Hp} (hst : stepC c.G fl t cond elt (MP.wipe ρ own) d h = .ok y h') {Nx : L2.Hp → Prop}
    (hN : ∀ m' H' F' vs', Acc c m1 H1 F1 D (MP.addO acc y) h' m' H' F' vs' → Nx H') :
    gC c scope tg x (L2.wipe σ own) H fun σ2 H2 => L2.wipe σ2 own = L2.wipe σ own ∧ tC2 c scope ifs σ2 H2 fun b H3 =>
      if b = true then eC c scope e σ2 H3 fun y H4 => ∃ acc, H4 D = some (.lst acc) ∧ acc.length < sizeLine ∧ Nx (upd H4 D (.lst (acc ++ [y]))) else Nx H3 := by
  intro s0 H0 C cl fp
  unfold stepC at hst
  split at hst
  · rename_i ρ' hb
    refine hG s0 H0 C cl fp h d (MP.wipe ρ own) ρ' x (L2.wipe σ own) m H F _ (er.wipe own) A.sm rd hb fun σ2 er2 b2 => ⟨wipe_ext b2 hsub, ?_⟩
    -- the element
    have elt_ok : ∀ {h3 : MP.Hp} {m3 : List Addr} {H3 F3 : L2.Hp}, Acc c m1 H1 F1 D acc h3 m3 H3 F3 vs → EnvR c.X.K F3 m3 ρ' σ2 → ((MP.ev c.G fl elt ρ' h3).bind fun y h => MP.R.ok (some (MP.keep h y).1) (MP.keep h y).2) = .ok y h' →
        eC c scope e σ2 H3 fun y H4 => ∃ acc, H4 D = some (.lst acc) ∧ acc.length < sizeLine ∧ Nx (upd H4 D (.lst (acc ++ [y]))) := by
      intro h3 m3 H3 F3 A3 er3 hev s1 H01 C1 cl1 fp1
      refine hE s1 H01 C1 cl1 fp1 fl ρ' h3 σ2 m3 H3 F3 _ er3 A3.sm ?_
      show Post (c.blk s1 H01 scope cl1 C1 fp1) _ σ2 m3 H3 F3 _ (MP.ev c.G fl elt ρ' h3)
      cases hw : MP.ev c.G fl elt ρ' h3 with
      | err => rw [hw] at hev; cases hev
      | exc k h4 => rw [hw] at hev; cases hev
      | ok w h4 =>
        rw [hw] at hev
        simp only [MP.R.bind_ok, MP.R.ok.injEq] at hev
        obtain ⟨rfl, rfl⟩ := hev
        intro m4 H4 F4 u4 e4 S4 r4
        obtain ⟨m5, F5, e5, S5, r5, _, _⟩ := keep_ok (c := c) e4 S4 r4
        have A5 := A3.ext e5 S5
        refine ⟨vs, A5.at_, by rw [← A5.rs.length]; exact hlen, ?_⟩
        have z : (vs ++ [u4]).length ≤ sizeLine := by rw [List.length_append, ← A5.rs.length]; exact hlen
        refine hN m5 _ F5 (vs ++ [u4]) ⟨A5.ex.own n1, A5.sm.own z A5.nf A5.nm, upd_same, A5.nf, A5.nm, ?_⟩
        exact A5.rs.snoc r5
    -- the test
    cases cond with
    | none =>
      cases ifs with
      | nil =>
        exact iteT (B := Nx H) (elt_ok A er2 (by simpa [MP.evC] using hst))
      | cons a r => exact hT.elim
    | some x' =>
      cases ifs with
      | nil => exact hT.elim
      | cons a r =>
        cases r with
        | cons b r' => exact hT.elim
        | nil =>
          intro s1 H01 C1 cl1 fp1
          refine hT s1 H01 C1 cl1 fp1 fl ρ' h σ2 m H F _ er2 A.sm ?_
          show Post (c.blk s1 H01 scope cl1 C1 fp1) _ σ2 m H F _ (MP.evT c.G fl x' ρ' h)
          have hst : ((MP.evT c.G fl x' ρ' h).bind fun k h => if k = true then (MP.ev c.G fl elt ρ' h).bind fun y h => .ok (some (MP.keep h y).1) (MP.keep h y).2 else .ok none h) = .ok y h' := hst
          cases hw : MP.evT c.G fl x' ρ' h with
          | err => rw [hw] at hst; cases hst
          | exc k h4 => rw [hw] at hst; cases hst
          | ok b h3 =>
            rw [hw] at hst
            simp only [MP.R.bind_ok] at hst
            intro m3 H3 F3 u3 e3 S3 r3
            cases r3
            have A3 := A.ext e3 S3
            cases b with
            | true =>
              rw [if_pos rfl] at hst ⊢
              exact elt_ok A3 (er2.ext e3 A.sm.le) hst
            | false =>
              rw [if_neg Bool.false_ne_true] at hst ⊢
              cases hst
              exact hN m3 H3 F3 vs A3
  · cases hst

theorem Acc.start {m : List Addr} {h : MP.Hp} {H F : L2.Hp} {D : Addr} (S : c.Sm m h H F) (n : H D = none) : Acc c m H F D [] h m (upd H D (.lst [])) F [] := by
  refine ⟨Ext.new n, S.new n (Nat.zero_le _), upd_same, ?_, fun q => S.ne q n, rfl⟩
  cases q : F D with
  | none => rfl
  | some o => have := S.le D o q; rw [n] at this; cases this
/-- [elt for t in it if cond] -/
theorem s_comp {scope : Scope} {own : List (Str × Nat)} {ow : List Nat} (how : own.map (·.2) = ow) {t : MP.Tg} {tg iter : Expr} {it : MP.It} {cond : Option MP.Ex} {ifs : List Expr} {elt : MP.Ex} {e : Expr} (hc : c.X.calm = true) (hNd : c.X.N.Nodup) (hi : SI c it tg iter) (ok : BlkOk c.X.N c.X.env.scope scope own)
    (hG : ∀ s H C cl fp, SG (c.blk s H scope cl C fp) t tg) (hT : SC c scope cond ifs) (hE : ∀ s H C cl fp, SE (c.blk s H scope cl C fp) elt e) (hsub : ∀ i ∈ slotsT t, i ∈ ow) (hs : ∀ x, foldedSetIterable iter c.X.env x = pure x) :
    SE c (.comp ow t it cond elt) (.ListComp e [⟨tg, iter, ifs, 0⟩] scope pos) ∧
    ∀ fl ρ h σ m H F Q, EnvR c.X.K F m ρ σ → c.Sm m h H F → Post c (rV c) σ m H F Q (MP.ev c.G fl (.comp ow t it cond elt) ρ h) → tLc (WI c.X tg iter) (gC c scope tg) (tC2 c scope ifs) (eC c scope e) ow σ H Q := by
  have main : ∀ fl ρ h σ m H F Q, EnvR c.X.K F m ρ σ → c.Sm m h H F → Post c (rV c) σ m H F Q (MP.ev c.G fl (.comp ow t it cond elt) ρ h) → tLc (WI c.X tg iter) (gC c scope tg) (tC2 c scope ifs) (eC c scope e) ow σ H Q := by
    intro fl ρ h σ m H F Q er S p
    unfold MP.ev at p
    refine hi fl ρ h σ m H F _ er S (p.bind fun s h1 m1 H1 F1 J _ e1 S1 wk p1 => ?_)
    intro D nD
    have er1 := er.ext e1 S.le
    have nDH : H D = none := Classical.byContradiction fun q => e1.th D q nD
    have p1 : Post c (rV c) σ m H F Q ((MP.compGo (stepC c.G fl t cond elt (MP.wipe ρ ow)) s h1).bind fun l h => MP.R.ok (.nls l) h) := p1
    -- the end
    have fin : ∀ {acc : List MP.D} {h2 : MP.Hp} {m2 : List Addr} {H2 F2 : L2.Hp} {vs : List V}, Acc c m1 H1 F1 D acc h2 m2 H2 F2 vs → Post c (rV c) σ m H F Q (MP.R.ok (.nls acc) h2) → Q (.ref D) H2 := fun A q =>
      q _ _ _ _ (e1.trans A.ex) A.sm ⟨D, _, rfl, nDH, A.at_, A.nf, A.nm, A.rs⟩
    cases s with
    | fix l =>
      obtain ⟨hz, wk⟩ := wk.fixed l rfl
      refine ⟨fun i k H' => k = l.length - i ∧ i ≤ l.length ∧ ∃ acc h2 m2 F2 vs, Acc c m1 H1 F1 D acc h2 m2 H' F2 vs ∧ acc.length ≤ i ∧
        Post c (rV c) σ m H F Q ((MP.compFix (stepC c.G fl t cond elt (MP.wipe ρ ow)) (l.drop i) acc h2).bind fun l h => MP.R.ok (.nls l) h), ⟨l.length, by simp, Nat.zero_le _, [], h1, m1, F1, [], Acc.start S1 nD, Nat.zero_le _, p1⟩, ?_⟩
      rintro i k H' ⟨rfl, hi', acc, h2, m2, F2, vs, A, ha, q⟩
      obtain ⟨w1, w2⟩ := wk m2 h2 H' F2 i A.sm (A.ex.le S1.le) A.ex.mm
      by_cases lt : i < l.length
      · right
        have hd : l[i]? = some l[i] := List.getElem?_eq_getElem lt
        obtain ⟨go, yl⟩ := w1 _ hd
        refine ⟨go, ?_⟩
        rw [List.drop_eq_getElem_cons lt] at q
        unfold MP.compFix at q
        cases hst : stepC c.G fl t cond elt (MP.wipe ρ ow) l[i] h2 with
        | err => rw [hst] at q; exact q.elim
        | exc k h4 => rw [hst] at q; exact q.elim
        | ok y h3 =>
          rw [hst] at q
          refine ⟨fun H'' => ∃ acc' m' F' vs', Acc c m1 H1 F1 D acc' h3 m' H'' F' vs' ∧ acc' = (MP.addO acc y), fun H'' hx => ?_, fun x H'' hy => ?_⟩
          · obtain ⟨acc', m', F', vs', A', rfl⟩ := hx
            refine ⟨l.length - (i + 1), by omega, rfl, lt, _, h3, m', F', vs', A', ?_, q⟩
            cases y <;> simp [MP.addO] <;> omega
          · obtain ⟨F3, e3, S3, rd⟩ := yl x H'' hy
            exact comp_turn hG hT hE hsub nD (A.ext e3 S3) ((er1.ext A.ex S1.le).ext e3 A.sm.le) rd (by omega) hst fun m' H' F' vs' A' => ⟨_, m', F', vs', A', rfl⟩
      · left
        have : i = l.length := by omega
        subst this
        rw [List.drop_length] at q
        exact ⟨w2 (Nat.le_refl _), fin A q⟩
    | live n k0 =>
      obtain ⟨hz, wk⟩ := wk.live n k0 rfl
      refine ⟨fun i k H' => k = k0 - i ∧ i ≤ k0 ∧ ∃ acc h2 m2 F2 vs, Acc c m1 H1 F1 D acc h2 m2 H' F2 vs ∧ acc.length ≤ i ∧
        Post c (rV c) σ m H F Q ((MP.compLive (stepC c.G fl t cond elt (MP.wipe ρ ow)) n k0 (k0 - i) i acc h2).bind fun l h => MP.R.ok (.nls l) h), ⟨k0, by simp, Nat.zero_le _, [], h1, m1, F1, [], Acc.start S1 nD, Nat.zero_le _, p1⟩, ?_⟩
      rintro i k H' ⟨rfl, hi', acc, h2, m2, F2, vs, A, ha, q⟩
      obtain ⟨w1, w2⟩ := wk m2 h2 H' F2 i A.sm (A.ex.le S1.le) A.ex.mm
      by_cases lt : i < k0
      · right
        obtain ⟨j, hj⟩ : ∃ j, k0 - i = j + 1 := ⟨k0 - i - 1, by omega⟩
        rw [hj] at q
        unfold MP.compLive at q
        split at q
        · rename_i d hd
          obtain ⟨go, yl⟩ := w1 _ hd
          refine ⟨go, ?_⟩
          cases hst : stepC c.G fl t cond elt (MP.wipe ρ ow) d h2 with
          | err => rw [hst] at q; exact q.elim
          | exc k h4 => rw [hst] at q; exact q.elim
          | ok y h3 =>
            rw [hst] at q
            refine ⟨fun H'' => ∃ acc' m' F' vs', Acc c m1 H1 F1 D acc' h3 m' H'' F' vs' ∧ acc' = (MP.addO acc y), fun H'' hx => ?_, fun x H'' hy => ?_⟩
            · obtain ⟨acc', m', F', vs', A', rfl⟩ := hx
              refine ⟨k0 - (i + 1), by omega, rfl, lt, _, h3, m', F', vs', A', ?_, ?_⟩
              · cases y <;> simp [MP.addO] <;> omega
              · have : k0 - (i + 1) = j := by omega
                rw [this]; exact q
            · obtain ⟨F3, e3, S3, rd⟩ := yl x H'' hy
              exact comp_turn hG hT hE hsub nD (A.ext e3 S3) ((er1.ext A.ex S1.le).ext e3 A.sm.le) rd (by omega) hst fun m' H' F' vs' A' => ⟨_, m', F', vs', A', rfl⟩
        · exact q.elim
      · left
        have : k0 - i = 0 := by omega
        rw [this] at q
        unfold MP.compLive at q
        split at q
        · rename_i hst
          exact ⟨w2 hst (by omega), fin A q⟩
        · exact q.elim
  refine ⟨fun fl ρ h σ m H F Q er S p => ?_, main⟩
  subst how
  refine peSem (pe_lc hc hNd pi_sem ok (g := gC c scope tg) (tt := tC2 c scope ifs) (te := eC c scope e) (fun s H C cl fp => ⟨fun pins s' σ' H' v u Q' I r hq => hq s H C cl fp pins s' u I r⟩) (fun s H C cl fp => ?_) (fun s H C cl fp => ⟨fun pins s' σ' H' Q' I hq => hq s H C cl fp pins s' I⟩) hs) (main fl ρ h σ m H F Q er S p)
  cases cond with
  | none =>
    cases ifs with
    | nil => exact pts_nil
    | cons a r => exact hT.elim
  | some x' =>
    cases ifs with
    | nil => exact hT.elim
    | cons a r =>
      cases r with
      | cons b r' => exact hT.elim
      | nil => exact pts_one ⟨fun pins s' σ' H' Q' I hq => hq s H C cl fp pins s' I⟩
end
end MPS
end
section
set_option Elab.async false
set_option linter.all false
set_option maxRecDepth 100000
set_option maxHeartbeats 4000000
namespace MPS
open PySem PySem.Spec PyProof.Rows L2
/-! ### statements -/
def PostS (c : Ct) (m0 : List Addr) (H0 F0 : L2.Hp) (D : Ends) : MP.RS → Prop
  | .nx ρ h => ∀ σ m H F, Ext m0 H0 F0 m H F → c.Sm m h H F → EnvR c.X.K F m ρ σ → D.nx σ H
  | .rt v h => ∀ m H F u, Ext m0 H0 F0 m H F → c.Sm m h H F → RepV c.X.K H0 m H F v u → D.rt u H
  | .bk ρ h => ∀ σ m H F, Ext m0 H0 F0 m H F → c.Sm m h H F → EnvR c.X.K F m ρ σ → D.bk σ H
  | .ct ρ h => ∀ σ m H F, Ext m0 H0 F0 m H F → c.Sm m h H F → EnvR c.X.K F m ρ σ → D.ct σ H
  | .exc k ρ h => ∀ σ m H F, Ext m0 H0 F0 m H F → c.Sm m h H F → EnvR c.X.K F m ρ σ → c.W (.ref (c.eA k)) none σ H
  | .err => False
theorem PostS.shift {c : Ct} {m m1 : List Addr} {H F H1 F1 : L2.Hp} {D : Ends} {r : MP.RS} (e : Ext m H F m1 H1 F1) (p : PostS c m H F D r) : PostS c m1 H1 F1 D r := by
  cases r with
  | nx ρ h => exact fun σ m2 H2 F2 e2 S2 er => p σ m2 H2 F2 (e.trans e2) S2 er
  | rt v h => exact fun m2 H2 F2 u e2 S2 r => p m2 H2 F2 u (e.trans e2) S2 (RepV.start e.th r)
  | bk ρ h => exact fun σ m2 H2 F2 e2 S2 er => p σ m2 H2 F2 (e.trans e2) S2 er
  | ct ρ h => exact fun σ m2 H2 F2 e2 S2 er => p σ m2 H2 F2 (e.trans e2) S2 er
  | exc k ρ h => exact fun σ m2 H2 F2 e2 S2 er => p σ m2 H2 F2 (e.trans e2) S2 er
  | err => exact p
theorem PostS.st {α β : Type} {c : Ct} {rel : Rl α β} {σ : L2.St} {m : List Addr} {h : MP.Hp} {H F : L2.Hp} {Q : β → L2.Hp → Prop} {D : Ends} {r : MP.R α} {ρ : MP.Env} {f : α → MP.Hp → MP.RS} (p : PostS c m H F D (r.st ρ f)) (er : EnvR c.X.K F m ρ σ) (S : c.Sm m h H F)
    (k : ∀ a h1 m1 H1 F1 u, r = .ok a h1 → Ext m H F m1 H1 F1 → c.Sm m1 h1 H1 F1 → rel H m1 H1 F1 a u → PostS c m H F D (f a h1) → Q u H1) : Post c rel σ m H F Q r := by
  cases r with
  | ok a h' => exact fun m' H' F' u e s q => k a h' m' H' F' u rfl e s q p
  | exc k h' => exact fun m' H' F' e S' => p σ m' H' F' e S' (er.ext e S.le)
  | err => exact p
def WS (X : Cx) (st : Stmt) : TS := fun D σ H => ∀ pins s, Inv X pins σ H s → wpAny (model X.prog X.w) X.A (exec st X.env) (SP X pins D) X.xe s
def WSs (X : Cx) (st : List Stmt) : TS := fun D σ H => ∀ pins s, Inv X pins σ H s → wpAny (model X.prog X.w) X.A (execs st X.env) (SP X pins D) X.xe s
theorem ps_sem {X : Cx} {st : Stmt} : PS X st (WS X st) := ⟨fun pins s _ _ _ I h => h pins s I⟩
theorem pss_sem {X : Cx} {st : List Stmt} : PSs X st (WSs X st) := ⟨fun pins s _ _ _ I h => h pins s I⟩
theorem psSem {X : Cx} {st : Stmt} {t : TS} (p : PS X st t) {D : Ends} {σ : L2.St} {H : L2.Hp} (h : t D σ H) : WS X st D σ H := fun pins s I => p.run pins s σ H D I h
theorem pssSem {X : Cx} {st : List Stmt} {t : TS} (p : PSs X st t) {D : Ends} {σ : L2.St} {H : L2.Hp} (h : t D σ H) : WSs X st D σ H := fun pins s I => p.run pins s σ H D I h
def SS (c : Ct) (x : MP.Stm) (st : Stmt) : Prop := ∀ fl ρ h σ m H F D, EnvR c.X.K F m ρ σ → c.Sm m h H F → PostS c m H F D (MP.ex c.G fl x ρ h) → WS c.X st D σ H
def SSs (c : Ct) (xs : List MP.Stm) (st : List Stmt) : Prop := ∀ fl ρ h σ m H F D, EnvR c.X.K F m ρ σ → c.Sm m h H F → PostS c m H F D (MP.exs c.G fl xs ρ h) → WSs c.X st D σ H
section
variable {c : Ct} {pos : Pos}
theorem ss_nil : SSs c [] [] := fun fl ρ h σ m H F D er S p => pssSem pss_nil (p σ m H F (Ext.refl _ _ _) S er)
theorem ss_cons {x : MP.Stm} {xs : List MP.Stm} {st : Stmt} {sts : List Stmt} (h1 : SS c x st) (h2 : SSs c xs sts) : SSs c (x :: xs) (st :: sts) := by
  intro fl ρ h σ m H F D er S p
  refine pssSem (pss_cons ps_sem pss_sem) ?_
  unfold MP.exs at p
  refine h1 fl ρ h σ m H F _ er S ?_
  revert p
  cases MP.ex c.G fl x ρ h with
  | nx ρ1 h1' => exact fun p σ1 m1 H1 F1 e1 S1 er1 => h2 fl ρ1 h1' σ1 m1 H1 F1 D er1 S1 (PostS.shift e1 p)
  | rt v h1' => exact fun p => p
  | bk ρ1 h1' => exact fun p => p
  | ct ρ1 h1' => exact fun p => p
  | exc k ρ1 h1' => exact fun p => p
  | err => exact fun p => p
theorem ss_pass : SS c .pas (.Pass pos) := fun fl ρ h σ m H F D er S p => psSem ps_pass (p σ m H F (Ext.refl _ _ _) S er)
theorem ss_brk : SS c .brk (.Break pos) := fun fl ρ h σ m H F D er S p => psSem ps_break (p σ m H F (Ext.refl _ _ _) S er)
theorem ss_cnt : SS c .cnt (.Continue pos) := fun fl ρ h σ m H F D er S p => psSem ps_continue (p σ m H F (Ext.refl _ _ _) S er)
theorem ss_exp {x : MP.Ex} {e : Expr} (hx : SE c x e) (hs : swapsWith e none pos.line c.X.env = pure false) : SS c (.exp x) (.Expr e pos) := by
  intro fl ρ h σ m H F D er S p
  refine psSem (ps_expr pe_sem hs) ?_
  unfold MP.ex at p
  refine hx fl ρ h σ m H F _ er S (p.st er S fun v h1 m1 H1 F1 u _ e1 S1 r1 p1 => ?_)
  exact p1 σ m1 H1 F1 e1 S1 (er.ext e1 S.le)
theorem ss_ret {x : MP.Ex} {e : Expr} (hx : SE c x e) : SS c (.ret x) (.Return (some e) pos) := by
  intro fl ρ h σ m H F D er S p
  refine psSem (ps_ret pe_sem) ?_
  unfold MP.ex at p
  refine hx fl ρ h σ m H F _ er S (p.st er S fun v h1 m1 H1 F1 u _ e1 S1 r1 p1 => ?_)
  exact p1 m1 H1 F1 u e1 S1 r1
theorem ss_retN : SS c .retN (.Return none pos) := fun fl ρ h σ m H F D er S p => psSem ps_retN (p m H F .non (Ext.refl _ _ _) S rfl)
theorem ss_if {x : MP.Ex} {a b : List MP.Stm} {e : Expr} {as bs : List Stmt} (hx : ST c x e) (ha : SSs c a as) (hb : SSs c b bs) : SS c (.ifs x a b) (.If e as bs pos) := by
  intro fl ρ h σ m H F D er S p
  refine psSem (ps_if pt_sem pss_sem pss_sem) ?_
  unfold MP.ex at p
  refine hx fl ρ h σ m H F _ er S (p.st er S fun v h1 m1 H1 F1 u _ e1 S1 r1 p1 => ?_)
  cases r1
  cases v with
  | true => exact ha fl ρ h1 σ m1 H1 F1 D (er.ext e1 S.le) S1 (PostS.shift e1 p1)
  | false => exact hb fl ρ h1 σ m1 H1 F1 D (er.ext e1 S.le) S1 (PostS.shift e1 p1)
/-- a value stored at a name -/
theorem store_fin {al : Bool} {i : Nat} {ρ : MP.Env} {σ : L2.St} {m : List Addr} {h : MP.Hp} {H F : L2.Hp} {D : Ends} {v : MP.Vl} {u : V} {m1 : List Addr} {H1 F1 : L2.Hp} {h1 : MP.Hp} (er : EnvR c.X.K F m ρ σ) (S : c.Sm m h H F) (e1 : Ext m H F m1 H1 F1) (S1 : c.Sm m1 h1 H1 F1) (r1 : RepV c.X.K H m1 H1 F1 v u)
    (p : PostS c m H F D (if i < ρ.length then .nx (ρ.set i (some (MP.keepA al h1 v).1)) (MP.keepA al h1 v).2 else .err)) : D.nx (σ.set i (some u)) H1 := by
  split at p
  · obtain ⟨m2, F2, e2, S2, r2, _, _⟩ := alloc_ok (al := al) e1 S1 r1
    exact p _ m2 H1 F2 e2 S2 ((er.ext e2 S.le).set r2)
  · exact p.elim
theorem ss_asg {al : Bool} {i : Nat} {x : MP.Ex} {e : Expr} {y : Str} {pos' : Pos} (hx : SE c x e) (hN : c.X.N.Nodup) (hi : c.X.N[i]? = some y) (hy : Loc c.X.env.scope y) (hs : swapsWith e (some (.Name y pos')) pos.line c.X.env = pure false) (hf : c.X.fn y = true ∨ c.X.env.scope.names.lookup y = some .local) :
    SS c (.asg al (.v i) x) (.Assign [.Name y pos'] e pos) := by
  intro fl ρ h σ m H F D er S p
  refine psSem (ps_set hN hi hy pe_sem hs hf) ?_
  unfold MP.ex at p
  refine hx fl ρ h σ m H F _ er S (p.st er S fun v h1 m1 H1 F1 u _ e1 S1 r1 p1 => ?_)
  exact store_fin er S e1 S1 r1 p1
/-- y = [..] on one line -/
theorem ss_asgLc {al : Bool} {i : Nat} {y : Str} {py spos : Pos} {scope : Scope} {own : List (Str × Nat)} {ow : List Nat} (how : own.map (·.2) = ow) {t : MP.Tg} {tg iter : Expr} {it : MP.It} {cond : Option MP.Ex} {ifs : List Expr} {elt : MP.Ex} {e : Expr} (hc : c.X.calm = true) (hNd : c.X.N.Nodup) (hi : SI c it tg iter) (ok : BlkOk c.X.N c.X.env.scope scope own)
    (hG : ∀ s H C cl fp, SG (c.blk s H scope cl C fp) t tg) (hT : SC c scope cond ifs) (hE : ∀ s H C cl fp, SE (c.blk s H scope cl C fp) elt e) (hsub : ∀ i ∈ slotsT t, i ∈ ow) (hs : ∀ x, foldedSetIterable iter c.X.env x = pure x)
    (hy : c.X.N[i]? = some y) (hyl : c.X.env.scope.names.lookup y = some .local) (hsw : swapsWith (.ListComp e [⟨tg, iter, ifs, 0⟩] scope pos) (some (.Name y py)) spos.line c.X.env = pure true) :
    SS c (.asg al (.v i) (.comp ow t it cond elt)) (.Assign [.Name y py] (.ListComp e [⟨tg, iter, ifs, 0⟩] scope pos) spos) := by
  intro fl ρ h σ m H F D er S p
  obtain ⟨_, main⟩ := s_comp (pos := pos) how hc hNd hi ok hG hT hE hsub hs
  unfold MP.ex at p
  have q := main fl ρ h σ m H F (fun x H1 => gName i x σ H1 D.nx) er S (p.st er S fun v h1 m1 H1 F1 u _ e1 S1 r1 p1 => store_fin er S e1 S1 r1 p1)
  subst how
  refine psSem (ps_setLc hc hNd hy hyl hsw pi_sem ok (g := gC c scope tg) (tt := tC2 c scope ifs) (te := eC c scope e) (fun s H C cl fp => ⟨fun pins s' σ' H' v u Q' I r hq => hq s H C cl fp pins s' u I r⟩) (fun s H C cl fp => ?_) (fun s H C cl fp => ⟨fun pins s' σ' H' Q' I hq => hq s H C cl fp pins s' I⟩) hs) q
  cases cond with
  | none =>
    cases ifs with
    | nil => exact pts_nil
    | cons a r => exact hT.elim
  | some x' =>
    cases ifs with
    | nil => exact hT.elim
    | cons a r =>
      cases r with
      | cons b r' => exact hT.elim
      | nil => exact pts_one ⟨fun pins s' σ' H' Q' I hq => hq s H C cl fp pins s' I⟩
/-- a, b = e -/
theorem ss_asgT {al : Bool} {ts : List MP.Tg} {as : List Expr} {k : Nat} {x : MP.Ex} {e : Expr} {pos' : Pos} (hc : c.X.calm = true) (hx : SE c x e) (hg : SGs c ts as) (hn : (assignEach as c.X.env).length = ts.length) (hst : (assignEach as c.X.env).findIdx? (·.1) = none)
    (hs : swapsWithSole [.Tuple as k pos'] e pos.line c.X.env = pure false) (hw : swappedStores [.Tuple as k pos'] e c.X.env = pure none) (h1 : (assignEach [.Tuple as k pos'] c.X.env).map (·.2) = [assign (.Tuple as k pos') c.X.env]) : SS c (.asg al (.t ts) x) (.Assign [.Tuple as k pos'] e pos) := by
  obtain ⟨u, hu, kk⟩ := hg
  intro fl ρ h σ m H F D er S p
  refine psSem (ps_asg pe_sem (pg_sem (tg := .Tuple as k pos')) hs hw h1) ?_
  unfold MP.ex at p
  refine hx fl ρ h σ m H F _ er S (p.st er S fun v h1 m1 H1 F1 w _ e1 S1 r1 p1 => ?_)
  have p1 : PostS c m H F D (match MP.seqOf h1 v with
    | some l => (match MP.bindTs h1 ts l ρ with
      | some ρ' => .nx ρ' h1
      | none => .err)
    | none => .err) := p1
  split at p1
  · rename_i l hl
    split at p1
    · rename_i ρ' hb
      obtain ⟨a, vs, rfl, hsq, ra⟩ := seq_at S1 r1 hl
      have hlen : vs.length = ts.length := by
        rw [← ra.length]
        have : ∀ {ts : List MP.Tg} {l : List MP.D} {ρ ρ' : MP.Env}, MP.bindTs h1 ts l ρ = some ρ' → l.length = ts.length := by
          intro ts
          induction ts with
          | nil => intro l ρ ρ' e; cases l with
            | nil => rfl
            | cons _ _ => cases e
          | cons t ts ih =>
            intro l ρ ρ' e
            cases l with
            | nil => cases e
            | cons d l =>
              unfold MP.bindTs at e
              split at e
              · simp [ih e]
              · cases e
        exact this hb
      have go : u vs σ H1 D.nx := kk h1 l ρ ρ' vs σ m1 H1 F1 _ (er.ext e1 S.le) S1 ra hb fun σ' er' b' => p1 σ' m1 H1 F1 e1 S1 er'
      rcases hsq with hsq | hsq
      · exact pgSem (pg_lst hc hu hn hst) ⟨a, vs, rfl, hsq, hlen, go⟩
      · exact pgSem (pg_tup hc hu hn hst) ⟨a, vs, rfl, hsq, hlen, go⟩
    · exact p1.elim
  · exact p1.elim

/-- a, b = x, y -/
theorem ss_par {al : Bool} {i j : Nat} {x y : Str} {xa xb : MP.Ex} {a b : Expr} {px py pt pt2 : Pos} {kt k2 : Nat} (hc : c.X.calm = true) (ha : SE c xa a) (hb : SE c xb b) (hN : c.X.N.Nodup) (hi : c.X.N[i]? = some x) (hj : c.X.N[j]? = some y) (hx : c.X.env.scope.names.lookup x = some .local) (hy : c.X.env.scope.names.lookup y = some .local)
    (hs1 : starEach [a, b] c.X.env = (false, eval a c.X.env) :: starEach [b] c.X.env) (hs2 : starEach [b] c.X.env = [(false, eval b c.X.env)])
    (hw : swappedStores [.Tuple [.Name x px, .Name y py] kt pt] (.Tuple [a, b] k2 pt2) c.X.env = pure (some [x, y])) (hs : swapsWithSole [.Tuple [.Name x px, .Name y py] kt pt] (.Tuple [a, b] k2 pt2) pos.line c.X.env = pure false) (hij : i ≠ j) :
    SS c (.par al [i, j] [xa, xb]) (.Assign [.Tuple [.Name x px, .Name y py] kt pt] (.Tuple [a, b] k2 pt2) pos) := by
  intro fl ρ h σ m H F D er S p
  have hpa : PA c.X [a, b] (tCons (WE c.X a) (tCons (WE c.X b) tNil)) := pa_cons pe_sem (pa_one hs2) hs1
  refine psSem (ps_par hc hN hi hj hij hx hy hpa hw hs) ?_
  unfold MP.ex at p
  have p : PostS c m H F D ((MP.ev c.G fl xa ρ h).st ρ fun v h1 => (MP.ev c.G fl xb ρ (MP.keepA al h1 v).2).st ρ fun w h2 => if i ≠ j ∧ i < ρ.length ∧ j < ρ.length then .nx ((ρ.set i (some (MP.keepA al h1 v).1)).set j (some (MP.keepA al h2 w).1)) (MP.keepA al h2 w).2 else .err) := p
  refine ha fl ρ h σ m H F _ er S (p.st er S fun v h1 m1 H1 F1 u _ e1 S1 r1 p1 => ?_)
  obtain ⟨m2, F2, e2, S2, r2, _, _⟩ := alloc_ok (al := al) e1 S1 r1
  have er2 := er.ext e2 S.le
  refine hb fl ρ _ σ m2 H1 F2 _ er2 S2 ((PostS.shift e2 p1).st er2 S2 fun w h3 m3 H3 F3 u3 _ e3 S3 r3 p3 => ?_)
  obtain ⟨m4, F4, e4, S4, r4, _, _⟩ := alloc_ok (al := al) e3 S3 r3
  refine ⟨u, u3, rfl, ?_⟩
  split at p3
  · exact p3 _ m4 H3 F4 e4 S4 (((er2.ext e4 S2.le).set (r2.ext e4 S2.le)).set r4)
  · exact p3.elim
/-- x += e -/
theorem ss_augA {i : Nat} {y : Str} {x : MP.Ex} {e : Expr} {pos' : Pos} (hx : SE c x e) (hN : c.X.N.Nodup) (hi : c.X.N[i]? = some y) (hy : Loc c.X.env.scope y) (hf : c.X.fn y = true ∨ c.X.env.scope.names.lookup y = some .local) : SS c (.aug i .add x) (.AugAssign (.Name y pos') .Add e pos) := by
  intro fl ρ h σ m H F D er S p
  refine psSem (ps_aug hN hi hy pe_sem ip_add hf) ?_
  unfold MP.ex at p
  split at p
  · rename_i d hd
    obtain ⟨v0, hv0, r0⟩ := er.2 i d hd
    refine ⟨v0, hv0, ?_⟩
    refine hx fl ρ h σ m H F _ er S (p.st er S fun v h1 m1 H1 F1 u _ e1 S1 r1 p1 => ?_)
    split at p1
    · cases r0
      cases r1
      exact ⟨_, _, rfl, rfl, p1 _ m1 H1 F1 e1 S1 ((er.ext e1 S.le).set rfl)⟩
    · cases (show MP.Bop.add = MP.Bop.sub by assumption)
    · exact p1.elim
  · exact p.elim
theorem ss_augS {i : Nat} {y : Str} {x : MP.Ex} {e : Expr} {pos' : Pos} (hx : SE c x e) (hN : c.X.N.Nodup) (hi : c.X.N[i]? = some y) (hy : Loc c.X.env.scope y) (hf : c.X.fn y = true ∨ c.X.env.scope.names.lookup y = some .local) : SS c (.aug i .sub x) (.AugAssign (.Name y pos') .Sub e pos) := by
  intro fl ρ h σ m H F D er S p
  refine psSem (ps_aug hN hi hy pe_sem ip_sub hf) ?_
  unfold MP.ex at p
  split at p
  · rename_i d hd
    obtain ⟨v0, hv0, r0⟩ := er.2 i d hd
    refine ⟨v0, hv0, ?_⟩
    refine hx fl ρ h σ m H F _ er S (p.st er S fun v h1 m1 H1 F1 u _ e1 S1 r1 p1 => ?_)
    split at p1
    · cases (show MP.Bop.sub = MP.Bop.add by assumption)
    · cases r0
      cases r1
      exact ⟨_, _, rfl, rfl, p1 _ m1 H1 F1 e1 S1 ((er.ext e1 S.le).set rfl)⟩
    · exact p1.elim
  · exact p.elim
end
end MPS
end
section
set_option Elab.async false
set_option linter.all false
set_option maxRecDepth 100000
set_option maxHeartbeats 4000000
namespace MPS
open PySem PySem.Spec PyProof.Rows L2
section
variable {c : Ct} {pos : Pos}
/-! ### o[i] = e -/
theorem RepK.any {K : PySem.W.Frag} {F : L2.Hp} {m : List Addr} {κ κ' : Type} [DecidableEq κ] [DecidableEq κ'] {f : κ → κ'} {ok : κ → Prop} (fi : ∀ {a b}, f a = f b → a = b) (k : κ) : ∀ {l : List (κ × MP.D)} {vs : List (κ' × V)}, RepK K F m f ok l vs → (vs.any fun p => decide (p.1 = f k)) = l.any fun p => decide (p.1 = k)
  | [], _, h => by cases h; rfl
  | p :: l, _, ⟨v0, r, e, h1, h2⟩ => by
    subst e
    rw [List.any_cons, List.any_cons, RepK.any fi k h2]
    have : decide (f p.1 = f k) = decide (p.1 = k) := by
      by_cases q : p.1 = k
      · simp [q]
      · have q' : ¬ f p.1 = f k := fun z => q (fi z)
        simp [q, q']
    rw [this]
theorem RepK.mapPut {K : PySem.W.Frag} {F : L2.Hp} {m : List Addr} {κ κ' : Type} [DecidableEq κ] [DecidableEq κ'] {f : κ → κ'} {ok : κ → Prop} (fi : ∀ {a b}, f a = f b → a = b) {k : κ} {d : MP.D} {v : V} (rd : Rep K F m d v) : ∀ {l : List (κ × MP.D)} {vs : List (κ' × V)}, RepK K F m f ok l vs →
    RepK K F m f ok (l.map fun p => if p.1 = k then (p.1, d) else p) (vs.map fun kv => if kv.1 = f k then (kv.1, v) else kv)
  | [], _, h => by cases h; exact rfl
  | p :: l, _, ⟨v0, r, e, h1, h2⟩ => by
    subst e
    rw [List.map_cons, List.map_cons]
    by_cases q : p.1 = k
    · have q' : f p.1 = f k := by rw [q]
      rw [if_pos q, if_pos q']
      exact ⟨v, _, rfl, ⟨h1.1, rd⟩, RepK.mapPut fi rd h2⟩
    · have q' : ¬ f p.1 = f k := fun z => q (fi z)
      rw [if_neg q, if_neg q']
      exact ⟨v0, _, rfl, h1, RepK.mapPut fi rd h2⟩
theorem RepK.snoc {K : PySem.W.Frag} {F : L2.Hp} {m : List Addr} {κ κ' : Type} {f : κ → κ'} {ok : κ → Prop} {k : κ} {d : MP.D} {v : V} (hk : ok k) (rd : Rep K F m d v) : ∀ {l : List (κ × MP.D)} {vs : List (κ' × V)}, RepK K F m f ok l vs → RepK K F m f ok (l ++ [(k, d)]) (vs ++ [(f k, v)])
  | [], _, h => by cases h; exact ⟨v, [], rfl, ⟨hk, rd⟩, rfl⟩
  | p :: l, _, ⟨v0, r, e, h1, h2⟩ => by subst e; exact ⟨v0, _, rfl, h1, RepK.snoc hk rd h2⟩
theorem RepK.put {K : PySem.W.Frag} {F : L2.Hp} {m : List Addr} {κ κ' : Type} [DecidableEq κ] [DecidableEq κ'] {f : κ → κ'} {ok : κ → Prop} (fi : ∀ {a b}, f a = f b → a = b) {k : κ} {d : MP.D} {v : V} (hk : ok k) (rd : Rep K F m d v) {l : List (κ × MP.D)} {vs : List (κ' × V)} (h : RepK K F m f ok l vs) : RepK K F m f ok (MP.putK k d l) (L2.putK vs (f k) v) := by
  unfold MP.putK L2.putK
  rw [RepK.any fi k h]
  split
  · exact RepK.mapPut fi rd h
  · exact RepK.snoc hk rd h
theorem ref_dic {m : List Addr} {h : MP.Hp} {H F : L2.Hp} {n : Nat} {v : V} {l : List (MP.Ky × MP.D)} (S : c.Sm m h H F) (r : Rep c.X.K F m (.ref n) v) (e : h[n]? = some (.dic l)) : ∃ a vs, v = .ref a ∧ m[n]? = some a ∧ H a = some (.dK vs) ∧ RepK c.X.K F m kyV kyOk l vs := by
  obtain ⟨a, q, q2⟩ := r
  obtain ⟨a', q4, vs, q5, q6⟩ := S.at e
  rw [q] at q4; cases q4
  exact ⟨a, vs, q2, q, q5, q6⟩
/-- by values: xs[i] = v, d[k] = v -/
theorem set_any {X : Cx} (hu : X.A.units + 1 < cLine) : PSet X (fun o i v H Q => rSetL o i v H Q ∨ ∃ a H', o = .ref a ∧ DPut H a i v H' ∧ Q H') := by
  intro pins s σ H o i v ov iv u Q I ro ri rv h
  rcases h with h | ⟨a, H', rfl, g, q⟩
  · exact set_list pins s σ H o i v ov iv u Q I ro ri rv h
  · cases ro
    exact d_setItem hu I g ri rv fun s4 I4 => ⟨H', I4, q⟩
theorem ss_setI (hu : c.X.A.units + 1 < cLine) {xo xi x : MP.Ex} {o i e : Expr} {pos' : Pos} (ho : SE c xo o) (hi : SE c xi i) (hx : SE c x e) (hs : swapsWithSole [.Subscript o i pos'] e pos.line c.X.env = pure false) (hw : swappedStores [.Subscript o i pos'] e c.X.env = pure none)
    (h1 : (assignEach [.Subscript o i pos'] c.X.env).map (·.2) = [assign (.Subscript o i pos') c.X.env])
    (ha : ∀ v, assign (.Subscript o i pos') c.X.env v = (do
      let ov ← holding [v] (eval o c.X.env)
      let iv ← holding [v, ov] (eval i c.X.env)
      standAt pos'
      holding [v, ov, iv] (setItem ov iv v)
      release [v, ov, iv] [])) : SS c (.setI xo xi x) (.Assign [.Subscript o i pos'] e pos) := by
  intro fl ρ h σ m H F D er S p
  refine psSem (ps_asg pe_sem (pg_sub pe_sem pe_sem (set_any hu) ha) hs hw h1) ?_
  unfold MP.ex at p
  refine hx fl ρ h σ m H F _ er S (p.st er S fun v h1 m1 H1 F1 u hv e1 S1 r1 p1 => ?_)
  have er1 := er.ext e1 S.le
  refine ho fl ρ h1 σ m1 H1 F1 _ er1 S1 ((PostS.shift e1 p1).st er1 S1 fun w h2 m2 H2 F2 u2 hw2 e2 S2 r2 p2 => ?_)
  have er2 := er1.ext e2 S1.le
  refine hi fl ρ h2 σ m2 H2 F2 _ er2 S2 ((PostS.shift e2 p2).st er2 S2 fun j h3 m3 H3 F3 u3 hj e3 S3 r3 _ => ?_)
  -- the promise from the start
  rw [hw2] at p1
  simp only [MP.R.st_ok] at p1
  rw [hj] at p1
  simp only [MP.R.st_ok] at p1
  have e13 := (e1.trans e2).trans e3
  have r1' := (r1.ext e2 S1.le).ext e3 S2.le
  have r2' := r2.ext e3 S2.le
  have er3 := er2.ext e3 S2.le
  split at p1
  · rename_i n
    split at p1
    · exact p1.elim
    · split at p1
      · rename_i l hl
        split at p1
        · rename_i k
          split at p1
          · rename_i q hq
            obtain ⟨a, vs, rfl, em, ea, ra⟩ := ref_lst S3 r2' hl
            cases r3
            obtain ⟨m4, F4, e4, S4, r4, pm4, l4⟩ := keep_ok e13 S3 r1'
            have em4 := get_pre pm4 em
            refine .inl ⟨a, vs, k, q, rfl, rfl, ea, by rw [← ra.length]; exact atIx_ixN hq, ?_⟩
            have z : SzO (.lst (vs.set q u)) := by
              show (vs.set q u).length ≤ sizeLine
              rw [List.length_set]; exact S3.sz a _ ea
            refine p1 σ m4 _ F4 (e4.trans (Ext.put (List.mem_of_getElem? em4))) (S4.put z em4 ⟨_, upd_same, (ra.mono l4 pm4).set r4⟩) (er.ext (e4.trans (Ext.put (u := .lst (vs.set q u)) (List.mem_of_getElem? em4))) S.le)
          · exact p1.elim
        · exact p1.elim
      · rename_i l hl
        split at p1
        · rename_i k
          split at p1
          · rename_i ky hky
            split at p1
            · rename_i hlen
              obtain ⟨a, vs, rfl, em, ea, ra⟩ := ref_dic S3 r2' hl
              obtain ⟨ey, oky⟩ := ky_at r3 hky
              obtain ⟨m4, F4, e4, S4, r4, pm4, l4⟩ := keep_ok e13 S3 r1'
              have em4 := get_pre pm4 em
              refine .inr ⟨a, _, rfl, by rw [ey]; exact DPut.k ea (by rw [← RepK.length ra, sizeLine_eq]; exact hlen), ?_⟩
              refine p1 σ m4 _ F4 (e4.trans (Ext.put (List.mem_of_getElem? em4))) (S4.put trivial em4 ⟨_, upd_same, RepK.put kyV_inj oky r4 (ra.mono l4 pm4)⟩) (er.ext (e4.trans (Ext.put (u := .dK (L2.putK vs (kyV ky) u)) (List.mem_of_getElem? em4))) S.le)
            · exact p1.elim
          · exact p1.elim
        · exact p1.elim
      · exact p1.elim
  · exact p1.elim
/-! ### loops -/
theorem for_turn {t : MP.Tg} {tg : Expr} {bs : List MP.Stm} {body : List Stmt} {fl : Nat} (hG : SG c t tg) (hB : SSs c bs body) {h : MP.Hp} {ρ ρ' : MP.Env} {σ : L2.St} {m0 : List Addr} {H0 F0 : L2.Hp} {m : List Addr} {H F : L2.Hp} {D : Ends} (e0 : Ext m0 H0 F0 m H F) (er : EnvR c.X.K F m ρ σ) (S : c.Sm m h H F) {d : MP.D} {x : V} (rd : Rep c.X.K F m d x)
    (hb : MP.bindT h t d ρ = some ρ') {f : MP.Env → MP.Hp → MP.RS} (p : PostS c m0 H0 F0 D ((MP.exs c.G fl bs ρ' h).turn f)) {N : L2.St → L2.Hp → Prop}
    (hN : ∀ ρ2 h2 σ2 m2 H2 F2, Ext m0 H0 F0 m2 H2 F2 → c.Sm m2 h2 H2 F2 → EnvR c.X.K F2 m2 ρ2 σ2 → PostS c m0 H0 F0 D (f ρ2 h2) → N σ2 H2) :
    WG c.X tg x σ H fun σ2 H2 => WSs c.X body { D with nx := N, ct := N, bk := D.nx } σ2 H2 := by
  refine hG h d ρ ρ' x σ m H F _ er S rd hb fun σ2 er2 _ => ?_
  refine hB fl ρ' h σ2 m H F _ er2 S ?_
  revert p
  cases MP.exs c.G fl bs ρ' h with
  | nx ρ3 h3 => exact fun p σ3 m3 H3 F3 e3 S3 er3 => hN ρ3 h3 σ3 m3 H3 F3 (e0.trans e3) S3 er3 p
  | ct ρ3 h3 => exact fun p σ3 m3 H3 F3 e3 S3 er3 => hN ρ3 h3 σ3 m3 H3 F3 (e0.trans e3) S3 er3 p
  | bk ρ3 h3 => exact fun p σ3 m3 H3 F3 e3 S3 er3 => p σ3 m3 H3 F3 (e0.trans e3) S3 er3
  | rt v h3 => exact fun p m3 H3 F3 u e3 S3 r3 => p m3 H3 F3 u (e0.trans e3) S3 (RepV.start e0.th r3)
  | exc k ρ3 h3 => exact fun p σ3 m3 H3 F3 e3 S3 er3 => p σ3 m3 H3 F3 (e0.trans e3) S3 er3
  | err => exact fun p => p
theorem ss_for {t : MP.Tg} {tg iter : Expr} {it : MP.It} {bs : List MP.Stm} {body : List Stmt} (hp : PassesOwn (model c.X.prog c.X.w) c.X.A c.X.env c.X.xe) (hc : c.X.calm = true) (hi : SI c it tg iter) (hG : SG c t tg) (hB : SSs c bs body) (hs : ∀ x, foldedSetIterable iter c.X.env x = pure x) :
    SS c (.fors t it bs) (.For tg iter body [] pos) := by
  intro fl ρ h σ m H F D er S p
  refine psSem (ps_for hp hc pi_sem pg_sem pss_sem hs) ?_
  unfold MP.ex at p
  refine hi fl ρ h σ m H F _ er S (p.st er S fun s h1 m1 H1 F1 J _ e1 S1 wk p1 => ?_)
  have er1 := er.ext e1 S.le
  have p1 := PostS.shift e1 p1
  cases s with
  | fix l =>
    obtain ⟨_, wk⟩ := wk.fixed l rfl
    refine ⟨fun i k σ' H' => k = l.length - i ∧ i ≤ l.length ∧ ∃ ρ2 h2 m2 F2, Ext m1 H1 F1 m2 H' F2 ∧ c.Sm m2 h2 H' F2 ∧ EnvR c.X.K F2 m2 ρ2 σ' ∧
      PostS c m1 H1 F1 D (MP.forFix t (fun ρ h => MP.exs c.G fl bs ρ h) (l.drop i) ρ2 h2), ⟨l.length, by simp, Nat.zero_le _, ρ, h1, m1, F1, Ext.refl _ _ _, S1, er1, p1⟩, ?_⟩
    rintro i k σ' H' ⟨rfl, hi', ρ2, h2, m2, F2, e2, S2, er2, q⟩
    obtain ⟨w1, w2⟩ := wk m2 h2 H' F2 i S2 (e2.le S1.le) e2.mm
    by_cases lt : i < l.length
    · right
      have hd : l[i]? = some l[i] := List.getElem?_eq_getElem lt
      obtain ⟨go, yl⟩ := w1 _ hd
      rw [List.drop_eq_getElem_cons lt] at q
      unfold MP.forFix at q
      split at q
      · rename_i ρ' hb
        refine ⟨go, fun σ2 H2 => l.length - (i + 1) < l.length - i ∧ ∃ ρ2 h2 m2 F2, Ext m1 H1 F1 m2 H2 F2 ∧ c.Sm m2 h2 H2 F2 ∧ EnvR c.X.K F2 m2 ρ2 σ2 ∧ PostS c m1 H1 F1 D (MP.forFix t (fun ρ h => MP.exs c.G fl bs ρ h) (l.drop (i + 1)) ρ2 h2), fun σ2 H2 hx => ⟨_, hx.1, rfl, lt, hx.2⟩, fun x H'' hy => ?_⟩
        obtain ⟨F3, e3, S3, rd⟩ := yl x H'' hy
        exact for_turn hG hB (e2.trans e3) (er2.ext e3 S2.le) S3 rd hb q fun ρ4 h4 σ4 m4 H4 F4 e4 S4 er4 q4 => ⟨by omega, ρ4, h4, m4, F4, e4, S4, er4, q4⟩
      · exact q.elim
    · left
      have : i = l.length := by omega
      subst this
      rw [List.drop_length] at q
      exact ⟨w2 (Nat.le_refl _), q σ' m2 H' F2 e2 S2 er2⟩
  | live n k0 =>
    obtain ⟨_, wk⟩ := wk.live n k0 rfl
    refine ⟨fun i k σ' H' => k = k0 - i ∧ i ≤ k0 ∧ ∃ ρ2 h2 m2 F2, Ext m1 H1 F1 m2 H' F2 ∧ c.Sm m2 h2 H' F2 ∧ EnvR c.X.K F2 m2 ρ2 σ' ∧
      PostS c m1 H1 F1 D (MP.forLive t (fun ρ h => MP.exs c.G fl bs ρ h) n k0 (k0 - i) i ρ2 h2), ⟨k0, by simp, Nat.zero_le _, ρ, h1, m1, F1, Ext.refl _ _ _, S1, er1, p1⟩, ?_⟩
    rintro i k σ' H' ⟨rfl, hi', ρ2, h2, m2, F2, e2, S2, er2, q⟩
    obtain ⟨w1, w2⟩ := wk m2 h2 H' F2 i S2 (e2.le S1.le) e2.mm
    by_cases lt : i < k0
    · right
      obtain ⟨j, hj⟩ : ∃ j, k0 - i = j + 1 := ⟨k0 - i - 1, by omega⟩
      rw [hj] at q
      unfold MP.forLive at q
      split at q
      · rename_i d hd
        obtain ⟨go, yl⟩ := w1 _ hd
        split at q
        · rename_i ρ' hb
          refine ⟨go, fun σ2 H2 => k0 - (i + 1) < k0 - i ∧ ∃ ρ2 h2 m2 F2, Ext m1 H1 F1 m2 H2 F2 ∧ c.Sm m2 h2 H2 F2 ∧ EnvR c.X.K F2 m2 ρ2 σ2 ∧ PostS c m1 H1 F1 D (MP.forLive t (fun ρ h => MP.exs c.G fl bs ρ h) n k0 (k0 - (i + 1)) (i + 1) ρ2 h2), fun σ2 H2 hx => ⟨_, hx.1, rfl, lt, hx.2⟩, fun x H'' hy => ?_⟩
          obtain ⟨F3, e3, S3, rd⟩ := yl x H'' hy
          refine for_turn hG hB (e2.trans e3) (er2.ext e3 S2.le) S3 rd hb q fun ρ4 h4 σ4 m4 H4 F4 e4 S4 er4 q4 => ⟨by omega, ρ4, h4, m4, F4, e4, S4, er4, ?_⟩
          have : k0 - (i + 1) = j := by omega
          rw [this]; exact q4
        · exact q.elim
      · exact q.elim
    · left
      have : k0 - i = 0 := by omega
      rw [this] at q
      unfold MP.forLive at q
      split at q
      · rename_i hst
        exact ⟨w2 hst (by omega), q σ' m2 H' F2 e2 S2 er2⟩
      · exact q.elim
theorem ss_whl {x : MP.Ex} {e : Expr} {bs : List MP.Stm} {body : List Stmt} (hp : PassesOwn (model c.X.prog c.X.w) c.X.A c.X.env c.X.xe) (hx : ST c x e) (hB : SSs c bs body) : SS c (.whl x bs) (.While e body [] pos) := by
  intro fl ρ h σ m H F D er S p
  refine psSem (ps_while hp pt_sem pss_sem) ?_
  unfold MP.ex at p
  generalize (100000 : Nat) = n0 at p
  refine ⟨fun k σ' H' => ∃ ρ2 h2 m2 F2, Ext m H F m2 H' F2 ∧ c.Sm m2 h2 H' F2 ∧ EnvR c.X.K F2 m2 ρ2 σ' ∧ PostS c m H F D (MP.whlGo (fun ρ h => MP.evT c.G fl x ρ h) (fun ρ h => MP.exs c.G fl bs ρ h) k ρ2 h2), ⟨n0, ρ, h, m, F, Ext.refl _ _ _, S, er, p⟩, ?_⟩
  rintro k σ' H' ⟨ρ2, h2, m2, F2, e2, S2, er2, q⟩
  cases k with
  | zero => exact q.elim
  | succ k =>
    unfold MP.whlGo at q
    have q2 := PostS.shift e2 q
    refine hx fl ρ2 h2 σ' m2 H' F2 _ er2 S2 (q2.st er2 S2 fun b h3 m3 H3 F3 u hb e3 S3 r3 q3 => ?_)
    cases r3
    rw [hb] at q
    simp only [MP.R.st_ok] at q
    cases b with
    | false =>
      rw [if_neg Bool.false_ne_true] at q ⊢
      exact q σ' m3 H3 F3 (e2.trans e3) S3 (er2.ext e3 S2.le)
    | true =>
      rw [if_pos rfl] at q ⊢
      refine ⟨fun σ4 H4 => ∃ ρ2 h2 m2 F2, Ext m H F m2 H4 F2 ∧ c.Sm m2 h2 H4 F2 ∧ EnvR c.X.K F2 m2 ρ2 σ4 ∧ PostS c m H F D (MP.whlGo (fun ρ h => MP.evT c.G fl x ρ h) (fun ρ h => MP.exs c.G fl bs ρ h) k ρ2 h2), fun σ4 H4 hz => ⟨k, Nat.lt_succ_self _, hz⟩, ?_⟩
      have e23 := e2.trans e3
      refine hB fl ρ2 h3 σ' m3 H3 F3 _ (er2.ext e3 S2.le) S3 ?_
      revert q
      show PostS c m H F D ((MP.exs c.G fl bs ρ2 h3).turn fun ρ h => MP.whlGo (fun ρ h => MP.evT c.G fl x ρ h) (fun ρ h => MP.exs c.G fl bs ρ h) k ρ h) → _
      cases MP.exs c.G fl bs ρ2 h3 with
      | nx ρ5 h5 => exact fun q σ5 m5 H5 F5 e5 S5 er5 => ⟨ρ5, h5, m5, F5, e23.trans e5, S5, er5, q⟩
      | ct ρ5 h5 => exact fun q σ5 m5 H5 F5 e5 S5 er5 => ⟨ρ5, h5, m5, F5, e23.trans e5, S5, er5, q⟩
      | bk ρ5 h5 => exact fun q σ5 m5 H5 F5 e5 S5 er5 => q σ5 m5 H5 F5 (e23.trans e5) S5 er5
      | rt v h5 => exact fun q m5 H5 F5 u e5 S5 r5 => q m5 H5 F5 u (e23.trans e5) S5 (RepV.start e23.th r5)
      | exc k5 ρ5 h5 => exact fun q σ5 m5 H5 F5 e5 S5 er5 => q σ5 m5 H5 F5 (e23.trans e5) S5 er5
      | err => exact fun q => q
/-- raise X('..') -/
theorem ss_rai {k : Nat} {e : Expr} (hc : c.X.calm = true) (tk : Takes c.X c.W) (he : PMk c.X e (fun _ H Q => Q (.ref (c.eA k)) none H)) : SS c (.rai k) (.Raise (some e) none pos) := by
  intro fl ρ h σ m H F D er S p
  exact psSem (ps_raise hc tk he) (p σ m H F (Ext.refl _ _ _) S er)
end
end MPS
end
section
set_option Elab.async false
set_option linter.all false
set_option maxRecDepth 100000
set_option maxHeartbeats 4000000
namespace MPS
/-! ### objects below the floor stay -/
theorem Stay.refl (fl : Nat) (h : MP.Hp) : Stay fl h h := ⟨fun _ _ => rfl, Nat.le_refl _⟩
theorem Stay.trans {fl : Nat} {h h1 h2 : MP.Hp} (a : Stay fl h h1) (b : Stay fl h1 h2) : Stay fl h h2 := ⟨fun n hn => (b.1 n hn).trans (a.1 n hn), Nat.le_trans a.2 b.2⟩
theorem Stay.app {fl : Nat} {h : MP.Hp} (hl : fl ≤ h.length) (o : MP.O) : Stay fl h (h ++ [o]) := ⟨fun n hn => List.getElem?_append_left (by omega), by simp⟩
theorem Stay.set {fl : Nat} {h h1 : MP.Hp} (a : Stay fl h h1) {n : Nat} (hn : ¬ n < fl) (o : MP.O) : Stay fl h (h1.set n o) := ⟨fun k hk => by rw [List.getElem?_set_ne (by omega)]; exact a.1 k hk, by simp; exact a.2⟩
theorem Stay.keep {fl : Nat} {h h1 : MP.Hp} (hl : fl ≤ h.length) (a : Stay fl h h1) (v : MP.Vl) : Stay fl h (MP.keep h1 v).2 := by
  have hl1 : fl ≤ h1.length := Nat.le_trans hl a.2
  cases v with
  | d x => exact a
  | nls l => exact a
  | ndc l => exact a.trans (Stay.app hl1 _)
  | ndt l => exact a.trans (Stay.app hl1 _)
theorem Stay.keepA {al : Bool} {fl : Nat} {h h1 : MP.Hp} (hl : fl ≤ h.length) (a : Stay fl h h1) (v : MP.Vl) : Stay fl h (MP.keepA al h1 v).2 := by
  have hl1 : fl ≤ h1.length := Nat.le_trans hl a.2
  cases al with
  | false => exact a.keep hl v
  | true =>
    cases v with
    | d x => exact a
    | nls l => exact a.trans (Stay.app hl1 _)
    | ndc l => exact a.trans (Stay.app hl1 _)
    | ndt l => exact a.trans (Stay.app hl1 _)
def RFl {α : Type} (fl : Nat) (h : MP.Hp) : MP.R α → Prop
  | .ok _ h' => Stay fl h h'
  | .exc _ h' => Stay fl h h'
  | .err => True
theorem RFl.bind {α β : Type} {fl : Nat} {h : MP.Hp} {r : MP.R α} {f : α → MP.Hp → MP.R β} (a : RFl fl h r) (k : ∀ x h', Stay fl h h' → RFl fl h (f x h')) : RFl fl h (r.bind f) := by
  cases r with
  | ok x h' => exact k x h' a
  | exc _ _ => exact a
  | err => trivial
theorem RFl.start {α : Type} {fl : Nat} {h h1 : MP.Hp} {r : MP.R α} (s : Stay fl h h1) (a : RFl fl h1 r) : RFl fl h r := by
  cases r with
  | ok x h' => exact s.trans a
  | exc _ _ => exact s.trans a
  | err => trivial
theorem RFl.of {α : Type} {fl : Nat} {h h1 : MP.Hp} (s : Stay fl h h1) (o : Option α) : RFl fl h (MP.R.of o h1) := by
  cases o with
  | none => trivial
  | some x => exact s
def SFl (fl : Nat) (h : MP.Hp) : MP.RS → Prop
  | .nx _ h' => Stay fl h h'
  | .rt _ h' => Stay fl h h'
  | .bk _ h' => Stay fl h h'
  | .ct _ h' => Stay fl h h'
  | .exc _ _ h' => Stay fl h h'
  | .err => True
theorem SFl.start {fl : Nat} {h h1 : MP.Hp} {r : MP.RS} (s : Stay fl h h1) (a : SFl fl h1 r) : SFl fl h r := by
  cases r <;> first | exact s.trans a | trivial
theorem RFl.st {α : Type} {fl : Nat} {h : MP.Hp} {ρ : MP.Env} {r : MP.R α} {f : α → MP.Hp → MP.RS} (a : RFl fl h r) (k : ∀ x h', Stay fl h h' → SFl fl h (f x h')) : SFl fl h (r.st ρ f) := by
  cases r with
  | ok x h' => exact k x h' a
  | exc _ _ => exact a
  | err => trivial
theorem blt_fl {fl : Nat} {h h1 : MP.Hp} (hl : fl ≤ h.length) (s : Stay fl h h1) (b : MP.Blt) (l : List MP.Vl) : RFl fl h (MP.R.ofP (MP.bltOp fl h1 b l)) := by
  have key : ∀ p, MP.bltOp fl h1 b l = some p → Stay fl h p.2 := by
    intro p e
    cases b <;> simp only [MP.bltOp] at e <;> try (first
      | (unfold MP.bLen at e; skip) | (unfold MP.bIsi at e; skip) | (unfold MP.bMax2 at e; skip) | (unfold MP.bMin2 at e; skip) | (unfold MP.bMaxD at e; skip) | (unfold MP.bMaxL at e; skip) | (unfold MP.bMinL at e; skip)
      | (unfold MP.bTuple at e; skip) | (unfold MP.bList at e; skip) | (unfold MP.bListRange at e; skip) | (unfold MP.bDict at e; skip) | (unfold MP.bSetLen at e; skip) | (unfold MP.bAppend at e; skip) | (unfold MP.bInsert at e; skip)
      | (unfold MP.bPopAt at e; skip) | (unfold MP.bExtend at e; skip) | (unfold MP.bIndex at e; skip) | (unfold MP.bGet at e; skip) | (unfold MP.bJoin at e; skip) | (unfold MP.bTab at e; skip) | (unfold MP.bInt at e; skip))
    all_goals (repeat' (first | (cases e; done) | (split at e)))
    all_goals try (cases e)
    all_goals try (exact s)
    all_goals try (exact Stay.set s (by assumption) _)
    all_goals try (exact Stay.set (s.keep hl _) (by assumption) _)
    all_goals try (exact s.keep hl _)
  cases e : MP.bltOp fl h1 b l with
  | none => trivial
  | some p => exact key p e
theorem callA_fl {G : MP.Fns} (hG : FlOk G) {pu : Bool} {f : Nat} {as : List MP.D} {fl : Nat} {h : MP.Hp} (hl : fl ≤ h.length) : RFl fl h (MP.callA G pu f as fl h) := by
  cases pu with
  | false =>
    have := hG false f as fl h hl
    show RFl fl h (G false f as fl h)
    revert this
    cases G false f as fl h <;> exact fun x => x
  | true =>
    simp only [MP.callA, MP.callP, if_true]
    cases G false f as h.length h with
    | ok v h' =>
      simp only []
      split
      · exact Stay.refl _ _
      · trivial
    | exc _ _ => exact Stay.refl _ _
    | err => trivial
theorem compFix_fl {fl : Nat} {step : MP.D → MP.Hp → MP.R (Option MP.D)} {h0 : MP.Hp} (k : ∀ x h, Stay fl h0 h → RFl fl h0 (step x h)) : ∀ (l acc : List MP.D) (h : MP.Hp), Stay fl h0 h → RFl fl h0 (MP.compFix step l acc h)
  | [], _, _, s => s
  | x :: r, acc, h, s => by
    unfold MP.compFix
    have q := k x h s
    revert q
    cases step x h with
    | ok y h' => exact fun q => compFix_fl k r _ h' q
    | exc _ _ => exact fun _ => trivial
    | err => exact fun _ => trivial
theorem compLive_fl {fl : Nat} {step : MP.D → MP.Hp → MP.R (Option MP.D)} {h0 : MP.Hp} (k : ∀ x h, Stay fl h0 h → RFl fl h0 (step x h)) {n k0 : Nat} : ∀ (m i : Nat) (acc : List MP.D) (h : MP.Hp), Stay fl h0 h → RFl fl h0 (MP.compLive step n k0 m i acc h)
  | 0, _, _, _, s => by
    unfold MP.compLive
    split
    · exact s
    · trivial
  | m + 1, i, acc, h, s => by
    unfold MP.compLive
    split
    · rename_i x _
      have q := k x h s
      revert q
      cases step x h with
      | ok y h' => exact fun q => compLive_fl k m _ _ h' q
      | exc _ _ => exact fun _ => trivial
      | err => exact fun _ => trivial
    · trivial
theorem compGo_fl {fl : Nat} {step : MP.D → MP.Hp → MP.R (Option MP.D)} {h0 : MP.Hp} (k : ∀ x h, Stay fl h0 h → RFl fl h0 (step x h)) (src : MP.Src) {h : MP.Hp} (s : Stay fl h0 h) : RFl fl h0 (MP.compGo step src h) := by
  cases src with
  | fix l => exact compFix_fl k l [] h s
  | live n m => exact compLive_fl k m 0 [] h s
section
variable {G : MP.Fns} (hG : FlOk G) {fl : Nat}
theorem step_fl {tg : MP.Tg} {ρ0 : MP.Env} {cond : Option MP.Ex} {elt : MP.Ex} (hC : ∀ ρ h, fl ≤ h.length → RFl fl h (MP.evC G fl cond ρ h)) (hE : ∀ ρ h, fl ≤ h.length → RFl fl h (MP.ev G fl elt ρ h)) {h0 : MP.Hp} (hl : fl ≤ h0.length) (x : MP.D) (h : MP.Hp) (s : Stay fl h0 h) :
    RFl fl h0 (match MP.bindT h tg x ρ0 with
      | some ρ' => (MP.evC G fl cond ρ' h).bind fun k h => if k then (MP.ev G fl elt ρ' h).bind fun y h => .ok (some (MP.keep h y).1) (MP.keep h y).2 else .ok none h
      | none => (.err : MP.R (Option MP.D))) := by
  have hl1 : fl ≤ h.length := Nat.le_trans hl s.2
  split
  · refine RFl.start s (RFl.bind (hC _ h hl1) fun k h1 s1 => ?_)
    have hl2 : fl ≤ h1.length := Nat.le_trans hl1 s1.2
    split
    · exact RFl.start s1 (RFl.bind (hE _ h1 hl2) fun y h2 s2 => s2.keep hl2 y)
    · exact s1
  · trivial
include hG
mutual
theorem ev_fl : ∀ (x : MP.Ex) (ρ : MP.Env) (h : MP.Hp), fl ≤ h.length → RFl fl h (MP.ev G fl x ρ h)
  | .var i, ρ, h, hl => by
    unfold MP.ev
    split
    · exact Stay.refl _ _
    · trivial
  | .cst d, ρ, h, hl => Stay.refl _ _
  | .glb _ d, ρ, h, hl => Stay.refl _ _
  | .tup es, ρ, h, hl => by
    unfold MP.ev
    exact (evL_fl es ρ h hl).bind fun l h1 s => s
  | .lst es, ρ, h, hl => by
    unfold MP.ev
    exact (evL_fl es ρ h hl).bind fun l h1 s => s
  | .dnew, ρ, h, hl => Stay.refl _ _
  | .dnewT, ρ, h, hl => Stay.refl _ _
  | .dsp ks es, ρ, h, hl => by
    unfold MP.ev
    exact (evL_fl es ρ h hl).bind fun l h1 s => s
  | .bin op a b, ρ, h, hl => by
    unfold MP.ev
    exact (ev_fl a ρ h hl).bind fun x h1 s1 => ((ev_fl b ρ h1 (Nat.le_trans hl s1.2)).bind fun y h2 s2 => RFl.of s2 _).start s1
  | .neg a, ρ, h, hl => by
    unfold MP.ev
    refine (ev_fl a ρ h hl).bind fun x h1 s1 => ?_
    split
    · exact s1
    · trivial
  | .not a, ρ, h, hl => by
    unfold MP.ev
    refine (ev_fl a ρ h hl).bind fun x h1 s1 => ?_
    split
    · exact s1
    · trivial
  | .and a b, ρ, h, hl => by
    unfold MP.ev
    refine (ev_fl a ρ h hl).bind fun x h1 s1 => ?_
    split
    · exact (ev_fl b ρ h1 (Nat.le_trans hl s1.2)).start s1
    · exact s1
    · trivial
  | .or a b, ρ, h, hl => by
    unfold MP.ev
    refine (ev_fl a ρ h hl).bind fun x h1 s1 => ?_
    split
    · exact s1
    · exact (ev_fl b ρ h1 (Nat.le_trans hl s1.2)).start s1
    · trivial
  | .cmp op a b, ρ, h, hl => by
    unfold MP.ev
    refine (ev_fl a ρ h hl).bind fun x h1 s1 => ((ev_fl b ρ h1 (Nat.le_trans hl s1.2)).bind fun y h2 s2 => ?_).start s1
    split
    · exact s2
    · trivial
  | .chn o1 o2 a b c, ρ, h, hl => by
    unfold MP.ev
    refine (ev_fl a ρ h hl).bind fun x h1 s1 => ((ev_fl b ρ h1 (Nat.le_trans hl s1.2)).bind fun y h2 s2 => ?_).start s1
    split
    · exact s2
    · refine RFl.start s2 ((ev_fl c ρ h2 (Nat.le_trans hl (s1.trans s2).2)).bind fun z h3 s3 => ?_)
      split
      · exact s3
      · trivial
    · trivial
  | .ife c a b, ρ, h, hl => by
    unfold MP.ev
    refine (evT_fl c ρ h hl).bind fun k h1 s1 => ?_
    split
    · exact (ev_fl a ρ h1 (Nat.le_trans hl s1.2)).start s1
    · exact (ev_fl b ρ h1 (Nat.le_trans hl s1.2)).start s1
  | .sub a i, ρ, h, hl => by
    unfold MP.ev
    exact (ev_fl a ρ h hl).bind fun x h1 s1 => ((ev_fl i ρ h1 (Nat.le_trans hl s1.2)).bind fun y h2 s2 => RFl.of s2 _).start s1
  | .slc a lo hi, ρ, h, hl => by
    unfold MP.ev
    exact (ev_fl a ρ h hl).bind fun x h1 s1 => ((evO_fl lo ρ h1 (Nat.le_trans hl s1.2)).bind fun y h2 s2 => ((evO_fl hi ρ h2 (Nat.le_trans hl (s1.trans s2).2)).bind fun z h3 s3 => RFl.of s3 _).start s2).start s1
  | .rev a, ρ, h, hl => by
    unfold MP.ev
    refine (ev_fl a ρ h hl).bind fun x h1 s1 => ?_
    split
    · exact s1
    · trivial
  | .call pu f es, ρ, h, hl => by
    unfold MP.ev
    exact (evL_fl es ρ h hl).bind fun l h1 s1 => (callA_fl hG (Nat.le_trans hl s1.2)).start s1
  | .meth pu c f o es, ρ, h, hl => by
    unfold MP.ev
    refine (ev_fl o ρ h hl).bind fun x h1 s1 => ?_
    split
    · split
      · split
        · exact ((evL_fl es ρ h1 (Nat.le_trans hl s1.2)).bind fun l h2 s2 => (callA_fl hG (Nat.le_trans hl (s1.trans s2).2)).start s2).start s1
        · trivial
      · trivial
    · trivial
  | .mk c f es, ρ, h, hl => by
    unfold MP.ev
    refine (evL_fl es ρ h hl).bind fun l h1 s1 => ?_
    have q := hG true f (.ref h1.length :: l) fl (h1 ++ [.ins c []]) (by simp; exact Nat.le_trans (Nat.le_trans hl s1.2) (Nat.le_succ _))
    revert q
    cases G true f (.ref h1.length :: l) fl (h1 ++ [.ins c []]) with
    | ok v h' =>
      intro q
      have q : Stay fl h h' := (s1.trans (Stay.app (Nat.le_trans hl s1.2) _)).trans q
      cases v with
      | d x => cases x <;> first | exact q | trivial
      | nls _ => trivial
      | ndc _ => trivial
      | ndt _ => trivial
    | exc _ _ => exact fun _ => trivial
    | err => exact fun _ => trivial
  | .blt b es, ρ, h, hl => by
    unfold MP.ev
    exact (evV_fl es ρ h hl).bind fun l h1 s1 => blt_fl hl s1 b l
  | .mth b o es, ρ, h, hl => by
    unfold MP.ev
    refine (ev_fl o ρ h hl).bind fun x h1 s1 => ?_
    split
    · exact ((evV_fl es ρ h1 (Nat.le_trans hl s1.2)).bind fun l h2 s2 => blt_fl (Nat.le_trans hl s1.2) s2 b _).start s1
    · trivial
  | .att o f, ρ, h, hl => by
    unfold MP.ev
    refine (ev_fl o ρ h hl).bind fun x h1 s1 => ?_
    split
    · split
      · split
        · exact s1
        · trivial
      · trivial
    · trivial
  | .comp own tg it cond elt, ρ, h, hl => by
    unfold MP.ev
    exact (evI_fl it ρ h hl).bind fun src h1 s1 => (compGo_fl (fun x h2 s2 => step_fl (fun ρ' h' hl' => evC_fl cond ρ' h' hl') (fun ρ' h' hl' => ev_fl elt ρ' h' hl') hl x h2 s2) src s1).bind fun l h2 s2 => s2
theorem evT_fl : ∀ (x : MP.Ex) (ρ : MP.Env) (h : MP.Hp), fl ≤ h.length → RFl fl h (MP.evT G fl x ρ h)
  | .var i, ρ, h, hl => by
    unfold MP.evT
    split
    · split
      · exact Stay.refl _ _
      · trivial
    · trivial
  | .not a, ρ, h, hl => by
    unfold MP.evT
    exact (evT_fl a ρ h hl).bind fun x h1 s1 => s1
  | .and a b, ρ, h, hl => by
    unfold MP.evT
    refine (evT_fl a ρ h hl).bind fun x h1 s1 => ?_
    split
    · exact (evT_fl b ρ h1 (Nat.le_trans hl s1.2)).start s1
    · exact s1
  | .or a b, ρ, h, hl => by
    unfold MP.evT
    refine (evT_fl a ρ h hl).bind fun x h1 s1 => ?_
    split
    · exact s1
    · exact (evT_fl b ρ h1 (Nat.le_trans hl s1.2)).start s1
  | .cmp op a b, ρ, h, hl => by
    unfold MP.evT
    refine (ev_fl a ρ h hl).bind fun x h1 s1 => ((ev_fl b ρ h1 (Nat.le_trans hl s1.2)).bind fun y h2 s2 => ?_).start s1
    split
    · exact s2
    · trivial
  | .chn o1 o2 a b c, ρ, h, hl => by
    unfold MP.evT
    refine (ev_fl a ρ h hl).bind fun x h1 s1 => ((ev_fl b ρ h1 (Nat.le_trans hl s1.2)).bind fun y h2 s2 => ?_).start s1
    split
    · exact s2
    · refine RFl.start s2 ((ev_fl c ρ h2 (Nat.le_trans hl (s1.trans s2).2)).bind fun z h3 s3 => ?_)
      split
      · exact s3
      · trivial
    · trivial
  | .call pu f es, ρ, h, hl => by
    unfold MP.evT
    refine (evL_fl es ρ h hl).bind fun l h1 s1 => RFl.start s1 ((callA_fl hG (Nat.le_trans hl s1.2)).bind fun x h2 s2 => ?_)
    split
    · exact s2
    · trivial
  | .meth pu c f o es, ρ, h, hl => by
    unfold MP.evT
    refine (ev_fl o ρ h hl).bind fun x h1 s1 => ?_
    split
    · split
      · split
        · refine ((evL_fl es ρ h1 (Nat.le_trans hl s1.2)).bind fun l h2 s2 => RFl.start s2 ((callA_fl hG (Nat.le_trans hl (s1.trans s2).2)).bind fun x h3 s3 => ?_)).start s1
          split
          · exact s3
          · trivial
        · trivial
      · trivial
    · trivial
  | .blt b es, ρ, h, hl => by
    unfold MP.evT
    refine (evV_fl es ρ h hl).bind fun l h1 s1 => (blt_fl hl s1 b l).bind fun x h2 s2 => ?_
    split
    · exact s2
    · trivial
  | .mth b o es, ρ, h, hl => by
    unfold MP.evT
    refine (ev_fl o ρ h hl).bind fun x h1 s1 => ?_
    split
    · refine ((evV_fl es ρ h1 (Nat.le_trans hl s1.2)).bind fun l h2 s2 => (blt_fl (Nat.le_trans hl s1.2) s2 b _).bind fun x h3 s3 => ?_).start s1
      split
      · exact s3
      · trivial
    · trivial
  | .att o f, ρ, h, hl => by
    unfold MP.evT
    refine (ev_fl o ρ h hl).bind fun x h1 s1 => ?_
    split
    · split
      · split
        · split
          · exact s1
          · trivial
        · trivial
      · trivial
    · trivial
  | .comp own tg it cond elt, ρ, h, hl => by
    unfold MP.evT
    exact (evI_fl it ρ h hl).bind fun src h1 s1 => (compGo_fl (fun x h2 s2 => step_fl (fun ρ' h' hl' => evC_fl cond ρ' h' hl') (fun ρ' h' hl' => ev_fl elt ρ' h' hl') hl x h2 s2) src s1).bind fun l h2 s2 => s2
  | .cst d, ρ, h, hl => by unfold MP.evT; trivial
  | .glb _ d, ρ, h, hl => by unfold MP.evT; trivial
  | .tup es, ρ, h, hl => by unfold MP.evT; trivial
  | .lst es, ρ, h, hl => by unfold MP.evT; trivial
  | .dnew, ρ, h, hl => by unfold MP.evT; trivial
  | .dnewT, ρ, h, hl => by unfold MP.evT; trivial
  | .dsp ks es, ρ, h, hl => by unfold MP.evT; trivial
  | .bin op a b, ρ, h, hl => by unfold MP.evT; trivial
  | .neg a, ρ, h, hl => by unfold MP.evT; trivial
  | .ife c a b, ρ, h, hl => by unfold MP.evT; trivial
  | .sub a i, ρ, h, hl => by unfold MP.evT; trivial
  | .slc a lo hi, ρ, h, hl => by unfold MP.evT; trivial
  | .rev a, ρ, h, hl => by unfold MP.evT; trivial
  | .mk c f es, ρ, h, hl => by unfold MP.evT; trivial
theorem evL_fl : ∀ (x : List MP.Ex) (ρ : MP.Env) (h : MP.Hp), fl ≤ h.length → RFl fl h (MP.evL G fl x ρ h)
  | [], ρ, h, hl => Stay.refl _ _
  | e :: es, ρ, h, hl => by
    unfold MP.evL
    refine (ev_fl e ρ h hl).bind fun x h1 s1 => RFl.start (s1.keep hl x) ?_
    exact (evL_fl es ρ _ (Nat.le_trans hl (s1.keep hl x).2)).bind fun l h2 s2 => s2
theorem evV_fl : ∀ (x : List MP.Ex) (ρ : MP.Env) (h : MP.Hp), fl ≤ h.length → RFl fl h (MP.evV G fl x ρ h)
  | [], ρ, h, hl => Stay.refl _ _
  | e :: es, ρ, h, hl => by
    unfold MP.evV
    refine (ev_fl e ρ h hl).bind fun x h1 s1 => RFl.start s1 ?_
    exact (evV_fl es ρ _ (Nat.le_trans hl s1.2)).bind fun l h2 s2 => s2
theorem evO_fl : ∀ (x : Option MP.Ex) (ρ : MP.Env) (h : MP.Hp), fl ≤ h.length → RFl fl h (MP.evO G fl x ρ h)
  | none, ρ, h, hl => Stay.refl _ _
  | some e, ρ, h, hl => by
    unfold MP.evO
    refine (ev_fl e ρ h hl).bind fun x h1 s1 => ?_
    split
    · exact s1
    · trivial
theorem evC_fl : ∀ (x : Option MP.Ex) (ρ : MP.Env) (h : MP.Hp), fl ≤ h.length → RFl fl h (MP.evC G fl x ρ h)
  | none, ρ, h, hl => Stay.refl _ _
  | some e, ρ, h, hl => by
    unfold MP.evC
    exact evT_fl e ρ h hl
theorem evI_fl : ∀ (x : MP.It) (ρ : MP.Env) (h : MP.Hp), fl ≤ h.length → RFl fl h (MP.evI G fl x ρ h)
  | .seq e, ρ, h, hl => by
    unfold MP.evI
    refine (ev_fl e ρ h hl).bind fun x h1 s1 => ?_
    split
    · exact s1
    · trivial
  | .rng1 e, ρ, h, hl => by
    unfold MP.evI
    refine (ev_fl e ρ h hl).bind fun x h1 s1 => ?_
    split
    · split
      · exact s1
      · trivial
    · trivial
  | .rng2 a b, ρ, h, hl => by
    unfold MP.evI
    refine (ev_fl a ρ h hl).bind fun x h1 s1 => ((ev_fl b ρ h1 (Nat.le_trans hl s1.2)).bind fun y h2 s2 => ?_).start s1
    split
    · split
      · exact s2
      · trivial
    · trivial
  | .enm e, ρ, h, hl => by
    unfold MP.evI
    refine (ev_fl e ρ h hl).bind fun x h1 s1 => ?_
    split
    · trivial
    · trivial
    · split
      · exact s1
      · trivial
  | .zip a b, ρ, h, hl => by
    unfold MP.evI
    refine (ev_fl a ρ h hl).bind fun x h1 s1 => ((ev_fl b ρ h1 (Nat.le_trans hl s1.2)).bind fun y h2 s2 => ?_).start s1
    split
    · trivial
    · trivial
    · split
      · split
        · exact s2
        · trivial
      · trivial
end
omit hG in
theorem forFix_fl {t : MP.Tg} {body : MP.Env → MP.Hp → MP.RS} {h0 : MP.Hp} (k : ∀ ρ h, Stay fl h0 h → SFl fl h0 (body ρ h)) : ∀ (l : List MP.D) (ρ : MP.Env) (h : MP.Hp), Stay fl h0 h → SFl fl h0 (MP.forFix t body l ρ h)
  | [], _, _, s => s
  | x :: r, ρ, h, s => by
    unfold MP.forFix
    split
    · rename_i ρ' _
      have q := k ρ' h s
      revert q
      cases body ρ' h with
      | nx ρ1 h1 => exact fun q => forFix_fl k r ρ1 h1 q
      | ct ρ1 h1 => exact fun q => forFix_fl k r ρ1 h1 q
      | bk ρ1 h1 => exact fun q => q
      | rt _ _ => exact fun q => q
      | exc _ _ _ => exact fun q => q
      | err => exact fun q => q
    · trivial
omit hG in
theorem forLive_fl {t : MP.Tg} {body : MP.Env → MP.Hp → MP.RS} {h0 : MP.Hp} (k : ∀ ρ h, Stay fl h0 h → SFl fl h0 (body ρ h)) {n k0 : Nat} : ∀ (m i : Nat) (ρ : MP.Env) (h : MP.Hp), Stay fl h0 h → SFl fl h0 (MP.forLive t body n k0 m i ρ h)
  | 0, _, _, _, s => by
    unfold MP.forLive
    split
    · exact s
    · trivial
  | m + 1, i, ρ, h, s => by
    unfold MP.forLive
    split
    · split
      · rename_i ρ' _
        have q := k ρ' h s
        revert q
        cases body ρ' h with
        | nx ρ1 h1 => exact fun q => forLive_fl k m _ ρ1 h1 q
        | ct ρ1 h1 => exact fun q => forLive_fl k m _ ρ1 h1 q
        | bk ρ1 h1 => exact fun q => q
        | rt _ _ => exact fun q => q
        | exc _ _ _ => exact fun q => q
        | err => exact fun q => q
      · trivial
    · trivial
omit hG in
theorem whlGo_fl {test : MP.Env → MP.Hp → MP.R Bool} {body : MP.Env → MP.Hp → MP.RS} {h0 : MP.Hp} (kt : ∀ ρ h, Stay fl h0 h → RFl fl h0 (test ρ h)) (k : ∀ ρ h, Stay fl h0 h → SFl fl h0 (body ρ h)) : ∀ (m : Nat) (ρ : MP.Env) (h : MP.Hp), Stay fl h0 h → SFl fl h0 (MP.whlGo test body m ρ h)
  | 0, _, _, _ => trivial
  | m + 1, ρ, h, s => by
    unfold MP.whlGo
    refine (kt ρ h s).st fun b h1 s1 => ?_
    split
    · have q := k ρ h1 s1
      revert q
      cases body ρ h1 with
      | nx ρ1 h1 => exact fun q => whlGo_fl kt k m ρ1 h1 q
      | ct ρ1 h1 => exact fun q => whlGo_fl kt k m ρ1 h1 q
      | bk ρ1 h1 => exact fun q => q
      | rt _ _ => exact fun q => q
      | exc _ _ _ => exact fun q => q
      | err => exact fun q => q
    · exact s1
mutual
theorem ex_fl : ∀ (x : MP.Stm) (ρ : MP.Env) (h : MP.Hp), fl ≤ h.length → SFl fl h (MP.ex G fl x ρ h)
  | .asg al t e, ρ, h, hl => by
    unfold MP.ex
    refine (ev_fl hG e ρ h hl).st fun v h1 s1 => ?_
    cases t with
    | v i =>
      simp only []
      split
      · exact s1.keepA hl v
      · trivial
    | t ts =>
      simp only []
      split
      · split
        · exact s1
        · trivial
      · trivial
  | .par al is es, ρ, h, hl => by
    unfold MP.ex
    split
    · refine (ev_fl hG _ ρ h hl).st fun x h1 s1 => SFl.start (s1.keepA hl x) ((ev_fl hG _ ρ _ (Nat.le_trans hl (s1.keepA hl x).2)).st fun y h2 s2 => ?_)
      split
      · exact s2.keepA (Nat.le_trans hl (s1.keepA hl x).2) y
      · trivial
    · trivial
  | .setI o i e, ρ, h, hl => by
    unfold MP.ex
    refine (ev_fl hG e ρ h hl).st fun v h1 s1 => SFl.start s1 ?_
    have l1 := Nat.le_trans hl s1.2
    refine (ev_fl hG o ρ h1 l1).st fun x h2 s2 => SFl.start s2 ?_
    have l2 := Nat.le_trans l1 s2.2
    refine (ev_fl hG i ρ h2 l2).st fun j h3 s3 => ?_
    split
    · split
      · trivial
      · rename_i hn
        split
        · split
          · split
            · exact (s3.keep l2 v).set hn _
            · trivial
          · trivial
        · split
          · split
            · split
              · exact (s3.keep l2 v).set hn _
              · trivial
            · trivial
          · trivial
        · trivial
    · trivial
  | .setA al o f e, ρ, h, hl => by
    unfold MP.ex
    refine (ev_fl hG e ρ h hl).st fun v h1 s1 => SFl.start s1 ?_
    have l1 := Nat.le_trans hl s1.2
    refine (ev_fl hG o ρ h1 l1).st fun x h2 s2 => ?_
    split
    · split
      · trivial
      · rename_i hn
        split
        · split
          · exact (s2.keepA l1 v).set hn _
          · trivial
        · trivial
    · trivial
  | .aug i op e, ρ, h, hl => by
    unfold MP.ex
    split
    · refine (ev_fl hG e ρ h hl).st fun v h1 s1 => ?_
      split
      · exact s1
      · exact s1
      · trivial
    · trivial
  | .exp e, ρ, h, hl => by
    unfold MP.ex
    exact (ev_fl hG e ρ h hl).st fun v h1 s1 => s1
  | .ret e, ρ, h, hl => by
    unfold MP.ex
    exact (ev_fl hG e ρ h hl).st fun v h1 s1 => s1
  | .retN, ρ, h, hl => by unfold MP.ex; exact Stay.refl _ _
  | .ifs c a b, ρ, h, hl => by
    unfold MP.ex
    refine (evT_fl hG c ρ h hl).st fun k h1 s1 => ?_
    split
    · exact (exs_fl a ρ h1 (Nat.le_trans hl s1.2)).start s1
    · exact (exs_fl b ρ h1 (Nat.le_trans hl s1.2)).start s1
  | .fors t it b, ρ, h, hl => by
    unfold MP.ex
    refine (evI_fl hG it ρ h hl).st fun src h1 s1 => ?_
    cases src with
    | fix l => exact forFix_fl (fun ρ h2 s2 => (exs_fl b ρ h2 (Nat.le_trans hl s2.2)).start s2) l ρ h1 s1
    | live n m => exact forLive_fl (fun ρ h2 s2 => (exs_fl b ρ h2 (Nat.le_trans hl s2.2)).start s2) m 0 ρ h1 s1
  | .whl c b, ρ, h, hl => by
    unfold MP.ex
    exact whlGo_fl (fun ρ h2 s2 => (evT_fl hG c ρ h2 (Nat.le_trans hl s2.2)).start s2) (fun ρ h2 s2 => (exs_fl b ρ h2 (Nat.le_trans hl s2.2)).start s2) _ ρ h (Stay.refl _ _)
  | .rai c, ρ, h, hl => by unfold MP.ex; exact Stay.refl _ _
  | .tri kn b hs, ρ, h, hl => by
    unfold MP.ex
    have q := exs_fl b ρ h hl
    revert q
    cases MP.exs G fl b ρ h with
    | exc c ρ1 h1 =>
      intro q
      simp only []
      split
      · exact (exH_fl hs c ρ1 h1 (Nat.le_trans hl q.2)).start q
      · trivial
    | nx _ _ => exact fun q => q
    | rt _ _ => exact fun q => q
    | bk _ _ => exact fun q => q
    | ct _ _ => exact fun q => q
    | err => exact fun q => q
  | .pas, ρ, h, hl => by unfold MP.ex; exact Stay.refl _ _
  | .brk, ρ, h, hl => by unfold MP.ex; exact Stay.refl _ _
  | .cnt, ρ, h, hl => by unfold MP.ex; exact Stay.refl _ _
theorem exs_fl : ∀ (x : List MP.Stm) (ρ : MP.Env) (h : MP.Hp), fl ≤ h.length → SFl fl h (MP.exs G fl x ρ h)
  | [], ρ, h, hl => by unfold MP.exs; exact Stay.refl _ _
  | s :: r, ρ, h, hl => by
    unfold MP.exs
    have q := ex_fl s ρ h hl
    revert q
    cases MP.ex G fl s ρ h with
    | nx ρ1 h1 => exact fun q => (exs_fl r ρ1 h1 (Nat.le_trans hl q.2)).start q
    | exc _ _ _ => exact fun q => q
    | rt _ _ => exact fun q => q
    | bk _ _ => exact fun q => q
    | ct _ _ => exact fun q => q
    | err => exact fun q => q
theorem exH_fl : ∀ (x : List (Nat × MP.Stm)) (c : Nat) (ρ : MP.Env) (h : MP.Hp), fl ≤ h.length → SFl fl h (MP.exH G fl x c ρ h)
  | [], c, ρ, h, hl => by unfold MP.exH; exact Stay.refl _ _
  | (k, s) :: r, c, ρ, h, hl => by
    unfold MP.exH
    split
    · exact ex_fl s ρ h hl
    · exact exH_fl r c ρ h hl
end
theorem runDef_fl (d : MP.Def) (as : List MP.D) (h : MP.Hp) (hl : fl ≤ h.length) : RFl fl h (MP.runDef G d as fl h) := by
  unfold MP.runDef
  split
  · have q := exs_fl hG d.body (MP.start d.names as) h hl
    revert q
    cases MP.exs G fl d.body (MP.start d.names as) h with
    | nx _ _ => exact fun q => q
    | exc _ _ _ => exact fun q => q
    | rt _ _ => exact fun q => q
    | bk _ _ => exact fun q => trivial
    | ct _ _ => exact fun q => trivial
    | err => exact fun q => trivial
  · trivial
end
theorem lev_fl (P : Nat → Option MP.Def) : ∀ n, FlOk (MP.lev P n)
  | 0 => fun _ _ _ _ _ _ => trivial
  | n + 1 => fun b f as fl h hl => by
    unfold MP.lev
    cases b with
    | true => exact lev_fl P n false f as fl h hl
    | false =>
      simp only [Bool.false_eq_true, if_false]
      cases P f with
      | none => trivial
      | some d =>
        have q := runDef_fl (lev_fl P n) d as h hl
        simp only []
        revert q
        cases MP.runDef (MP.lev P n) d as fl h <;> exact fun q => q
end MPS
end
section
set_option Elab.async false
set_option linter.all false
set_option maxRecDepth 100000
set_option maxHeartbeats 4000000
namespace MPS
open PySem PySem.Spec PyProof.Rows L2
open AutoSeq1 (wpAny_loadPart')
/-! ### enumerate, over whatever begins an iterator: one argument -/
/-- the heap with the iterator and the enumerate object behind it -/
def enumH (h : Heap) (o : Obj) : Heap := (h.push o).push { cls := .type "enumerate", data := .fields #[.none, .bool false, .ref h.objs.size, rawInt 0, .none, .none] }
theorem meets_enum1 {v : Value} {o : Obj} {G : Heap → Prop} (B : Begins v o G) :
    Meets (Builtin.«enumerate.__new__» ⟨[.type "enumerate", v], []⟩) (fun _ R s => G s.heap ∧ R (.ok (.ret (.ref (s.heap.push o).objs.size))) { s with heap := enumH s.heap o }) := by
  refine .of_wp fun prog w A R s h => ?_
  have hsub := sub_enumerate
  obtain ⟨hp, gs, dr, tk, os⟩ := s
  obtain ⟨h1, h2⟩ := h
  have go : ∀ {A' : Around} {E' : Value → Shared → Prop} {Q' : Value → Shared → Prop}, Q' (.ref hp.objs.size) ⟨hp.push o, gs, dr, tk, os⟩ → wpAny (model prog w) A' (pyIter v) Q' E' ⟨hp, gs, dr, tk, os⟩ := fun {A' _ _} q => B.iter prog w A' _ ⟨hp, gs, dr, tk, os⟩ _ h1 q
  wp_walk
  refine wpAny_stack_any fun st => wpAny_pure ?_
  split
  · rename_i cl _ _ _ _ _
    cases (cl == Value.type "enumerate") <;> (wp_walk using go; exact ⟨_, rfl, h2⟩)
  · wp_walk using go
    exact ⟨_, rfl, h2⟩
theorem call_enum1 {prog : Program} {w : World} {A : Around} {E : Value → Shared → Prop} {s : Shared} {v : Value} {o : Obj} {G : Heap → Prop} {Q : Value → Shared → Prop} (B : Begins v o G) (hG : G s.heap)
    (q : Q (.ref (s.heap.objs.size + 1)) { s with heap := enumH s.heap o }) : wpAny (model prog w) A (call (.type "enumerate") [v]) Q E s := by
  have e : (s.heap.push o).objs.size = s.heap.objs.size + 1 := Heap.size_push ..
  refine callType_new F.called_enumerate (by decide) (F.typeCall_enumerate_1 _) (F.newCall_enumerate_1 _) (fun ob => F.args_object_init_2 ob _) F.entry_enumerate_new (meets_enum1 B) ⟨hG, ?_⟩
  rw [e]
  have at_ : (enumH s.heap o).get? (s.heap.objs.size + 1) = some { cls := .type "enumerate", data := .fields #[.none, .bool false, .ref s.heap.objs.size, rawInt 0, .none, .none] } := by
    rw [← e]
    exact Heap.get?_push_size _ rfl
  exact ⟨⟨_, at_, rfl⟩, q⟩
theorem enumH_new {h : Heap} {o : Obj} (hf : o.isFreed = false) : (enumH h o).get? h.objs.size = some o ∧ IsEnum (enumH h o) (h.objs.size + 1) h.objs.size 0 .none ∧ ∀ b u, h.get? b = some u → (enumH h o).get? b = some u := by
  have e : (h.push o).objs.size = h.objs.size + 1 := Heap.size_push ..
  refine ⟨Heap.get?_push_of_some _ (Heap.get?_push_size _ hf), ?_, fun b u q => Heap.get?_push_of_some _ (Heap.get?_push_of_some _ q)⟩
  show (enumH h o).get? (h.objs.size + 1) = _
  rw [← e]
  exact Heap.get?_push_size _ rfl
/-- a pair (i, x) is laid at the heap's end, some objects ch beside changed -/
theorem lay_pair {X : Cx} {pins : List (Addr × Obj)} {σ : L2.St} {H : L2.Hp} {s : Shared} {h' : Heap} {tk t : Nat} {ch : List Addr} {i : Int} {x : V} {y : Value} (I : Inv X pins σ H s) (hf : ∀ b ∈ ch, FpOk X pins H b) (k : ∀ b o, b ∉ ch → s.heap.get? b = some o → h'.get? b = some o)
    (hT : h'.get? s.heap.objs.size = some { cls := .type "tuple", data := .seq #[.int i t, y] }) (r : RelV x y) : Inv X pins σ (upd H s.heap.objs.size (.tup [.int i, x])) { s with heap := h', toks := tk } :=
  I.turnedNew k hf (Nat.le_refl _) (show ObjOk X.prog X.w _ h' s.heap.objs.size (.tup [.int i, x]) from ⟨by show 2 ≤ sizeLine; decide, [.int i t, y], .cons ⟨t, rfl⟩ (.cons r .nil), ⟨_, hT, rfl, _, rfl⟩⟩)
/-- the tuple at a, each item in a pair of its own -/
def IteT (K : PySem.W.Frag) (a : Addr) : L2.It where
  go i H := ∃ (xs : List V) (x : V), SqT K H a xs ∧ xs[i]? = some x
  yld i H v H' := ∃ T x, v = .ref T ∧ H T = none ∧ H' = upd H T (.tup [.int (i : Nat), x]) ∧ ∀ xs, SqT K H a xs → xs[i]? = some x
  stop i H := ∃ xs : List V, SqT K H a xs ∧ xs.length ≤ i
/-- where an enumerate object e stands over a tuple's iterator it -/
def EnT (a e it : Addr) (i : Nat) (h : Heap) : Prop := (∃ old, IsEnum h e it (i : Int) old) ∧ h.IsTupleIter it a i ∧ (e ≠ it ∧ a ≠ it ∧ e ≠ a)
theorem turn_enumT {P : Program} {w : World} {K : PySem.W.Frag} {elts : List Expr} {kk : Nat} {tpos : Pos} (a e it : Addr) : Turn P w K (.Tuple elts kk tpos) (IteT K a) [e, it] e (EnT a e it) := by
  have two : ∀ {b}, b ∈ [e, it] → b = e ∨ b = it := fun hb => by simpa using hb
  refine ⟨List.mem_cons_self, fun i h st b hb => ?_, fun i h h' st k => ?_, ?_, ?_, fun A i s Q E st q => ?_⟩
  · obtain ⟨⟨old, h1⟩, ⟨o, h2, _, h3⟩, _⟩ := st
    rcases two hb with rfl | rfl
    · exact ⟨_, h1, fun v q => nomatch q⟩
    · exact ⟨o, h2, fun v q => by rw [h3] at q; cases q⟩
  · obtain ⟨⟨old, h1⟩, h2, h3⟩ := st
    exact ⟨⟨old, k e (by simp) _ h1⟩, h2.at fun o q => k it (by simp) o q, h3⟩
  · intro X eP ew eK hc i pins s σ H E I hf st hg
    subst eP ew eK
    obtain ⟨⟨old, h1⟩, h2, h3, h4, h5⟩ := st
    obtain ⟨xs, x, hq, hx⟩ := hg
    obtain ⟨its, rv, pt, _⟩ := I.tuple hq
    obtain ⟨u, hu, ru⟩ := rv.get hx
    have le : e < s.heap.objs.size := Heap.lt_size h1
    have li : it < s.heap.objs.size := let ⟨_, q, _⟩ := h2; Heap.lt_size q
    have lt : i < its.toArray.size := by simpa using (List.getElem?_eq_some_iff.mp hu).1
    refine wpAny_pyNext_enum_itemD (Draws.tuple (A := X.A.in1) (I.ok.hd hc) it a h4 its.toArray) h1 ⟨h2, pt⟩ lt h3 (by simp [h3, h5]) fun y h' tk hy ho hst hT _ hk => ?_
    obtain rfl : u = y := Option.some.inj (hu.symm.trans (by simpa using hy))
    refine ⟨_, rfl, wpAny_letOwnedTupleGo_enum (s := { s with heap := h', toks := tk + 1 }) ho fun h2' he' sb => ?_⟩
    have keep : ∀ b ob, b ∉ [e, it] → s.heap.get? b = some ob → h2'.get? b = some ob := fun b ob nb q => by
      simp only [List.mem_cons, List.not_mem_nil, or_false, not_or] at nb
      exact (sb.2 b nb.1).trans (hk b ob nb.1 nb.2 q)
    have I1 := lay_pair (tk := tk + 1) I hf keep ((sb.2 _ (Nat.ne_of_gt le)).trans hT) ru
    refine ⟨.ref s.heap.objs.size, _, I1, rfl, ⟨_, x, rfl, I.hok.fresh (Nat.le_refl _), rfl, fun ys hy => by rw [I.tuple_inj hy hq]; exact hx⟩, ⟨⟨u, ?_⟩, hst.1.at fun o q => (sb.2 it (Ne.symm h3)).trans q, h3, h4, h5⟩, fun b hb => ?_⟩
    · rw [show ((i + 1 : Nat) : Int) = (i : Int) + 1 by omega]
      exact he'
    · have lb : b < s.heap.objs.size := by
        rcases two hb with z | z
        · rw [z]; exact le
        · rw [z]; exact li
      rw [upd_ne (Nat.ne_of_lt lb)]
      exact (hf b hb).1
  · intro X eP ew eK hc i pins s σ H E I hf st hg
    subst eP ew eK
    obtain ⟨⟨old, h1⟩, h2, _⟩ := st
    obtain ⟨xs, hq, hx⟩ := hg
    obtain ⟨its, rv, pt, _⟩ := I.tuple hq
    have hl := rv.length
    have none_left : its.toArray[i]? = none := by simp; omega
    obtain ⟨f0, f1, _, f3, f4, f5⟩ := hf it (by simp)
    have hD : Draws X.prog X.w X.A.in1 it [it, a] 0 (fun _ _ => True) (fun _ h => h.IsTupleIter it a i ∧ h.IsTuple a its.toArray) :=
      ⟨fun _ _ st => let ⟨o, ho, _⟩ := st.1; ⟨o, ho⟩, fun _ _ _ st hk => ⟨st.1.at fun o q => hk it (by simp) o q, st.2.at fun o q => hk a (by simp) o q⟩, fun k s Q E hk => absurd hk (Nat.not_lt_zero _),
        fun s Q E st hE => wpAny_nextOf_tuple_end (I.ok.hd hc) st.1 st.2 none_left hE⟩
    exact wpAny_pyNext_enum_endD hD h1 ⟨h2, pt⟩ fun h' eb => ⟨rfl, I.turned (t' := s.toks) eb f0 f1 f3 f4 f5⟩
  · obtain ⟨⟨_, h1⟩, _⟩ := st
    exact wpAny_pyIter_enum h1 q
/-- for .. in enumerate(e): a list or a tuple -/
def iEnumA (K : PySem.W.Frag) (ta : TA) : TI := fun σ H R => ta σ H fun vs H1 => ∃ a xs, vs = [.ref a] ∧ ((SqL K H1 a xs ∧ R (Ite K a) H1) ∨ (SqT K H1 a xs ∧ R (IteT K a) H1))
theorem pi_enumA {X : Cx} {e : Expr} {ta : TA} {p pos tpos : Pos} {elts : List Expr} {kk : Nat} (hg : Gl X "enumerate") (hm : X.mg "enumerate" = none) (ha : PA X [e] ta) (hs : starEach [e] X.env = [(false, eval e X.env)]) :
    PI X (.Tuple elts kk tpos) (.Call (.Name "enumerate" p) [e] [] pos) (iEnumA X.K ta) := by
  refine ⟨fun pins s σ H R I h => Call_ (ld_blt I hg hm boot_enumerate (PyProof.Rows.callWith_type1 (thn (ha.run pos pins s σ H _ I h) fun us s1 hh => ?_) hs rfl))⟩
  obtain ⟨vs, H1, I1, r1, a, xs, rfl, q⟩ := hh
  have new2 : ∀ b ∈ [s1.heap.objs.size + 1, s1.heap.objs.size], s1.heap.objs.size ≤ b := fun b hb => by
    rcases (by simpa using hb : b = s1.heap.objs.size + 1 ∨ b = s1.heap.objs.size) with z | z <;> omega
  have fp : ∀ b ∈ [s1.heap.objs.size + 1, s1.heap.objs.size], FpOk X pins H1 b := fun b hb => I1.fpOk (new2 b hb) (I1.hok.fresh (new2 b hb))
  rw [Vals.ref1 r1]
  rcases q with ⟨hq, q⟩ | ⟨hq, q⟩
  · obtain ⟨its, _, pl, _⟩ := I1.list hq
    refine call_enum1 (begins_list a its.toArray) pl.isList ?_
    obtain ⟨n1, n2, n3⟩ := enumH_new (h := s1.heap) (begins_list a its.toArray).free
    exact wpAny_pyIter_enum n2 ⟨_, _, _, _, H1, rfl, I1.kept (t' := s1.toks) n3, turn_enum a (s1.heap.objs.size + 1) s1.heap.objs.size, ⟨⟨.none, n2⟩, ⟨_, n1, rfl, rfl⟩, Nat.succ_ne_self _⟩, fp, q⟩
  · obtain ⟨its, _, pt, _⟩ := I1.tuple hq
    have la : a < s1.heap.objs.size := let ⟨_, ho, _⟩ := pt; Heap.lt_size ho
    refine call_enum1 (begins_tuple a its.toArray) pt ?_
    obtain ⟨n1, n2, n3⟩ := enumH_new (h := s1.heap) (begins_tuple a its.toArray).free
    exact wpAny_pyIter_enum n2 ⟨_, _, _, _, H1, rfl, I1.kept (t' := s1.toks) n3, turn_enumT a (s1.heap.objs.size + 1) s1.heap.objs.size, ⟨⟨.none, n2⟩, ⟨_, n1, rfl, rfl⟩, Nat.succ_ne_self _, Nat.ne_of_lt la, fun z => absurd la (by rw [← z]; exact Nat.not_lt.mpr (Nat.le_succ _))⟩, fp, q⟩
section
variable {c : Ct} {pos : Pos}
theorem walk_enumT {m : List Addr} {h : MP.Hp} {H F : L2.Hp} {a : Addr} {l : List MP.D} {vs : List V} (S : c.Sm m h H F) (e : SqT c.X.K F a vs) (r : Reps c.X.K F m l vs) : Walk c (.fix (MP.enumD l)) (IteT c.X.K a) m F := by
  refine ⟨fun l' el => ?_, fun n k el => by cases el⟩
  cases el
  refine ⟨by rw [enum_len]; exact r.size S (S.le.sqT e), fun m1 h1 H1 F1 i S1 le pm => ⟨fun d hd => ?_, fun hl => ?_⟩⟩
  · have eH := S1.le.sqT (le.sqT e)
    obtain ⟨x, hx, rfl⟩ := enum_get hd
    obtain ⟨v, hv, rv⟩ := r.get hx
    refine ⟨⟨vs, v, eH, hv⟩, fun y H' hy => ?_⟩
    obtain ⟨T, z, rfl, nT, rfl, hz⟩ := hy
    have q := hz vs eH
    rw [hv] at q; cases q
    refine ⟨_, Ext.newF nT, S1.newF nT (by show 2 ≤ sizeLine; rw [sizeLine_eq]; omega), T, _, rfl, upd_same, ?_⟩
    exact ⟨_, _, rfl, rfl, _, _, rfl, (rv.mono le pm).mono (S1.le.self nT) (List.prefix_refl _), rfl⟩
  · exact ⟨vs, S1.le.sqT (le.sqT e), by rw [← r.length, ← enum_len]; exact hl⟩
theorem i_enm {x : MP.Ex} {e : Expr} {p tpos : Pos} {elts : List Expr} {kk : Nat} (hx : SE c x e) (hg : Gl c.X "enumerate") (hm : c.X.mg "enumerate" = none) (hs : starEach [e] c.X.env = [(false, eval e c.X.env)]) : SI c (.enm x) (.Tuple elts kk tpos) (.Call (.Name "enumerate" p) [e] [] pos) := by
  intro fl ρ h σ m H F R er S p
  refine piSem (pi_enumA hg hm (pa_one hs) hs) ?_
  unfold MP.evI at p
  refine hx fl ρ h σ m H F _ er S (p.bind fun v h1 m1 H1 F1 u _ e1 S1 r1 p1 => ?_)
  show ∃ a xs, [u] = [V.ref a] ∧ _
  cases v with
  | ndc l => exact p1.elim
  | ndt l => exact p1.elim
  | nls l =>
    obtain ⟨a, vs, rfl, n0, eH, nF, nM, rs⟩ := r1
    have S2 := S1.frz eH nF nM
    exact ⟨a, vs, rfl, .inl ⟨SqL.of eH, p1 m1 H1 _ _ (e1.frz n0) S2 (walk_enum S2 upd_same (rs.mono (Le.frz1 (o := .lst vs) nF) (List.prefix_refl _)))⟩⟩
  | d y =>
    cases y with
    | non => exact p1.elim
    | bl b => exact p1.elim
    | int b => exact p1.elim
    | str b => exact p1.elim
    | ref n => exact p1.elim
    | lst l =>
      obtain ⟨a, vs, rfl, ea, ra⟩ := r1
      exact ⟨a, vs, rfl, .inl ⟨SqL.of (S1.le a _ ea), p1 m1 H1 F1 _ e1 S1 (walk_enum S1 ea ra)⟩⟩
    | ltp l =>
      obtain ⟨a, vs, rfl, ea, ra⟩ := r1
      exact ⟨a, vs, rfl, .inr ⟨SqT.of (S1.le a _ ea), p1 m1 H1 F1 _ e1 S1 (walk_enumT S1 (SqT.of ea) ra)⟩⟩
    | tup l =>
      obtain ⟨a, vs, rfl, ⟨o, ea, _⟩, ra⟩ := r1
      exact ⟨a, vs, rfl, .inr ⟨sq_ltp (S1.le a _ ea), p1 m1 H1 F1 _ e1 S1 (walk_enumT S1 (sq_ltp ea) ra)⟩⟩
    | ctp l => exact p1.elim
end
end MPS
end
section
set_option Elab.async false
set_option linter.all false
set_option maxRecDepth 100000
set_option maxHeartbeats 4000000
namespace MPS
open PySem PySem.Spec PyProof.Rows L2
/-! ### a set of a list's keys: how many are unlike -/
section
variable {κ : Type} [DecidableEq κ]
/-- how many unlike items -/
def unlike : List κ → Nat
  | [] => 0
  | x :: r => if x ∈ r then unlike r else unlike r + 1
theorem unlike_snoc (k : κ) : ∀ l : List κ, unlike (l ++ [k]) = if k ∈ l then unlike l else unlike l + 1
  | [] => by simp [unlike]
  | x :: r => by
    have ih := unlike_snoc k r
    simp only [List.cons_append, unlike, List.mem_append, List.mem_singleton, List.mem_cons]
    by_cases h1 : x ∈ r
    · simp only [h1, true_or, if_true]
      rw [ih]
      by_cases h2 : k ∈ r
      · simp [h2]
      · have h3 : ¬ (k = x) := fun e => h2 (e ▸ h1)
        simp [h2, h3]
    · by_cases h2 : x = k
      · subst h2
        simp [h1, ih]
      · have h3 : ¬ (k = x) := fun e => h2 e.symm
        by_cases h4 : k ∈ r <;> simp [h1, h2, h3, h4, ih]
theorem unlike_le (l : List κ) : unlike l ≤ l.length := by
  induction l with
  | nil => exact Nat.le_refl _
  | cons x r ih =>
    unfold unlike
    split
    · exact Nat.le_succ_of_le ih
    · exact Nat.succ_le_succ ih
end
section
variable {prog : Program} {w : World} {κ : Type} [DecidableEq κ] [BEq κ] [LawfulBEq κ] {knd : KeyKind prog w κ} {A : Around} {R : Result → Shared → Prop} {I a : Addr} {fp wr : List Addr} {Gn : Array GenState → Array GenState → Prop} {n : Nat} {P : Nat → Value → Prop} {St : Nat → Shared → Prop}
theorem setOf_moved {S : κ → Bool} {k : Nat} {h h' : Heap} (x : h.SetOf knd a S k) (e : ∀ o, h.get? a = some o → h'.get? a = some o) : h'.SetOf knd a S k := by
  obtain ⟨o, es, ep, t, q, r⟩ := x
  exact ⟨o, es, ep, t, e o q, r⟩
/-- the rest of the items goes into the set at a -/
theorem set_rest (W : WalksS prog w A.in1 I fp wr Gn n P St) (na : a ∉ fp) (ks : List κ) (hn : ks.length = n) (hk : ∀ i v k, P i v → ks[i]? = some k → knd.is k v = true ∧ v.scannable = true) (hb : n + 1 < scanBound) :
    ∀ (rest done : List κ) (s : Shared), ks = done ++ rest → St done.length s → s.heap.SetOf knd a (fun k => decide (k ∈ done)) (unlike done) →
      (∀ s', Moved (a :: wr) Gn s s' → s'.heap.SetOf knd a (fun k => decide (k ∈ ks)) (unlike ks) → R (.ok (.ret .none)) s') → codeAny (model prog w) A (.builtin "set.update.loop" ⟨[.ref a, .ref I], []⟩) R s := by
  have na' : a ∉ wr := fun z => na (W.sub _ z)
  intro rest
  induction rest with
  | nil =>
    intro done s e st hS q
    rw [List.append_nil] at e
    subst e
    refine codeAny_builtin PyProof.Rows.F.entry_set_update_loop ?_
    rw [Around.under_plainId PyProof.Rows.F.plain_set_update_loop _]
    refine wpAny_bind (W.done s _ _ (by rw [← hn]; exact st) fun s' mv => ?_)
    exact wpAny_pure (q s' (mv.mono fun b z => List.mem_cons_of_mem _ z) (setOf_moved hS fun o z => mv.heap a o na' z))
  | cons k rest ih =>
    intro done s e st hS q
    have lt : done.length < n := by rw [← hn, e]; simp
    have at_ : ks[done.length]? = some k := by rw [e]; simp
    refine codeAny_builtin PyProof.Rows.F.entry_set_update_loop ?_
    rw [Around.under_plainId PyProof.Rows.F.plain_set_update_loop _]
    refine wpAny_bind (W.item done.length s _ _ lt st fun v s1 hv st1 mv => ?_)
    obtain ⟨k1, k2⟩ := hk _ v k hv at_
    have hS1 := setOf_moved hS fun o z => mv.heap a o na' z
    show wpAny _ A.in1 (holding [v] (setAdd a v) >>= _) _ _ s1
    refine wpAny_bind (wpAny_holding ?_)
    unfold setAdd
    refine wpAny_holding (wpAny_bind (knd.pyHash k1 ?_))
    have room : unlike done + 1 < scanBound := by have := unlike_le done; omega
    refine wpAny_setAddHashed_of (s := { s1 with toks := s1.toks + 1 }) k1 k2 hS1 room fun h2 sb hS2 => ?_
    have hS3 : h2.SetOf knd a (fun j => decide (j ∈ done ++ [k])) (unlike (done ++ [k])) := SetOf_congr hS2 (fun j => by simp [Bool.decide_or]) (by rw [unlike_snoc]; by_cases z : k ∈ done <;> simp [z])
    refine wpAny_pure ⟨plainId_quiet PyProof.Rows.F.plain_set_update_loop _, ih (done ++ [k]) _ (by rw [e]; simp) ?_ hS3 fun s3 mv3 hS4 => ?_⟩
    · rw [List.length_append]
      exact W.frame _ s1 _ _ st1 (Nat.le_succ _) fun b hb o z => by rw [sb.2 b (fun z => na (z ▸ hb))]; exact z
    · refine q s3 (Moved.trans W.gtrans ((mv.mono fun b z => List.mem_cons_of_mem _ z).then_heap (Nat.le_succ _) fun b o nb z => ?_) mv3) hS4
      rw [sb.2 b (fun z => nb (by rw [z]; exact List.mem_cons_self))]
      exact z
end
/-- a set that nothing is in yet -/
abbrev bareSet (led : Bool) : Obj := { cls := .type "set", dict := none, data := .set #[] 0 (.fresh 0 0 led) }
/-- set(l) of a list whose items are keys of one kind -/
theorem call_setOf {prog : Program} {w : World} {κ : Type} [DecidableEq κ] [BEq κ] [LawfulBEq κ] {knd : KeyKind prog w κ} {A : Around} {E : Value → Shared → Prop} {s : Shared} {l : Addr} {items : Array Value} {ks : List κ} {Q : Value → Shared → Prop}
    (hh : A.handled = none) (hl : s.heap.IsList l items) (hn : ks.length = items.size) (hk : ∀ (i : Nat) v k, items[i]? = some v → ks[i]? = some k → knd.is k v = true ∧ v.scannable = true) (hb : ks.length + 1 < scanBound)
    (q : ∀ (h' : Heap) (tk : Nat), h'.SetOf knd s.heap.objs.size (fun k => decide (k ∈ ks)) (unlike ks) → (∀ b o, s.heap.get? b = some o → h'.get? b = some o) → Q (.ref s.heap.objs.size) { s with heap := h', toks := tk }) :
    wpAny (model prog w) A (call (.type "set") [.ref l]) Q E s := by
  obtain ⟨cc, tl, hmro⟩ := PySem.F.called_set.mro
  have f1 := PySem.F.called_set.made
  have f2 := PySem.F.called_set.sub
  have f3 := PySem.F.called_set.notType
  have f4 := PySem.F.called_set.canCreate
  have f5 := PySem.F.typeCall_set_1 (.ref l)
  refine wpAny_call (codeAny_of_tree (wpAny_pure ⟨Code.quiet_builtin _ (by decide +kernel), codeAny_builtin PySem.F.entry_type_call ?_⟩))
  rw [Around.under_plain (weight_type_call_type "set" [.ref l] []) rfl]
  repeat (any_goals (first | assumption | wp_step))
  refine codeAny_mono (code_set_new_1 (.ref l) (E := E) (Q₁ := fun ob s1 => ∃ led, ob = .ref s.heap.objs.size ∧ s1 = { s with heap := s.heap.push (bareSet led) }) fun led => ⟨led, rfl, rfl⟩) fun r s1 hr => ?_
  match r, hr with
  | .error e, hr => exact hr
  | .ok (.ret ob), hr =>
    obtain ⟨led, rfl, rfl⟩ := hr
    have g1 : (s.heap.push (bareSet led)).get? s.heap.objs.size = some (bareSet led) := Heap.get?_push_size _ rfl
    have ty : Shared.TypeIs { s with heap := s.heap.push (bareSet led) } (.ref s.heap.objs.size) "set" := ⟨_, g1, rfl⟩
    have f6 := PySem.F.called_set.init.lookup
    have f7 := PySem.F.called_set.init.bind (.ref s.heap.objs.size)
    repeat (any_goals (first | assumption | wp_step))
    refine codeAny_mono (codeAny_call_builtin (R := wants (fun r s2 => r = .none ∧ ∃ h' tk, s2 = { s with heap := h', toks := tk } ∧ h'.SetOf knd s.heap.objs.size (fun k => decide (k ∈ ks)) (unlike ks) ∧ ∀ b o, s.heap.get? b = some o → h'.get? b = some o) E)
      PySem.F.called_set.init.plain PySem.F.entry_set_init (check_set_init_1 ty ?_)) fun r2 s2 hr2 => ?_
    · obtain ⟨⟨lc, ld, ldat, lsl⟩, ho, rfl, nl, rfl⟩ := hl
      have ll : l < s.heap.objs.size := Heap.lt_size ho
      have g2 : (s.heap.push (bareSet led)).get? l = some ⟨.type "list", ld, .seq items nl, lsl⟩ := Heap.get?_push_of_some _ ho
      have isl : (s.heap.push (bareSet led)).IsList l items := ⟨_, g2, rfl, nl, rfl⟩
      have s1 := PySem.F.sub_list_set
      have s2 := PySem.F.sub_list_frozenset
      have s3 : (Value.type "list" == Value.type "dict") = false := by decide
      have size1 : (s.heap.push (bareSet led)).objs.size = s.heap.objs.size + 1 := Heap.size_push ..
      unfold Builtin.«set.__init__» noKeywords Builtin.Frozenset.updateFrom
      generalize hPI : pyIter = PI
      wp_walk
      subst hPI
      refine wpAny_pyIter_list isl (wpAny_bind (wpAny_runValue ?_))
      refine set_rest (knd := knd) ((Walks.list (by simp [hh]) _ l (by rw [size1]; exact Nat.ne_of_lt (Nat.lt_succ_of_lt ll)) items).toS) (by rw [size1]; simp only [List.mem_cons, List.not_mem_nil, or_false, not_or]; exact ⟨Nat.ne_of_lt (Nat.lt_succ_self _), Nat.ne_of_gt ll⟩) ks hn (fun i v k hv e => hk i v k hv e) (by rw [← hn]; exact hb) ks [] _ rfl ⟨⟨_, Heap.get?_push_size _ rfl, rfl, rfl⟩, isl.push _⟩ ?_ fun s3' mv hS => ?_
      · exact SetOf_congr ((setObjOf_fresh (knd := knd) led).setOf (Heap.get?_push_of_some _ g1) (by unfold scanBound; omega)) (fun _ => by simp) rfl
      · obtain ⟨h3, g3, d3, t3, o3⟩ := s3'
        obtain rfl : g3 = s.gens := mv.gens
        obtain rfl : d3 = s.drawn := mv.drawn
        obtain rfl : o3 = s.os := mv.os
        refine wpAny_pure (wpAny_pure ⟨rfl, h3, t3, rfl, hS, fun b o z => ?_⟩)
        have lb : b < s.heap.objs.size := Heap.lt_size z
        exact mv.heap b o (by rw [size1]; simp only [List.mem_cons, List.not_mem_nil, or_false, not_or]; exact ⟨Nat.ne_of_lt lb, Nat.ne_of_lt (Nat.lt_succ_of_lt lb)⟩) (Heap.get?_push_of_some _ (Heap.get?_push_of_some _ z))
    · match r2, hr2 with
      | .error e, hr2 => exact hr2
      | .ok (.ret r), hr2 =>
        obtain ⟨rfl, h', tk, rfl, hS, kp⟩ := hr2
        repeat (any_goals (first | assumption | wp_step))
        exact q _ _ hS kp
      | .ok .next, hr2 => exact hr2.elim
      | .ok .brk, hr2 => exact hr2.elim
      | .ok .cont, hr2 => exact hr2.elim
  | .ok .next, hr => exact hr.elim
  | .ok .brk, hr => exact hr.elim
  | .ok .cont, hr => exact hr.elim
section
variable {X : Cx} {pos : Pos}
/-- len(set(e)) of a list of texts -/
def tLenSt (K : PySem.W.Frag) (ta : TE) : TE := fun σ H Q => ta σ H fun x H1 => ∃ (l : Addr) (xs : List Str), x = .ref l ∧ SqL K H1 l (xs.map V.str) ∧ xs.length ≤ 4000 ∧ Q (.int (unlike xs : Nat)) H1
theorem str_vals : ∀ {xs : List Str} {us : List Value}, Vals (xs.map V.str) us → ∀ (i : Nat) v x, us[i]? = some v → xs[i]? = some x → ∃ t, v = .str x t
  | [], _, .nil, i, v, x, h, _ => by simp at h
  | y :: xs, _, .cons r rs, 0, v, x, h, e => by
    simp at h e
    subst h e
    obtain ⟨t, rfl⟩ := r
    exact ⟨t, rfl⟩
  | y :: xs, _, .cons r rs, i + 1, v, x, h, e => str_vals rs i v x (by simpa using h) (by simpa using e)
theorem pe_lenSt {a : Expr} {ta : TE} {p p2 p3 : Pos} (hc : X.calm = true) (hg : Gl X "len") (hm : X.mg "len" = none) (hg2 : Gl X "set") (hm2 : X.mg "set" = none) (ha : PE X a ta) (na : starEach [a] X.env = (false, eval a X.env) :: starEach [] X.env) :
    PE X (.Call (.Name "len" p) [.Call (.Name "set" p2) [a] [] p3] [] pos) (tLenSt X.K ta) := by
  refine ⟨fun pins s σ H Q I h => Call_ (ld_blt I hg hm boot_len (callWith_builtin1 (args_cons (Call_ (ld_blt I hg2 hm2 boot_set (callWith_type1 (args_cons (thn (ha.run pins s σ H _ I h) fun v s1 hh => args_nil ?_) na) na rfl))) rfl) rfl rfl))⟩
  obtain ⟨x, H1, I1, r1, l, xs, rfl, hq, hz, q⟩ := hh
  cases r1
  obtain ⟨its, rv, pl, _⟩ := I1.list hq
  have hlen : xs.length = its.toArray.size := by rw [List.size_toArray, ← rv.length, List.length_map]
  refine call_setOf (knd := strKind X.prog X.w) (ks := xs) (I1.ok.hd hc) pl.isList hlen (fun i v k hv e => ?_) (by unfold scanBound; omega) fun h' tk hS kp => args_nil ?_
  · obtain ⟨t, rfl⟩ := str_vals rv i v k (by simpa using hv) e
    exact ⟨strKind_is _ _ _ _, rfl⟩
  · obtain ⟨o, es, ep, t, ho, hex, hd, _, _, _, hf, hn⟩ := hS
    have I2 : Inv X pins σ H1 { s1 with heap := h', toks := tk } := I1.kept kp
    have := unlike_le xs
    exact call_len_set ho hex hd hf (by rw [hn]; omega) ⟨.int (unlike xs : Nat), H1, I2.tok _, ⟨_, by rw [hn]⟩, q⟩
end
end MPS
end
section
set_option Elab.async false
set_option linter.all false
set_option maxRecDepth 100000
set_option maxHeartbeats 4000000
namespace MPS
open PySem PySem.Spec PyProof.Rows L2
section
variable {K : PySem.W.Frag} {F : L2.Hp} {m : List Addr}
theorem ints_at : ∀ {l : List MP.D} {ns : List Int} {vs : List V}, MP.intsOf l = some ns → Reps K F m l vs → vs = ns.map V.int
  | [], ns, vs, e, r => by cases e; exact r
  | d :: l, ns, vs, e, ⟨v, t, e1, h1, h2⟩ => by
    subst e1
    cases d <;> simp only [MP.intsOf] at e <;> try cases e
    rename_i i
    cases q : MP.intsOf l with
    | none => rw [q] at e; cases e
    | some ns' =>
      rw [q] at e
      cases e
      cases h1
      rw [ints_at q h2]; rfl
theorem strs_at : ∀ {l : List MP.D} {ns : List MP.Txt} {vs : List V}, MP.strsOf l = some ns → Reps K F m l vs → vs = ns.map (fun t => V.str (tx t)) ∧ ∀ t ∈ ns, ∀ c ∈ t, c < 1114112
  | [], ns, vs, e, r => by cases e; exact ⟨r, fun t ht => by cases ht⟩
  | d :: l, ns, vs, e, ⟨v, t, e1, h1, h2⟩ => by
    subst e1
    cases d <;> simp only [MP.strsOf] at e <;> try cases e
    rename_i i
    cases q : MP.strsOf l with
    | none => rw [q] at e; cases e
    | some ns' =>
      rw [q] at e
      cases e
      obtain ⟨h1, h3⟩ := h1
      subst h1
      obtain ⟨g1, g2⟩ := strs_at q h2
      subst g1
      refine ⟨rfl, fun t ht => ?_⟩
      rcases List.mem_cons.mp ht with e | e
      · subst e; exact h3
      · exact g2 t e
end
theorem maxI_spec : ∀ (l : List Int) (m : Int), MP.maxI m l ∈ m :: l ∧ ∀ y ∈ m :: l, y ≤ MP.maxI m l
  | [], m => by simp [MP.maxI]
  | i :: r, m => by
    unfold MP.maxI
    obtain ⟨h1, h2⟩ := maxI_spec r (if m < i then i else m)
    refine ⟨?_, fun y hy => ?_⟩
    · rcases List.mem_cons.mp h1 with e | e
      · rw [e]; split <;> simp
      · simp [e]
    · have h3 := h2 (if m < i then i else m) (by simp)
      have h4 : ∀ z ∈ r, z ≤ MP.maxI (if m < i then i else m) r := fun z hz => h2 z (by simp [hz])
      clear h1 h2
      generalize MP.maxI (if m < i then i else m) r = M at h3 h4 ⊢
      rcases List.mem_cons.mp hy with e | e
      · subst e; split at h3 <;> omega
      · rcases List.mem_cons.mp e with e | e
        · subst e; split at h3 <;> omega
        · exact h4 y e
theorem maxI_uniq {l : List Int} {m k : Int} (h1 : k ∈ m :: l) (h2 : ∀ y ∈ m :: l, y ≤ k) : k = MP.maxI m l := by
  obtain ⟨g1, g2⟩ := maxI_spec l m
  have a := h2 _ g1
  have b := g2 _ h1
  omega
section
variable {c : Ct} {pos : Pos}
theorem unlike_tx : ∀ l : List MP.Txt, unlike (l.map tx) = (MP.distinct l).length
  | [] => rfl
  | x :: r => by
    have ih := unlike_tx r
    have e : (tx x ∈ r.map tx) ↔ (r.contains x = true) := by
      rw [List.contains_iff_mem, List.mem_map]
      exact ⟨fun ⟨y, h1, h2⟩ => tx_inj h2 ▸ h1, fun h => ⟨x, h, rfl⟩⟩
    show (if tx x ∈ r.map tx then unlike (r.map tx) else unlike (r.map tx) + 1) = _
    unfold MP.distinct
    rw [ih]
    by_cases h : r.contains x = true
    · rw [if_pos h, if_pos (e.mpr h)]
    · rw [if_neg h, if_neg (fun q => h (e.mp q))]; rfl
/-- len(set(e)) -/
theorem s_setLen {x : MP.Ex} {a : Expr} {p p2 p3 : Pos} (hx : SE c x a) (hc : c.X.calm = true) (hg : Gl c.X "len") (hm : c.X.mg "len" = none) (hg2 : Gl c.X "set") (hm2 : c.X.mg "set" = none) (na : starEach [a] c.X.env = (false, eval a c.X.env) :: starEach [] c.X.env) :
    SE c (.blt .setLen [x]) (.Call (.Name "len" p) [.Call (.Name "set" p2) [a] [] p3] [] pos) := by
  intro fl ρ h σ m H F Q er S q
  refine peSem (pe_lenSt hc hg hm hg2 hm2 pe_sem na) ?_
  unfold MP.ev MP.evV at q
  refine hx fl ρ h σ m H F _ er S ?_
  cases hr : MP.ev c.G fl x ρ h with
  | err => rw [hr] at q; exact q
  | exc k h' => rw [hr] at q; exact q
  | ok v h1 =>
    rw [hr] at q
    intro m1 H1 F1 u e1 S1 r1
    have q : Post c (rV c) σ m H F Q (MP.R.ofP (MP.bltOp fl h1 .setLen [v])) := q
    obtain ⟨w, h', hw, q2⟩ := post_ofP q
    simp only [MP.bltOp, MP.bSetLen] at hw
    split at hw
    · rename_i l hl
      split at hw
      · rename_i hz
        cases hw
        cases ql : MP.lstOf h1 v with
        | none => rw [ql] at hl; cases hl
        | some l0 =>
          rw [ql] at hl
          obtain ⟨a', ws, rfl, ea, ra⟩ := lst_at S1 r1 ql
          obtain ⟨g1, _⟩ := strs_at hl ra
          subst g1
          refine ⟨a', l.map tx, rfl, ?_, by rw [List.length_map]; exact hz, ?_⟩
          · rw [List.map_map]; exact SqL.of ea
          · rw [unlike_tx]
            exact q2 m1 H1 F1 _ e1 S1 rfl
      · cases hw
    · cases hw
/-- list(range(e)) -/
theorem s_listRange {x : MP.Ex} {a : Expr} {p p2 p3 : Pos} (hx : SE c x a) (hc : c.X.calm = true) (hg : Gl c.X "list") (hm : c.X.mg "list" = none) (hg2 : Gl c.X "range") (hm2 : c.X.mg "range" = none) (na : starEach [a] c.X.env = (false, eval a c.X.env) :: starEach [] c.X.env) :
    SE c (.blt .listRange [x]) (.Call (.Name "list" p) [.Call (.Name "range" p2) [a] [] p3] [] pos) := by
  intro fl ρ h σ m H F Q er S q
  refine peSem (pe_listRg hc hg hm (prg_1 hg2 hm2 pe_sem na) rfl) ?_
  unfold MP.ev MP.evV at q
  refine hx fl ρ h σ m H F _ er S ?_
  cases hr : MP.ev c.G fl x ρ h with
  | err => rw [hr] at q; exact q
  | exc k h' => rw [hr] at q; exact q
  | ok v h1 =>
    rw [hr] at q
    intro m1 H1 F1 u e1 S1 r1
    have q : Post c (rV c) σ m H F Q (MP.R.ofP (MP.bltOp fl h1 .listRange [v])) := q
    obtain ⟨w, h', hw, q2⟩ := post_ofP q
    simp only [MP.bltOp] at hw
    unfold MP.bListRange at hw
    split at hw
    · rename_i n heq
      cases heq
      split at hw
      · rename_i hz
        cases hw
        cases r1
        refine ⟨n, rfl, ⟨by omega, by omega, by omega, by omega, by omega⟩, fun a na => ?_⟩
        have el : Reps c.X.K F1 m1 ((List.range n.toNat).map fun (i : Nat) => MP.D.int i) (rgV 0 n) := by
          unfold rgV
          rw [Int.sub_zero]
          refine Reps.of_get (by simp) fun i d v hd hv => ?_
          rw [List.getElem?_map] at hd hv
          cases qi : (List.range n.toNat)[i]? with
          | none => rw [qi] at hd; cases hd
          | some j =>
            rw [qi] at hd hv
            cases hd; cases hv
            show V.int (0 + (j : Int)) = V.int (j : Int)
            rw [Int.zero_add]
        obtain ⟨b1, b2, b3⟩ := nls_new e1 S1 el (by rw [sizeLine_eq]; simp; omega) na
        exact q2 m1 _ F1 _ b1 b2 b3
      · cases hw
    · cases hw
end
/-! ### max(e, default=d) -/
section
variable {X : Cx}
def rMaxDef (K : PySem.W.Frag) : List V → List V → L2.Hp → VK → Prop := fun xs zs H Q => ∃ (a : Addr) (ns : List Int) (k : Int), xs = [.ref a] ∧ zs = [.int k] ∧ SqL K H a (ns.map V.int) ∧ (ns = [] → Q (.int k) H) ∧ ∀ i r, ns = i :: r → Q (.int (MP.maxI i r)) H
theorem holds_ints {h : Heap} : ∀ {ns : List Int} {us : List Value}, Vals (ns.map V.int) us → PySem.W.HoldAll h us ns
  | [], _, h => by cases h; exact PySem.W.HoldAll.nil
  | n :: ns, _, .cons r rs => by
    obtain ⟨t, rfl⟩ := r
    exact PySem.W.HoldAll.cons ⟨_, .int n t⟩ (holds_ints rs)
theorem maxOf_int : ∀ (r : List Int) (i : Int), PySem.W.maxOf i r = MP.maxI i r
  | [], _ => rfl
  | j :: r, i => by
    show PySem.W.maxOf (if PySem.W.DatumOrd.lt i j = true then j else i) r = MP.maxI (if i < j then j else i) r
    rw [maxOf_int r]
    congr 1
    have : (PySem.W.DatumOrd.lt i j = true) ↔ i < j := by
      show decide (i < j) = true ↔ _
      exact decide_eq_true_iff
    by_cases q : i < j
    · rw [if_pos q, if_pos (this.mpr q)]
    · rw [if_neg q, if_neg (fun z => q (this.mp z))]
theorem cr_maxDef (hc : X.calm = true) (hu : X.A.units + 64 < cLine) : CallRK X (.builtin "max") [Str.ofString "default"] (rMaxDef X.K) := by
  intro pins s σ H xs zs us ws Q I r1 r2 h
  obtain ⟨a, ns, k, rfl, rfl, hq, q0, q1⟩ := h
  obtain ⟨its, rv, pl, _⟩ := I.list hq
  rw [Vals.ref1 r1]
  obtain ⟨d, rfl, rd⟩ := vals1 r2
  refine PySem.W.max_list_datum_default (α := Int) (I.ok.hd hc) pl.isList (holds_ints (by simpa using rv)) (by show X.A.units + 1 + 0 < cLine; omega) (fun e h' tk kp => ⟨.int k, H, I.kept kp, rd, q0 e⟩) fun y ys i v h' tk e hv hold kp => ?_
  obtain ⟨as, rd⟩ := hold
  rw [maxOf_int] at rd
  cases rd with
  | int _ t => exact ⟨.int _, H, I.kept kp, ⟨t, rfl⟩, q1 y ys e⟩
end
section
variable {c : Ct} {pos : Pos}
theorem s_maxD {x y : MP.Ex} {a d : Expr} {p kp : Pos} (hx : SE c x a) (hy : SE c y d) (hc : c.X.calm = true) (hu : c.X.A.units + 64 < cLine) (hg : Gl c.X "max") (hm : c.X.mg "max" = none) (na : starEach [a] c.X.env = (false, eval a c.X.env) :: starEach [] c.X.env) :
    SE c (.blt .maxD [x, y]) (.Call (.Name "max" p) [a] [⟨some "default", d, kp⟩] pos) := by
  intro fl ρ h σ m H F Q er S q
  refine peSem (pe_callBK (cr_maxDef hc hu) hg hm (by decide +kernel) (pa_one na) (pk_cons pe_sem pk_nil) (by decide) (by decide) (by rw [na]; rfl) (by rw [na]; rfl) rfl rfl rfl) ?_
  unfold MP.ev at q
  unfold MP.evV at q
  show WE c.X a σ H _
  refine hx fl ρ h σ m H F _ er S ?_
  cases hr : MP.ev c.G fl x ρ h with
  | err => rw [hr] at q; exact q.elim
  | exc k h' => rw [hr] at q; exact q
  | ok v h1 =>
    rw [hr] at q
    intro m1 H1 F1 u e1 S1 r1
    have er1 := er.ext e1 S.le
    simp only [MP.R.bind_ok] at q
    unfold MP.evV at q
    show WE c.X d σ H1 _
    refine hy fl ρ h1 σ m1 H1 F1 _ er1 S1 ?_
    cases hr2 : MP.ev c.G fl y ρ h1 with
    | err => rw [hr2] at q; exact q.elim
    | exc k h' =>
      rw [hr2] at q
      exact fun m2 H2 F2 e2 S2 => q m2 H2 F2 (e1.trans e2) S2
    | ok w h2 =>
      rw [hr2] at q
      intro m2 H2 F2 u2 e2 S2 r2
      have q : Post c (rV c) σ m H F Q (MP.R.ofP (MP.bltOp fl h2 .maxD [v, w])) := q
      obtain ⟨w3, h', hw, q2⟩ := post_ofP q
      simp only [MP.bltOp] at hw
      unfold MP.bMaxD at hw
      split at hw
      · rename_i v' k heq
        cases heq
        cases r2
        have r1' := r1.ext e2 S1.le
        have fin : ∀ {ns : List Int} {l : List MP.D}, MP.lstOf h2 v = some l → MP.intsOf l = some ns → ∃ a, u = .ref a ∧ SqL c.X.K H2 a (ns.map V.int) := fun {ns l} hl hn => by
          obtain ⟨a', ws, rfl, ea, ra⟩ := lst_at S2 r1' hl
          rw [← ints_at hn ra]
          exact ⟨a', rfl, SqL.of ea⟩
        cases ql : MP.lstOf h2 v with
        | none => rw [ql] at hw; cases hw
        | some l0 =>
          rw [ql] at hw
          simp only [Option.bind_some] at hw
          cases qn : MP.intsOf l0 with
          | none => rw [qn] at hw; cases hw
          | some ns =>
            rw [qn] at hw
            obtain ⟨a', rfl, hs⟩ := fin ql qn
            cases ns with
            | nil =>
              cases hw
              exact ⟨a', [], k, rfl, rfl, hs, fun _ => q2 m2 H2 F2 _ (e1.trans e2) S2 rfl, fun i r e => by cases e⟩
            | cons i r =>
              cases hw
              exact ⟨a', i :: r, k, rfl, rfl, hs, (fun e => by cases e), (fun i' r' e => by cases e; exact q2 m2 H2 F2 _ (e1.trans e2) S2 rfl)⟩
      · cases hw
end
/-! ### dict(e): a list, a tuple that tuple(..) made, of pairs -/
section
variable {X : Cx}
def rDictF (K : PySem.W.Frag) : List V → L2.Hp → VK → Prop := fun xs H Q => ∃ (a : Addr) (ps : List Addr) (kvs : List (Key × V)), xs = [.ref a] ∧ (SqL K H a (ps.map V.ref) ∨ ∃ o, H a = some (.frz o (.tup (ps.map V.ref))) ∧ o.dict = none) ∧ Paired (fun p kv => SqT K H p [kV kv.1, kv.2]) ps kvs ∧
  ∀ p, H p = none → Q (.ref p) (upd H p (.dK (L2.mergeK [] kvs)))
theorem pairs_two {pins : List (Addr × Obj)} {σ : L2.St} {H : L2.Hp} {s : Shared} (I : Inv X pins σ H s) : ∀ {ps : List Addr} {kvs : List (Key × V)}, Paired (fun p kv => SqT X.K H p [kV kv.1, kv.2]) ps kvs →
    ∃ (prs : List (Key × Value)) (qs : List (Value × Value)), KV kvs prs ∧ prs.length = ps.length ∧ qs.length = ps.length ∧ ∀ (j : Nat) (k v : Value), qs[j]? = some (k, v) → ∃ (b : Addr) (y : Key), ps[j]? = some b ∧ IsTup s.heap b #[k, v] ∧ prs[j]? = some (y, v) ∧ keyIs y k = true
  | [], _, h => by cases h; exact ⟨[], [], .nil, rfl, rfl, fun j k v e => by simp at e⟩
  | p :: ps, _, h => by
    cases h with
    | cons h1 h2 =>
      rename_i kv kvs
      obtain ⟨prs, qs, r, l1, l2, f⟩ := pairs_two I h2
      obtain ⟨its, rv, ht, _⟩ := I.tuple h1
      obtain ⟨u, y, rfl, ru, ry⟩ := vals2 rv
      refine ⟨(kv.1, y) :: prs, (u, y) :: qs, .cons ⟨rfl, ry⟩ r, by simp [l1], by simp [l2], fun j k v e => ?_⟩
      cases j with
      | zero =>
        cases e
        exact ⟨p, kv.1, rfl, ht, rfl, kV_is (P := X.prog) (w := X.w) ru⟩
      | succ j =>
        obtain ⟨b, z, f1, f2, f3, f4⟩ := f j k v (by simpa using e)
        exact ⟨b, z, by simpa using f1, f2, by simpa using f3, f4⟩
theorem call_dictF (hc : X.calm = true) : CallR X (.type "dict") (rDictF X.K) := by
  intro pins s σ H xs us Q I r h
  obtain ⟨a, ps, kvs, ex, hq, hp, q⟩ := h
  rcases hq with hq | ⟨o, hq, hd⟩
  · exact call_dictP hc pins s σ H xs us Q I r ⟨a, ps, kvs, ex, hq, hp, q⟩
  · subst ex
    rw [Vals.ref1 r]
    obtain ⟨ho, hz, its, rv, ob, ho2, hcl, n, hdat⟩ := I.hok a _ hq
    rw [ho] at ho2
    cases ho2
    have ei := refs_at rv
    subst ei
    rw [List.length_map] at hz
    obtain ⟨prs, qs, rel, l1, l2, f⟩ := pairs_two I hp
    have ok : PlainSeq "tuple" s.heap a (ps.map Value.ref).toArray ∧ PairItems s.heap (ps.map Value.ref).toArray (fun j => ps.getD j 0) qs := by
      refine ⟨⟨o, n, ho, hcl, hd, hdat⟩, by simp [l2], fun j k v e => ?_⟩
      obtain ⟨b, y, f1, f2, _⟩ := f j k v e
      refine ⟨by simp [f1], .inl ?_⟩
      have : ps.getD j 0 = b := by rw [List.getD_eq_getElem?_getD, f1]; rfl
      show s.heap.IsTuple (ps.getD j 0) #[k, v]
      rw [this]
      exact f2
    have have_ : PairsHave (mixKind X.prog X.w) qs.length (PairRel qs) prs := ⟨by rw [l1, l2], fun i k v e => by
      obtain ⟨b, y, _, _, f3, f4⟩ := f i k v e
      exact ⟨y, f3, f4⟩⟩
    refine PySem.call_dict_pairs (PairArg.tuple a _ _ qs) (I.ok.hd hc) ok have_ (by rw [l2]; exact hz) fun h' tk hd' kp => ?_
    have ns : (s.heap.objs.size == sysModules) = false := beq_eq_false_iff_ne.mpr (Nat.ne_of_gt I.big)
    have small : (L2.mergeK [] kvs).length ≤ sizeLine := by
      have e := L2.length_mergeK kvs []
      rw [List.length_nil, Nat.zero_add, rel.length, l1] at e
      exact Nat.le_trans e hz
    exact ⟨.ref s.heap.objs.size, _, I.laid (t' := tk) (fun b o e => kp b o (by simp) e) (Nat.le_refl _) (show ObjOk X.prog X.w _ _ _ (.dK (L2.mergeK [] kvs)) from ⟨small, ns, merged [] prs, KV.merge rel .nil, hd'⟩), rfl, q _ (I.hok.fresh (Nat.le_refl _))⟩
end
section
variable {c : Ct} {pos : Pos}
theorem pairs_at {m : List Addr} {F H : L2.Hp} (le : Le F H) : ∀ {l0 : List MP.D} {l : List (MP.Ky × MP.D)} {vs : List V}, MP.pairsOf l0 = some l → Reps c.X.K F m l0 vs →
    ∃ (ps : List Addr) (kvs : List (Key × V)), vs = ps.map V.ref ∧ Paired (fun p kv => SqT c.X.K H p [kV kv.1, kv.2]) ps kvs ∧ RepK c.X.K F m kyV kyOk l kvs
  | [], l, vs, e, r => by cases e; cases r; exact ⟨[], [], rfl, .nil, rfl⟩
  | d :: l0, l, vs, e, ⟨v, t, e1, h1, h2⟩ => by
    unfold MP.pairsOf at e
    split at e
    · cases (show (d :: l0 = []) by assumption)
    · rename_i k x r heq
      cases heq
      split at e
      · rename_i a b hk hb
        cases e
        obtain ⟨ps, kvs, q1, q2, q3⟩ := pairs_at le hb h2
        obtain ⟨p, ws, rfl, ⟨o, ea, _⟩, u, ws', rfl, hu, y, ws2, rfl, hy, rfl⟩ := h1
        obtain ⟨rfl, ok⟩ := ky_at (c := c) hu hk
        subst q1
        exact ⟨p :: ps, (kyV a, y) :: kvs, e1, .cons (sq_ltp (le p _ ea)) q2, y, kvs, rfl, ⟨ok, hy⟩, q3⟩
      · cases e
    · cases e
theorem RepK.merge {K : PySem.W.Frag} {F : L2.Hp} {m : List Addr} : ∀ {l : List (MP.Ky × MP.D)} {kvs : List (Key × V)} {acc : List (MP.Ky × MP.D)} {accV : List (Key × V)}, RepK K F m kyV kyOk l kvs → RepK K F m kyV kyOk acc accV → RepK K F m kyV kyOk (MP.mergeK acc l) (L2.mergeK accV kvs)
  | [], kvs, acc, accV, h, h' => by cases h; exact h'
  | (k, d) :: l, _, acc, accV, ⟨v, r, e, ⟨h0, h1⟩, h2⟩, h' => by
    subst e
    show RepK K F m kyV kyOk (MP.mergeK (MP.putK k d acc) l) (L2.mergeK (L2.putK accV (kyV k) v) r)
    exact RepK.merge h2 (RepK.put kyV_inj h0 h1 h')
theorem c_dict : BltS c .dict (rDictF c.X.K) := by
  intro fl m0 H0 F0 m h H F xs vs v h' Q e0 S r e p
  simp only [MP.bltOp] at e
  unfold MP.bDict at e
  split at e
  · rename_i w
    obtain ⟨u, rfl, r1⟩ := vs1 r
    split at e
    · rename_i l hl
      cases e
      cases qd : MP.dcOf h w with
      | none => rw [qd] at hl; cases hl
      | some l0 =>
        rw [qd] at hl
        have fin : ∀ {a : Addr} {ws : List V}, (SqL c.X.K H a ws ∨ ∃ o, H a = some (.frz o (.tup ws)) ∧ o.dict = none) → Reps c.X.K F m l0 ws → rDictF c.X.K [V.ref a] H Q := fun {a ws} ha ra => by
          obtain ⟨ps, kvs, rfl, q2, q3⟩ := pairs_at (c := c) S.le hl ra
          refine ⟨a, ps, kvs, rfl, ha, q2, fun b nb => ?_⟩
          have rk := RepK.merge q3 (acc := []) (accV := []) rfl
          refine p m _ F _ (e0.trans (Ext.new nb)) (S.new nb trivial) ⟨b, _, rfl, ?_, upd_same, ?_, fun z => S.ne z nb, rk⟩
          · exact Classical.byContradiction fun z => e0.th b z nb
          · cases qf : F b with
            | none => rfl
            | some o => have := S.le b o qf; rw [nb] at this; cases this
        have lists : MP.lstOf h w = some l0 → rDictF c.X.K [u] H Q := fun hl0 => by
          obtain ⟨a, ws, rfl, ea, ra⟩ := lst_at S r1 hl0
          exact fin (.inl (SqL.of ea)) ra
        unfold MP.dcOf at qd
        split at qd
        · cases qd
          obtain ⟨a, ws, rfl, ⟨o, ea, hd⟩, ra⟩ := r1
          exact fin (.inr ⟨o, S.le a _ ea, hd⟩) ra
        · exact lists qd
    · cases e
  · cases e
end
end MPS
end
section
set_option Elab.async false
set_option linter.all false
set_option maxRecDepth 100000
set_option maxHeartbeats 4000000
namespace MPS
open PySem PySem.Spec PyProof.Rows L2
/-! ### d.get(k, x), d a dict of the module with text keys -/
theorem pe_kget2 {X : Cx} {d : Addr} {es : Array DictEntry} {n : Nat} (D : KDict X.K X.w d es n) {o e f : Expr} {apos cpos : Pos} {td ty tx : TE} (ho : PE X o td) (he : PE X e ty) (hf : PE X f tx) (m : M2 X o "get" apos e f cpos) :
    PE X (.Call (.Attribute o "get" apos) [e, f] [] cpos) (fun σ H Q => td σ H fun x H1 => x = .ref d ∧ ty σ H1 fun y H2 => tx σ H2 fun z H3 => ∃ k r, y = .str k ∧ PySem.W.nsIn X.K d k = some r ∧ (∀ u, r = some u → ∃ v0, RelV v0 u ∧ Q v0 H3) ∧ (r = none → Q z H3)) := by
  refine ⟨fun pins s σ H Q I h => ?_⟩
  refine wpAny_Call_method m.base m.few m.line PySem.F.plainAttrs_dict PySem.F.slot_dict_get PySem.F.type_dict_get (thn (ho.run pins s σ H _ I h) fun u s1 ⟨x, H1, I1, rx, ex, q1⟩ => ?_)
  subst ex
  obtain rfl : u = Value.ref d := rx
  refine ⟨kd_type D I1, (PySem.W.mapOf_K (prog := X.prog) (w := X.w) I1.kIn D.at_ D.lit).noDict, ?_⟩
  rw [m.trees]
  refine Calls.callWith_builtin rfl (Calls.evalArgs_plain (Calls.spliced_cons (thn (he.run pins s1 σ H1 _ I1 q1) fun iv s2 ⟨y, H2, I2, ry, q2⟩ =>
    Calls.spliced_cons (thn (hf.run pins s2 σ H2 _ I2 q2) fun fv s3 ⟨z, H3, I3, rz, k, r, ey, en, q3, q4⟩ => Calls.spliced_nil ?_))))
  subst ey
  obtain ⟨t, rfl⟩ := ry
  have mo := PySem.W.mapOf_K (prog := X.prog) (w := X.w) I3.kIn D.at_ D.lit
  refine call_meetsIn PySem.F.slot_dict_get mo.typeIs PySem.F.entry_dict_get (PySem.F.args_dict_get_3 _ _ _) (meets_dict_get_default (PySem.strKind X.prog X.w) d (PySem.strKind_is X.prog X.w k t) D.low fv) ⟨_, mo, ?_⟩
  rw [PySem.W.find_K D.at_ en]
  cases r with
  | none => exact ⟨z, H3, I3.tok _, rz, q4 rfl⟩
  | some u =>
    obtain ⟨v0, r0, q⟩ := q3 u rfl
    exact ⟨v0, H3, I3.tok _, r0, q⟩
/-- what the table tells: whole numbers by texts -/
def TabIs (K : PySem.W.Frag) (d : Addr) (kvs : List (MP.Txt × Int)) : Prop := ∀ k : MP.Txt, ∃ r, PySem.W.nsIn K d (tx k) = some r ∧ (∀ i, kvs.lookup k = some i → ∃ u, r = some u ∧ RelV (.int i) u) ∧ (kvs.lookup k = none → r = none)
section
variable {c : Ct} {pos : Pos}
theorem s_tab {d : Addr} {es : Array DictEntry} {n : Nat} {kvs : List (MP.Txt × Int)} (D : KDict c.X.K c.X.w d es n) (T : TabIs c.X.K d kvs) {y z : MP.Ex} {o e f : Expr} {apos : Pos} (hx : PE c.X o (tC (.ref d))) (hy : SE c y e) (hz : SE c z f) (hM : M2 c.X o "get" apos e f pos) :
    SE c (.blt (.tab kvs) [y, z]) (.Call (.Attribute o "get" apos) [e, f] [] pos) := by
  intro fl ρ h σ m H F Q er S q
  refine peSem (pe_kget2 D hx pe_sem pe_sem hM) ?_
  refine ⟨rfl, ?_⟩
  unfold MP.ev at q
  unfold MP.evV at q
  cases hy1 : MP.ev c.G fl y ρ h with
  | err => rw [hy1] at q; exact q.elim
  | exc k h' =>
    rw [hy1] at q
    refine hy fl ρ h σ m H F _ er S ?_
    rw [hy1]
    exact q
  | ok w h2 =>
    rw [hy1] at q
    refine hy fl ρ h σ m H F _ er S ?_
    rw [hy1]
    intro m2 H2 F2 u2 e2 S2 r2
    have er2 := er.ext e2 S.le
    unfold MP.evV at q
    cases hz1 : MP.ev c.G fl z ρ h2 with
    | err =>
      simp only [MP.R.bind_ok] at q
      rw [hz1] at q; exact q.elim
    | exc k h' =>
      simp only [MP.R.bind_ok] at q
      rw [hz1] at q
      refine hz fl ρ h2 σ m2 H2 F2 _ er2 S2 ?_
      rw [hz1]
      exact fun m3 H3 F3 e3 S3 => q m3 H3 F3 (e2.trans e3) S3
    | ok w3 h3 =>
      simp only [MP.R.bind_ok] at q
      rw [hz1] at q
      refine hz fl ρ h2 σ m2 H2 F2 _ er2 S2 ?_
      rw [hz1]
      intro m3 H3 F3 u3 e3 S3 r3
      have q : Post c (rV c) σ m H F Q (MP.R.ofP (MP.bltOp fl h3 (.tab kvs) [w, w3])) := q
      obtain ⟨w4, h', hw, q2⟩ := post_ofP q
      simp only [MP.bltOp] at hw
      unfold MP.bTab at hw
      split at hw
      · rename_i k x heq
        cases heq
        cases hw
        have rk : u2 = .str (tx k) := (r2.ext e3 S2.le).1
        have rx : u3 = .int x := r3
        obtain ⟨r, n1, n2, n3⟩ := T k
        refine ⟨tx k, r, rk, n1, fun u hu => ?_, fun hn => ?_⟩
        · cases hk : kvs.lookup k with
          | none => rw [n3 hk] at hu; cases hu
          | some i =>
            obtain ⟨u', e', r'⟩ := n2 i hk
            rw [hu] at e'
            cases e'
            refine ⟨.int i, r', q2 m3 H3 F3 _ (e2.trans e3) S3 ?_⟩
            rw [hk]; rfl
        · cases hk : kvs.lookup k with
          | some i =>
            obtain ⟨u', e', r'⟩ := n2 i hk
            rw [hn] at e'
            cases e'
          | none =>
            rw [rx]
            refine q2 m3 H3 F3 _ (e2.trans e3) S3 ?_
            rw [hk]; rfl
      · cases hw
end
end MPS
end
section
set_option Elab.async false
set_option linter.all false
set_option maxRecDepth 100000
set_option maxHeartbeats 4000000
namespace MPS
open PySem PySem.Spec PyProof.Rows L2
/-! ### try .. except .. -/
/-- the context of a try's body, of a clause's suite -/
def Ct.tr (c : Ct) (pn : List (Addr × Obj)) (xe : Value → Shared → Prop) (W : WX) : Ct := { c with X := c.X.tr pn xe, W := W }
def Ct.su (c : Ct) (a : Addr) (pn : List (Addr × Obj)) : Ct := { c with X := c.X.suite a pn, W := fun _ _ _ _ => False }
/-- a clause's statement ends, or is none of ours -/
def mild : MP.RS → Prop
  | .exc _ _ _ => False
  | _ => True
/-- the clauses, one by one -/
inductive Hds (c : Ct) : List (Nat × MP.Stm) → List ExceptHandler → Prop
  | nil : Hds c [] []
  | cons {k : Nat} {s : MP.Stm} {x : Str} {st : Stmt} {np pos' : Pos} {hs : List (Nat × MP.Stm)} {hds : List ExceptHandler} (hc : Names c.X x (.ref (c.eA k))) (hm : ∀ fl ρ h, mild (MP.ex c.G fl s ρ h)) (hsu : ∀ a pn, SSs (c.su a pn) [s] [st]) (r : Hds c hs hds) :
      Hds c ((k, s) :: hs) (.ExceptHandler (some (.Name x np)) none [st] pos' :: hds)
def tsOfH (c : Ct) (st : Stmt) : Addr → Value → Option Addr → TS := fun a _ _ D σ H => ∀ pn, WSs (c.X.suite a pn) [st] D σ H
def lOf (c : Ct) : List (Nat × MP.Stm) → List ExceptHandler → List (Value × (Addr → Value → Option Addr → TS))
  | (k, _) :: hs, .ExceptHandler _ _ [st] _ :: hds => (.ref (c.eA k), tsOfH c st) :: lOf c hs hds
  | _, _ => []
theorem hds_ok {c : Ct} {hs : List (Nat × MP.Stm)} {hds : List ExceptHandler} (h : Hds c hs hds) : HdsOk c.X hds (lOf c hs hds) := by
  induction h with
  | nil => exact .nil
  | cons hc hm hsu r ih => exact .cons hc (fun a oe cls d pn _ _ => ⟨fun pins s σ H D I h => h _ pins s I⟩) ih
theorem mild_post {c : Ct} {a : Addr} {pn : List (Addr × Obj)} {m : List Addr} {H F : L2.Hp} {D : Ends} {r : MP.RS} (hm : mild r) (p : PostS c m H F D r) : PostS (c.su a pn) m H F D r := by
  cases r with
  | exc k ρ h => exact hm.elim
  | nx ρ h => exact p
  | rt v h => exact p
  | bk ρ h => exact p
  | ct ρ h => exact p
  | err => exact p
theorem many_of {c : Ct} {fl : Nat} {k' : Nat} {ρ : MP.Env} {h : MP.Hp} {σ : L2.St} {m0 m : List Addr} {H0 F0 H F : L2.Hp} {D : Ends} (e : Ext m0 H0 F0 m H F) (S : c.Sm m h H F) (er : EnvR c.X.K F m ρ σ) :
    ∀ {hs : List (Nat × MP.Stm)} {hds : List ExceptHandler}, Hds c hs hds → (∀ q ∈ hs, PySem.W.exmOne c.X.K (.ref (c.eA k')) (.ref (c.eA q.1)) = some (MP.under k' q.1)) → PostS c m0 H0 F0 D (MP.exH c.G fl hs k' ρ h) → wMany c.X.K c.W D (lOf c hs hds) (.ref (c.eA k')) none σ H := by
  intro hs hds hh
  induction hh with
  | nil =>
    intro _ p
    unfold MP.exH at p
    exact p σ m H F e S er
  | @cons k s x st np pos' hs hds hc hm hsu r ih =>
    intro hq p
    refine ⟨MP.under k' k, hq _ List.mem_cons_self, fun hb a na pn => ?_, fun hb => ?_⟩
    · unfold MP.exH at p
      rw [if_pos hb] at p
      refine hsu a pn fl ρ h σ m H F D er S ?_
      have p1 : PostS c m H F D (MP.ex c.G fl s ρ h) := PostS.shift e p
      have p2 := mild_post (a := a) (pn := pn) (hm fl ρ h) p1
      show PostS (c.su a pn) m H F D (MP.exs c.G fl [s] ρ h)
      have e1 : MP.exs c.G fl [s] ρ h = MP.ex c.G fl s ρ h := by
        rw [MP.exs]
        cases MP.ex c.G fl s ρ h <;> first | rfl | (show MP.exs c.G fl [] _ _ = _; rw [MP.exs])
      rw [e1]; exact p2
    · refine ih (fun q hq' => hq q (List.mem_cons_of_mem _ hq')) ?_
      unfold MP.exH at p
      rw [if_neg (by rw [hb]; decide)] at p
      exact p
theorem ss_tri {c : Ct} {kn : List Nat} {b : List MP.Stm} {hs : List (Nat × MP.Stm)} {body : List Stmt} {h₀ : ExceptHandler} {hds : List ExceptHandler} {pos : Pos} (hst : c.X.stack = c.X.env :: c.X.outer) (hfr : c.X.env.frame = some c.X.env.locals) (tk : Takes c.X c.W)
    (hB : ∀ pn xe W, Takes (c.X.tr pn xe) W → PassesOwn (model c.X.prog c.X.w) c.X.A c.X.env xe → SSs (c.tr pn xe W) b body) (hh : Hds c hs (h₀ :: hds))
    (hx : ∀ k' ∈ kn, ∀ q ∈ hs, PySem.W.exmOne c.X.K (.ref (c.eA k')) (.ref (c.eA q.1)) = some (MP.under k' q.1)) : SS c (.tri kn b hs) (.Try body (h₀ :: hds) [] [] pos) := by
  intro fl ρ h σ m H F D er S p
  refine psSem (ps_try_many (tb := fun W D σ H => ∀ pn xe, Takes (c.X.tr pn xe) W → PassesOwn (model c.X.prog c.X.w) c.X.A c.X.env xe → WSs (c.X.tr pn xe) body D σ H) hst hfr tk (fun W pn xe t pa => ⟨fun pins s σ H D I h => h pn xe t pa pins s I⟩) (hds_ok hh)) ?_
  intro pn xe t pa
  refine hB pn xe _ t pa fl ρ h σ m H F D er S ?_
  unfold MP.ex at p
  show PostS (c.tr pn xe _) m H F D (MP.exs c.G fl b ρ h)
  cases hr : MP.exs c.G fl b ρ h with
  | nx ρ' h' => rw [hr] at p; exact p
  | rt v h' => rw [hr] at p; exact p
  | bk ρ' h' => rw [hr] at p; exact p
  | ct ρ' h' => rw [hr] at p; exact p
  | err => rw [hr] at p; exact p
  | exc k' ρ' h' =>
    rw [hr] at p
    simp only [] at p
    split at p
    · rename_i hk
      intro σ' m' H' F' e S' er'
      exact many_of (c := c) e S' er' hh (fun q hq => hx k' (by simpa using hk) q hq) p
    · exact p.elim
end MPS
end
section
set_option Elab.async false
set_option linter.all false
set_option maxRecDepth 100000
set_option maxHeartbeats 4000000
namespace MPS
open PySem PySem.Spec PyProof.Rows L2
/-! ### shapes of the given trees -/
def nst : Expr → Bool
  | .Starred _ _ => false
  | _ => true
def nset : Expr → Bool
  | .Set _ _ _ => false
  | _ => true
def nslc : Expr → Bool
  | .Slice _ _ _ _ => false
  | _ => true
def nsup : Expr → Bool
  | .Call (.Name _ _) [] [] _ => false
  | _ => true
def ncomp : Expr → Bool
  | .ListComp _ _ _ _ => false
  | .SetComp _ _ _ _ => false
  | .DictComp _ _ _ _ _ => false
  | _ => true
/-- a tree whose test is its value's truth -/
def tform : Expr → Bool
  | .UnaryOp _ _ _ => false
  | .BoolOp _ _ _ => false
  | .IfExp _ _ _ _ => false
  | .Compare _ _ _ _ => false
  | _ => true
theorem star_at {e : Expr} (h : nst e = true) (es : List Expr) (env : Env) : starEach (e :: es) env = (false, eval e env) :: starEach es env := by
  cases e <;> first | rfl | cases h
theorem stars_no {es : List Expr} (h : es.all nst = true) (env : Env) (pos : Pos) : (backTo pos (starEach es env)).any (·.1) = false := by
  induction es with
  | nil => rfl
  | cons e es ih =>
    simp only [List.all_cons, Bool.and_eq_true] at h
    rw [star_at h.1]
    exact ih h.2
theorem stars_all {es : List Expr} (h : es.all nst = true) (env : Env) (pos : Pos) : (backTo pos (starEach es env)).all (fun x => !x.1) = true := by
  induction es with
  | nil => rfl
  | cons e es ih =>
    simp only [List.all_cons, Bool.and_eq_true] at h
    rw [star_at h.1]
    exact ih h.2
theorem few_at {es : List Expr} (h : es.all nst = true) (hl : es.length < 29) (env : Env) (pos : Pos) :
    ((backTo pos (starEach es env)).all (fun x => !x.1) && (backToKw pos (keywordEach [] env)).all (fun x => x.1.isSome) && decide (es.length + ([] : List Keyword).length + (if ([] : List Keyword).isEmpty then 0 else 1) < 30)) = true := by
  rw [stars_all h]
  have : decide (es.length + ([] : List Keyword).length + (if ([] : List Keyword).isEmpty then 0 else 1) < 30) = true := by
    simp; omega
  rw [this]; rfl
theorem base_at {o : Expr} (h : nsup o = true) (name : Str) (env : Env) : attributeBase o name env (eval o env) = eval o env := by
  unfold attributeBase
  split
  · rename_i id p pos
    cases h
  · rfl
theorem behind_at {op : CmpOp} {b : Expr} (h : nset b = true) : behindInMarks op b = false := by
  cases b <;> first | rfl | cases h
theorem last_at {o1 o2 : CmpOp} {b d : Expr} (h : nset d = true) : lastMarks [o1, o2] [b, d] = false := behind_at h
theorem plain_at {b : Expr} (h : nslc b = true) : PlainIx b := fun o i => by
  cases b <;> first | rfl | cases h
theorem true_at {a : Expr} (h : tform a = true) (env : Env) (whole : Sem Value) : isTrue a env whole = (do let v ← whole; standAt a.pos; holding [v] (truthy v)) := by
  cases a <;> first | rfl | cases h
theorem fold_at {e : Expr} (h : nset e = true) (env : Env) (x : Value) : foldedSetIterable e env x = pure x := by
  cases e <;> first | rfl | cases h
theorem swaps_at {e : Expr} (h : ncomp e = true) (t : Option Expr) (line : Nat) (env : Env) : swapsWith e t line env = pure false := by
  cases e <;> first | rfl | cases h
theorem asg_at {e : Expr} (h : nst e = true) (es : List Expr) (env : Env) : assignEach (e :: es) env = (false, assign e env) :: assignEach es env := by
  cases e <;> first | rfl | cases h
theorem asg_len : ∀ (es : List Expr) (env : Env), (assignEach es env).length = es.length
  | [], _ => rfl
  | e :: es, env => by
    cases h : nst e with
    | true => rw [asg_at h]; simp [asg_len es env]
    | false => cases e <;> first | (cases h; done) | (show ((true, _) :: assignEach es env).length = _; simp [asg_len es env])
theorem asg_none : ∀ {es : List Expr}, es.all nst = true → ∀ env : Env, (assignEach es env).findIdx? (·.1) = none
  | [], _, _ => rfl
  | e :: es, h, env => by
    simp only [List.all_cons, Bool.and_eq_true] at h
    rw [asg_at h.1, List.findIdx?_cons]
    simp [asg_none h.2 env]
/-- no tuple, no list on both sides -/
def nswap (t v : Expr) : Bool := match v with
  | .Tuple _ _ _ => (match t with
    | .Tuple _ _ _ => false
    | .List _ _ => false
    | _ => true)
  | _ => true
theorem swapped_at {t v : Expr} (h : nswap t v = true) (env : Env) : swappedStores [t] v env = pure none := by
  cases v <;> cases t <;> first | rfl | cases h
/-! ### what is known of the module -/
structure Sx where
  N : List Str
  sc : Scope
  fnB : Str → Bool
  fs : List (Nat × Str × Nat)
  cs : List (Str × MP.D)
  bl : List Str
  ex : List (Nat × Str) := []
  tb : List (Str × List (MP.Txt × Int)) := []
def Sx.blk (S : Sx) (scope : Scope) : Sx := { S with sc := relS scope S.sc, fnB := fun x => scope.names.lookup x == some .cell }
structure Gd (c : Ct) (S : Sx) : Prop where
  N : c.X.N = S.N
  nd : S.N.Nodup
  sc : c.X.env.scope = S.sc
  fn : ∀ x, S.fnB x = true → c.X.fn x = true
  calm : c.X.calm = true
  tk : Takes c.X c.W
  un : c.X.A.units + 100 < cLine
  flo : FlOk c.G
  fs : ∀ f x n, (f, x, n) ∈ S.fs → ∃ k fa fd ps, FnOk c.X.prog c.X.w c.X.K c.X.mg c.X.base (L2.CX c.X.prog c.X.w) k fa fd ps (spOf c.X.K c.cA c.fN c.eA (c.G false f) ps.length) ∧ Room k c.X.A ∧ c.X.mg x = some (.ref fa) ∧ PySem.W.keepIn c.X.K (.ref fa) = true ∧ Binds c.X.K fd ps [] ∧ ps.length = n
  cs : ∀ x d, (x, d) ∈ S.cs → ∃ u v, c.X.mg x = some u ∧ RelV v u ∧ ∀ F m, Rep c.X.K F m d v
  bl : ∀ x ∈ S.bl, c.X.mg x = none
  tb : ∀ x kvs, (x, kvs) ∈ S.tb → ∃ d es n, c.X.mg x = some (.ref d) ∧ KDict c.X.K c.X.w d es n ∧ TabIs c.X.K d kvs
theorem Gd.blk {c : Ct} {S : Sx} (g : Gd c S) (scope : Scope) (s : Shared) (H : L2.Hp) (C : Addr) (cl : List (Str × Addr)) (fp : List Addr) : Gd (c.blk s H scope cl C fp) (S.blk scope) :=
  ⟨g.N, g.nd, by
    show relabel scope c.X.env = relS scope S.sc
    rw [← g.sc]; rfl, fun x h => h, g.calm, fun u s' ⟨_, _, _, _, _, _, _, _, _, _, _, _, _, _, _, _, w⟩ => w.elim, g.un, g.flo, fun f x n h => g.fs f x n h, fun x d h => g.cs x d h, g.bl, g.tb⟩
/-! ### the checks -/
mutual
def sameD : MP.D → MP.D → Bool
  | .non, .non => true
  | .bl a, .bl b => a == b
  | .int a, .int b => a == b
  | .str a, .str b => a == b
  | .tup a, .tup b => sameDs a b
  | .lst a, .lst b => sameDs a b
  | .ctp a, .ctp b => sameDs a b
  | .ltp a, .ltp b => sameDs a b
  | _, _ => false
def sameDs : List MP.D → List MP.D → Bool
  | [], [] => true
  | a :: l, b :: r => sameD a b && sameDs l r
  | _, _ => false
end
mutual
theorem sameD_eq : ∀ {a b : MP.D}, sameD a b = true → a = b
  | .non, b, h => by cases b <;> first | rfl | (simp [sameD] at h)
  | .bl x, b, h => by cases b <;> (simp [sameD] at h); rw [h]
  | .int x, b, h => by cases b <;> (simp [sameD] at h); rw [h]
  | .str x, b, h => by cases b <;> (simp [sameD] at h); rw [h]
  | .tup x, b, h => by cases b <;> (simp [sameD] at h); rw [sameDs_eq h]
  | .lst x, b, h => by cases b <;> (simp [sameD] at h); rw [sameDs_eq h]
  | .ctp x, b, h => by cases b <;> (simp [sameD] at h); rw [sameDs_eq h]
  | .ltp x, b, h => by cases b <;> (simp [sameD] at h); rw [sameDs_eq h]
  | .ref x, b, h => by cases b <;> (simp [sameD] at h)
theorem sameDs_eq : ∀ {a b : List MP.D}, sameDs a b = true → a = b
  | [], b, h => by cases b <;> first | rfl | (simp [sameDs] at h)
  | x :: l, b, h => by
    cases b with
    | nil => simp [sameDs] at h
    | cons y r =>
      simp only [sameDs, Bool.and_eq_true] at h
      rw [sameD_eq h.1, sameDs_eq h.2]
end
def visB (sc : Scope) (x : Str) : Bool := match sc.names.lookup x with
  | some .local => true
  | some .cell => true
  | some .free => true
  | _ => false
def locB (S : Sx) (x : Str) : Bool := match S.sc.names.lookup x with
  | some .local => true
  | some .cell => S.fnB x
  | _ => false
def glB (sc : Scope) (x : Str) : Bool := match sc.names.lookup x with
  | some .globalImplicit => true
  | _ => false
def plainN (x : Str) : Bool := !(x == ("__debug__" : Str)) && !(x == ("__classdict__" : Str)) && decide (x ≠ "__name__")
def isN (S : Sx) (i : Nat) (x : Str) : Bool := match S.N[i]? with
  | some y => decide (y = x)
  | none => false
def conB : MP.D → Const → Bool
  | .non, .none => true
  | .bl a, .bool b => decide (a = b)
  | .int a, .int b => decide (a = b)
  | .str a, .str b => decide (b.cps = a.toArray) && a.all (fun c => decide (c < 1114112))
  | _, _ => false
def bopB : MP.Bop → Operator → Bool
  | .add, .Add => true
  | .sub, .Sub => true
  | .mul, .Mult => true
  | .fdv, .FloorDiv => true
  | .mod, .Mod => true
  | .pow, .Pow => true
  | _, _ => false
def copB : MP.Cop → CmpOp → Bool
  | .lt, .Lt => true
  | .le, .LtE => true
  | .gt, .Gt => true
  | .ge, .GtE => true
  | .eq, .Eq => true
  | .ne, .NotEq => true
  | .isin, .In => true
  | .notin, .NotIn => true
  | .isn, .Is => true
  | .notn, .IsNot => true
  | .isb, .Is => true
  | .notb, .IsNot => true
  | _, _ => false
/-- a name of the built-ins that the module leaves alone -/
def bltN (S : Sx) (x y : Str) : Bool := decide (x = y) && glB S.sc x && decide (x ∈ S.bl)
def tyN : MP.Ty → Str
  | .int => "int"
  | .bool => "bool"
  | .str => "str"
  | .tuple => "tuple"
  | .list => "list"
/-- built-in functions, types that are called with plain arguments -/
def fnName : MP.Blt → Option Str
  | .len => some "len"
  | .max2 => some "max"
  | .min2 => some "min"
  | .maxL => some "max"
  | _ => none
def tyName : MP.Blt → Option Str
  | .int => some "int"
  | .tuple => some "tuple"
  | .list => some "list"
  | .dict => some "dict"
  | _ => none
def mtName : MP.Blt → Option Str
  | .append => some "append"
  | .extend => some "extend"
  | .insert => some "insert"
  | .popAt => some "pop"
  | .index => some "index"
  | .join => some "join"
  | _ => none
def nameOk (S : Sx) (b : MP.Blt) (y : Str) : Bool := match fnName b, tyName b with
  | some n, _ => bltN S y n
  | none, some n => bltN S y n
  | none, none => false
/-- the arguments of a built-in's call, where its form is known -/
def bArgs (S : Sx) (b : MP.Blt) (e : Expr) : Option (List Expr) := match b with
  | .isi t => match e with
    | .Call (.Name y _) [a, .Name z _] [] _ => if bltN S y "isinstance" && bltN S z (tyN t) && nst a then some [a] else none
    | _ => none
  | .setLen => match e with
    | .Call (.Name y _) [.Call (.Name z _) [a] [] _] [] _ => if bltN S y "len" && bltN S z "set" && nst a then some [a] else none
    | _ => none
  | .listRange => match e with
    | .Call (.Name y _) [.Call (.Name z _) [a] [] _] [] _ => if bltN S y "list" && bltN S z "range" && nst a then some [a] else none
    | _ => none
  | .maxD => match e with
    | .Call (.Name y _) [a] [⟨some k, d, _⟩] _ => if bltN S y "max" && decide (k = "default") && nst a && nst d then some [a, d] else none
    | _ => none
  | .tab kvs => match e with
    | .Call (.Attribute (.Name y _) n ap) [a, d] [] q => if decide (n = "get") && glB S.sc y && plainN y && (ap.endLine == q.line) && nst a && nst d && decide ((y, kvs) ∈ S.tb) then some [a, d] else none
    | _ => none
  | b => match e with
    | .Call (.Name y _) es [] _ => if !es.isEmpty && es.all nst && nameOk S b y then some es else none
    | _ => none
def isTup : Expr → Bool
  | .Tuple _ _ _ => true
  | _ => false
def ownOf (N : List Str) (ow : List Nat) : List (Str × Nat) := ow.map fun i => ((N[i]?).getD "", i)
mutual
def cG (S : Sx) : MP.Tg → Expr → Bool
  | .v i, e => match e with
    | .Name x _ => isN S i x && locB S x
    | _ => false
  | .t ts, e => match e with
    | .Tuple es _ _ => cGs S ts es
    | _ => false
def cGs (S : Sx) : List MP.Tg → List Expr → Bool
  | [], es => match es with
    | [] => true
    | _ => false
  | t :: ts, es => match es with
    | e :: r => nst e && cG S t e && cGs S ts r
    | _ => false
end
mutual
def cE (S : Sx) : MP.Ex → Expr → Bool
  | .var i, e => match e with
    | .Name x _ => isN S i x && visB S.sc x && plainN x
    | _ => false
  | .cst d, e => match e with
    | .Constant k _ _ => conB d k
    | _ => false
  | .glb i d, e => match e with
    | .Name x _ => glB S.sc x && plainN x && (match S.cs.find? (fun p => decide (p.1 = x)) with
      | some p => decide (p.1 = x) && sameD p.2 d
      | none => false)
    | _ => false
  | .tup xs, e => match e with
    | .Tuple es _ _ => cL S xs es && decide (xs.length ≤ 1000)
    | _ => false
  | .lst xs, e => match e with
    | .List es _ => cL S xs es && decide (xs.length ≤ 1000)
    | _ => false
  | .dnew, e => match e with
    | .Dict [] [] _ => true
    | _ => false
  | .dnewT, e => match e with
    | .Dict [] [] _ => true
    | _ => false
  | .dsp _ _, _ => false
  | .bin op a b, e => match e with
    | .BinOp l o r _ => bopB op o && cE S a l && cE S b r
    | _ => false
  | .neg a, e => match e with
    | .UnaryOp .USub l _ => cE S a l
    | _ => false
  | .not a, e => match e with
    | .UnaryOp .Not l _ => cE S a l
    | _ => false
  | .and a b, e => match e with
    | .BoolOp .And (l :: r :: []) _ => cE S a l && cE S b r
    | .BoolOp .And (l :: r :: q :: t) p => cE S a l && cE S b (.BoolOp .And (r :: q :: t) p)
    | _ => false
  | .or a b, e => match e with
    | .BoolOp .Or (l :: r :: []) _ => cE S a l && cE S b r
    | .BoolOp .Or (l :: r :: q :: t) p => cE S a l && cE S b (.BoolOp .Or (r :: q :: t) p)
    | _ => false
  | .cmp op a b, e => match e with
    | .Compare l [o] [r] _ => copB op o && nset r && cE S a l && cE S b r
    | _ => false
  | .chn o1 o2 a b d, e => match e with
    | .Compare l [p1, p2] [m, r] _ => copB o1 p1 && copB o2 p2 && nset r && cE S a l && cE S b m && cE S d r
    | _ => false
  | .ife a b d, e => match e with
    | .IfExp l m r _ => cT S a l && cE S b m && cE S d r
    | _ => false
  | .sub a i, e => match e with
    | .Subscript l j _ => nslc j && cE S a l && cE S i j
    | _ => false
  | .slc a lo hi, e => match e with
    | .Subscript l (.Slice u v none _) _ => cE S a l && cO S lo u && cO S hi v
    | _ => false
  | .rev a, e => match e with
    | .Subscript l (.Slice none none (some (.UnaryOp .USub (.Constant (.int 1) _ _) _)) _) _ => cE S a l
    | _ => false
  | .call _ f xs, e => match e with
    | .Call (.Name x _) es [] _ => !es.isEmpty && es.all nst && glB S.sc x && plainN x && decide ((f, x, xs.length) ∈ S.fs) && cL S xs es
    | _ => false
  | .meth _ _ _ _ _, _ => false
  | .mk _ _ _, _ => false
  | .blt b xs, e => match bArgs S b e with
    | some as => cV S xs as
    | none => false
  | .mth b x xs, e => match e with
    | .Call (.Attribute o n ap) es [] p => nsup o && (ap.endLine == p.line) && !es.isEmpty && es.all nst && decide (es.length < 29) && cE S x o && cV S xs es && (match b with
      | .get => decide (n = "get") && decide (es.length = 2)
      | _ => match mtName b with
        | some m => decide (n = m)
        | none => false)
    | _ => false
  | .att _ _, _ => false
  | .comp ow tg it cond elt, e => match e with
    | .ListComp v [⟨t, iter, ifs, 0⟩] scope _ => blkC S.N S.sc scope (ownOf S.N ow) && cI S it t iter && cG (S.blk scope) tg t && cC (S.blk scope) cond ifs && cE (S.blk scope) elt v && (slotsT tg).all (fun i => decide (i ∈ ow)) && nset iter
    | _ => false
def cT (S : Sx) : MP.Ex → Expr → Bool
  | .not a, e => match e with
    | .UnaryOp .Not l _ => cT S a l
    | _ => false
  | .and a b, e => match e with
    | .BoolOp .And (l :: r :: []) _ => cT S a l && cT S b r
    | .BoolOp .And (l :: r :: q :: t) p => cT S a l && cT S b (.BoolOp .And (r :: q :: t) p)
    | _ => false
  | .or a b, e => match e with
    | .BoolOp .Or (l :: r :: []) _ => cT S a l && cT S b r
    | .BoolOp .Or (l :: r :: q :: t) p => cT S a l && cT S b (.BoolOp .Or (r :: q :: t) p)
    | _ => false
  | .cmp op a b, e => match e with
    | .Compare l [o] [r] _ => copB op o && nset r && cE S a l && cE S b r
    | _ => false
  | .chn o1 o2 a b d, e => match e with
    | .Compare l [p1, p2] [m, r] _ => copB o1 p1 && copB o2 p2 && nset r && cE S a l && cE S b m && cE S d r
    | _ => false
  | .var i, e => match e with
    | .Name x _ => isN S i x && visB S.sc x && plainN x
    | _ => false
  | .call pu f xs, e => tform e && (match e with
    | .Call (.Name x _) es [] _ => !es.isEmpty && es.all nst && glB S.sc x && plainN x && decide ((f, x, xs.length) ∈ S.fs) && cL S xs es
    | _ => false)
  | .blt b xs, e => tform e && (match bArgs S b e with
    | some as => cV S xs as
    | none => false)
  | .comp ow tg it cond elt, e => match e with
    | .ListComp v [⟨t, iter, ifs, 0⟩] scope _ => blkC S.N S.sc scope (ownOf S.N ow) && cI S it t iter && cG (S.blk scope) tg t && cC (S.blk scope) cond ifs && cE (S.blk scope) elt v && (slotsT tg).all (fun i => decide (i ∈ ow)) && nset iter
    | _ => false
  | _, _ => false
/-- arguments that are kept -/
def cL (S : Sx) : List MP.Ex → List Expr → Bool
  | [], es => match es with
    | [] => true
    | _ => false
  | x :: xs, es => match es with
    | e :: r => nst e && cE S x e && cL S xs r
    | _ => false
def cV (S : Sx) : List MP.Ex → List Expr → Bool
  | [], es => match es with
    | [] => true
    | _ => false
  | x :: xs, es => match es with
    | e :: r => nst e && cE S x e && cV S xs r
    | _ => false
def cO (S : Sx) : Option MP.Ex → Option Expr → Bool
  | none, e => match e with
    | none => true
    | _ => false
  | some x, e => match e with
    | some e => cE S x e
    | _ => false
def cC (S : Sx) : Option MP.Ex → List Expr → Bool
  | none, e => match e with
    | [] => true
    | _ => false
  | some x, e => match e with
    | [e] => cT S x e
    | _ => false
def cI (S : Sx) : MP.It → Expr → Expr → Bool
  | .seq x, _, e => cE S x e
  | .rng1 x, _, e => match e with
    | .Call (.Name y _) [a] [] _ => bltN S y "range" && nst a && cE S x a
    | _ => false
  | .rng2 x z, _, e => match e with
    | .Call (.Name y _) [a, b] [] _ => bltN S y "range" && nst a && nst b && cE S x a && cE S z b
    | _ => false
  | .enm x, t, e => match e with
    | .Call (.Name y _) [a] [] _ => isTup t && bltN S y "enumerate" && nst a && cE S x a
    | _ => false
  | .zip _ _, _, _ => false
end
end MPS
end
section
set_option Elab.async false
set_option linter.all false
set_option maxRecDepth 100000
set_option maxHeartbeats 4000000
namespace MPS
open PySem PySem.Spec PyProof.Rows L2
section
variable {c : Ct} {pos : Pos}
theorem c_maxL : BltS c .maxL (rMax c.X.K) := by
  intro fl m0 H0 F0 m h H F xs vs v h' Q e0 S r e p
  simp only [MP.bltOp] at e
  unfold MP.bMaxL at e
  split at e
  · rename_i w
    obtain ⟨u, rfl, r1⟩ := vs1 r
    split at e
    · rename_i i rr hi
      cases e
      cases q : MP.lstOf h w with
      | none => rw [q] at hi; cases hi
      | some l =>
        rw [q] at hi
        obtain ⟨a, ws, rfl, ea, ra⟩ := lst_at S r1 q
        have := ints_at hi ra
        subst this
        refine ⟨a, i :: rr, rfl, SqL.of ea, by simp, fun k h1 h2 => ?_⟩
        rw [maxI_uniq h1 h2]
        exact p m H F _ e0 S rfl
    · cases e
  · cases e
theorem tx_join (s : MP.Txt) : ∀ l : List MP.Txt, Str.join (tx s) (l.map tx) = tx (MP.joinT s l)
  | [] => rfl
  | [x] => rfl
  | x :: y :: r => by
    show tx x ++ tx s ++ Str.join (tx s) ((y :: r).map tx) = tx (x ++ s ++ MP.joinT s (y :: r))
    rw [tx_join s (y :: r)]
    show (⟨(x.toArray ++ s.toArray) ++ (MP.joinT s (y :: r)).toArray⟩ : Str) = _
    simp [tx]
theorem join_ok {s : MP.Txt} {l : List MP.Txt} (h1 : ∀ c ∈ s, c < 1114112) (h2 : ∀ t ∈ l, ∀ c ∈ t, c < 1114112) : ∀ c ∈ MP.joinT s l, c < 1114112 := by
  induction l with
  | nil => intro c hc; cases hc
  | cons x r ih =>
    cases r with
    | nil => exact h2 x (by simp)
    | cons y r =>
      intro c hc
      simp only [MP.joinT, List.mem_append] at hc
      rcases hc with (hc | hc) | hc
      · exact h2 x (by simp) c hc
      · exact h1 c hc
      · exact ih (fun t ht => h2 t (by simp [ht])) c hc
theorem m_join : MthS c .join (fun x xs H Q => ∃ a p, ∃ ys : List Str, x = .str a ∧ xs = [.ref p] ∧ (SqL c.X.K H p (ys.map V.str) ∨ SqT c.X.K H p (ys.map V.str)) ∧
    (ys.map (·.length)).sum + ys.length * a.length ≤ 16777216 ∧ Q (.str (Txt.join a ys)) H) := by
  intro fl m0 H0 F0 m h H F x xs v vs w h' Q e0 S rx rs e p
  simp only [MP.bltOp] at e
  unfold MP.bJoin at e
  split at e
  · rename_i s v2 heq
    cases heq
    obtain ⟨rfl, hs⟩ := rx
    obtain ⟨u, rfl, r1⟩ := vs1 rs
    split at e
    · rename_i l hl
      split at e
      · rename_i hz
        cases e
        cases q : MP.seqOf h v2 with
        | none => rw [q] at hl; cases hl
        | some l0 =>
          rw [q] at hl
          obtain ⟨a, ws, rfl, ea, ra⟩ := seq_at S r1 q
          obtain ⟨g1, g2⟩ := strs_at hl ra
          subst g1
          have em : l.map (fun t => V.str (tx t)) = (l.map tx).map V.str := by rw [List.map_map]; rfl
          refine ⟨tx s, a, l.map tx, rfl, rfl, ?_, ?_, ?_⟩
          · rw [← em]
            exact ea
          · have e1 : ((l.map tx).map fun s : Str => s.length) = l.map List.length := by
              rw [List.map_map]
              exact List.map_congr_left fun t _ => by show t.toArray.size = t.length; simp
            have e2 : (tx s).length = s.length := by show s.toArray.size = s.length; simp
            rw [e1, e2, List.length_map]; exact hz
          · show Q (.str (Txt.join (tx s) (l.map tx))) H
            have e3 : Txt.join (tx s) (l.map tx) = tx (MP.joinT s l) := by
              rw [← tx_join]
              exact StrLaws.glued_eq_join _ _
            rw [e3]
            exact p m H F _ e0 S ⟨rfl, join_ok hs g2⟩
      · cases e
    · cases e
  · cases e
end
/-! ### the checks are sound -/
section
variable {c : Ct} {S : Sx}
theorem isN_ok (g : Gd c S) {i : Nat} {x : Str} (h : isN S i x = true) : c.X.N[i]? = some x := by
  unfold isN at h
  rw [g.N]
  split at h
  · rename_i y hy
    rw [hy, of_decide_eq_true h]
  · cases h
theorem vis_ok (g : Gd c S) {x : Str} (h : visB S.sc x = true) : Vis c.X.env.scope x := by
  unfold visB at h
  unfold Vis
  rw [g.sc]
  split at h
  · rename_i e; exact .inl e
  · rename_i e; exact .inr (.inl e)
  · rename_i e; exact .inr (.inr e)
  · cases h
theorem loc_ok (g : Gd c S) {x : Str} (h : locB S x = true) : Loc c.X.env.scope x ∧ (c.X.fn x = true ∨ c.X.env.scope.names.lookup x = some .local) := by
  unfold locB at h
  unfold L2.Loc
  rw [g.sc]
  split at h
  · rename_i e; exact ⟨.inl e, .inr e⟩
  · rename_i e; exact ⟨.inr e, .inl (g.fn x h)⟩
  · cases h
theorem gl_ok (g : Gd c S) {x : Str} (h : glB S.sc x = true) : Gl c.X x := by
  unfold glB at h
  unfold Gl Env.kindOf
  rw [g.sc]
  split at h
  · assumption
  · cases h
theorem plain_ok {x : Str} (h : plainN x = true) : (x == ("__debug__" : Str)) = false ∧ (x == ("__classdict__" : Str)) = false ∧ x ≠ "__name__" := by
  unfold plainN at h
  simp only [Bool.and_eq_true, Bool.not_eq_true', decide_eq_true_eq] at h
  exact ⟨h.1.1, h.1.2, h.2⟩
theorem blt_ok (g : Gd c S) {x y : Str} (h : bltN S x y = true) : x = y ∧ Gl c.X y ∧ c.X.mg y = none := by
  unfold bltN at h
  simp only [Bool.and_eq_true, decide_eq_true_eq] at h
  obtain ⟨⟨rfl, h2⟩, h3⟩ := h
  exact ⟨rfl, gl_ok g h2, g.bl _ h3⟩
theorem con_ok {d : MP.D} {k : Const} {j : Nat} {pos : Pos} (h : conB d k = true) : SE c (.cst d) (.Constant k j pos) := by
  cases d <;> cases k <;> simp only [conB, Bool.false_eq_true] at h
  · exact s_cst pe_non fun F m => rfl
  · cases of_decide_eq_true h; exact s_cst pe_bl fun F m => rfl
  · cases of_decide_eq_true h; exact s_cst pe_int fun F m => rfl
  · rename_i a b
    simp only [Bool.and_eq_true, decide_eq_true_eq, List.all_eq_true] at h
    obtain ⟨h1, h2⟩ := h
    have : b = tx a := by cases b; cases h1; rfl
    subst this
    exact s_cst pe_str fun F m => ⟨rfl, h2⟩
theorem bop_ok {op : MP.Bop} {o : Operator} (h : bopB op o = true) : BinS c op (binaryOp o) := by
  cases op <;> cases o <;> simp only [bopB, Bool.false_eq_true] at h
  · exact b_add
  · exact b_sub
  · exact b_mul
  · exact b_fdv
  · exact b_mod
  · exact b_pow
theorem cop_ok (g : Gd c S) {op : MP.Cop} {o : CmpOp} (h : copB op o = true) : CmpS c op (compareOp o) := by
  have u := g.un
  cases op <;> cases o <;> simp only [copB, Bool.false_eq_true] at h
  · exact k_lt
  · exact k_le
  · exact k_gt
  · exact k_ge
  · exact k_eq (by omega)
  · exact k_ne (by omega)
  · exact k_in (by omega)
  · exact k_notin (by omega)
  · exact k_isn
  · exact k_notn
  · exact k_isb
  · exact k_notb
theorem c_int : BltS c .int (fun xs H Q => (∃ i, xs = [.int i] ∧ Q (.int i) H) ∨ ∃ k, xs = [.bl k] ∧ Q (.int (if k then 1 else 0)) H) := by
  intro fl m0 H0 F0 m h H F xs vs w h' Q e0 S rxs e p
  simp only [MP.bltOp] at e
  unfold MP.bInt at e
  split at e
  · cases e
    obtain ⟨u, rfl, rfl⟩ := vs1 rxs
    exact .inl ⟨_, rfl, p m H F _ e0 S rfl⟩
  · cases e
    obtain ⟨u, rfl, rfl⟩ := vs1 rxs
    exact .inr ⟨_, rfl, p m H F _ e0 S rfl⟩
  · cases e
/-- a built-in function by its name -/
theorem fn_rule (g : Gd c S) {b : MP.Blt} {n : Str} (h : fnName b = some n) : ∃ id r, BltS c b r ∧ CallR c.X (.builtin id) r ∧ bootBuiltins n = some (.builtin id) ∧ n ≠ "__name__" ∧ (n == ("__debug__" : Str)) = false := by
  cases b <;> simp only [fnName] at h <;> cases h
  · exact ⟨_, _, c_len, CallR.or call_len_seq (CallR.or call_len_str call_lenD), by decide +kernel, by decide, by decide⟩
  · exact ⟨_, _, c_max2, call_max2 g.calm, by decide +kernel, by decide, by decide⟩
  · exact ⟨_, _, c_min2, call_min2 g.calm, by decide +kernel, by decide, by decide⟩
  · exact ⟨_, _, c_maxL, cr_max g.calm, by decide +kernel, by decide, by decide⟩
theorem ty_rule (g : Gd c S) {b : MP.Blt} {n : Str} (h : tyName b = some n) : ∃ id r, BltS c b r ∧ CallR c.X (.type id) r ∧ bootBuiltins n = some (.type id) ∧ n ≠ "__name__" ∧ (n == ("__debug__" : Str)) = false := by
  cases b <;> simp only [tyName] at h <;> cases h
  · exact ⟨_, _, c_tuple, call_tupF, by decide +kernel, by decide, by decide⟩
  · exact ⟨_, _, c_list, CallR.or call_list_of (call_list_dK g.calm), by decide +kernel, by decide, by decide⟩
  · exact ⟨_, _, c_dict, call_dictF g.calm, by decide +kernel, by decide, by decide⟩
  · exact ⟨_, _, c_int, call_int1, by decide +kernel, by decide, by decide⟩
theorem mt_rule (g : Gd c S) {b : MP.Blt} {n : Str} (h : mtName b = some n) : ∃ T id r, MthS c b r ∧ RcvS c b T ∧ PlainAttrs T ∧ Slot T n id ∧ typeOf (.builtin id) = pure (.type "method_descriptor") ∧ MtR c.X id r := by
  cases b <;> simp only [mtName] at h <;> cases h
  · exact ⟨_, _, _, m_append, rcv_list fun h x e => e, F.plainAttrs_list, F.slot_list_append, F.type_list_append, mt_append⟩
  · exact ⟨_, _, _, m_extend, rcv_list fun h x e => e, F.plainAttrs_list, F.slot_list_extend, F.type_list_extend, mt_extend⟩
  · exact ⟨_, _, _, m_insert, rcv_list fun h x e => e, F.plainAttrs_list, F.slot_list_insert, F.type_list_insert, mt_insert⟩
  · exact ⟨_, _, _, m_popAt, rcv_list fun h x e => e, F.plainAttrs_list, F.slot_list_pop, F.type_list_pop, mt_popAt⟩
  · exact ⟨_, _, _, m_index, rcv_list fun h x e => e, F.plainAttrs_list, F.slot_list_index, F.type_list_index, mt_index⟩
  · refine ⟨_, _, _, m_join, rcv_str fun h x e => ?_, F.plainAttrs_str, F.slot_str_join, F.type_str_join, mt_join⟩
    cases x with
    | d y => cases y <;> first | exact ⟨_, rfl⟩ | (simp [MP.rcv] at e)
    | _ => simp [MP.rcv] at e
end
end MPS
end
section
set_option Elab.async false
set_option linter.all false
set_option maxRecDepth 100000
set_option maxHeartbeats 4000000
namespace MPS
open PySem PySem.Spec PyProof.Rows L2
mutual
theorem G_ok : ∀ (t : MP.Tg) {c : Ct} {S : Sx} (g : Gd c S) {e : Expr}, cG S t e = true → SG c t e
  | .v i, c, S, g, e, h => by
    unfold cG at h
    split at h
    · simp only [Bool.and_eq_true] at h
      obtain ⟨h1, h2⟩ := loc_ok g h.2
      exact g_name (by rw [g.N]; exact g.nd) (isN_ok g h.1) h1 h2
    · cases h
  | .t ts, c, S, g, e, h => by
    unfold cG at h
    split at h
    · obtain ⟨h1, h2, h3⟩ := Gs_ok ts g h
      exact g_tup g.calm h1 (by rw [asg_len, h2]) (asg_none h3 _)
    · cases h
theorem Gs_ok : ∀ (ts : List MP.Tg) {c : Ct} {S : Sx} (g : Gd c S) {es : List Expr}, cGs S ts es = true → SGs c ts es ∧ es.length = ts.length ∧ es.all nst = true
  | [], c, S, g, es, h => by
    unfold cGs at h
    split at h
    · exact ⟨gs_nil, rfl, rfl⟩
    · cases h
  | t :: ts, c, S, g, es, h => by
    unfold cGs at h
    split at h
    · simp only [Bool.and_eq_true] at h
      obtain ⟨h1, h2, h3⟩ := Gs_ok ts g h.2
      refine ⟨gs_cons (G_ok t g h.1.2) h1 ?_, by simp [h2], by simp only [List.all_cons, Bool.and_eq_true]; exact ⟨h.1.1, h3⟩⟩
      rw [asg_at h.1.1]; rfl
    · cases h
end
theorem tyN_ok (t : MP.Ty) : bootBuiltins (tyN t) = some (.type (tyS t)) ∧ tyN t ≠ "__name__" ∧ (tyN t == ("__debug__" : Str)) = false := by
  cases t <;> exact ⟨by decide +kernel, by decide, by decide⟩
theorem evT_var {G : MP.Fns} {i : Nat} (fl : Nat) (ρ : MP.Env) (h : MP.Hp) : MP.evT G fl (.var i) ρ h = (MP.ev G fl (.var i) ρ h).bind fun v h => match MP.truth h v with | some b => .ok b h | none => .err := by
  unfold MP.evT MP.ev
  split
  · rename_i d hd
    simp only [MP.R.bind_ok]
    all_goals (cases MP.truth h (.d d) <;> rfl)
  all_goals rfl
theorem evT_call {G : MP.Fns} {pu : Bool} {f : Nat} {es : List MP.Ex} (fl : Nat) (ρ : MP.Env) (h : MP.Hp) : MP.evT G fl (.call pu f es) ρ h = (MP.ev G fl (.call pu f es) ρ h).bind fun v h => match MP.truth h v with | some b => .ok b h | none => .err := by
  unfold MP.evT MP.ev
  cases MP.evL G fl es ρ h <;> rfl
theorem evT_blt {G : MP.Fns} {b : MP.Blt} {es : List MP.Ex} (fl : Nat) (ρ : MP.Env) (h : MP.Hp) : MP.evT G fl (.blt b es) ρ h = (MP.ev G fl (.blt b es) ρ h).bind fun v h => match MP.truth h v with | some b => .ok b h | none => .err := by
  unfold MP.evT MP.ev
  cases MP.evV G fl es ρ h <;> rfl
theorem evT_comp {G : MP.Fns} {ow : List Nat} {tg : MP.Tg} {it : MP.It} {cond : Option MP.Ex} {elt : MP.Ex} (fl : Nat) (ρ : MP.Env) (h : MP.Hp) : MP.evT G fl (.comp ow tg it cond elt) ρ h = (MP.ev G fl (.comp ow tg it cond elt) ρ h).bind fun v h => match MP.truth h v with | some b => .ok b h | none => .err := by
  have e1 : MP.evT G fl (.comp ow tg it cond elt) ρ h = (MP.evI G fl it ρ h).bind fun s h => (MP.compGo (stepC G fl tg cond elt (MP.wipe ρ ow)) s h).bind fun l h => .ok (!l.isEmpty) h := by
    unfold MP.evT
    rfl
  have e2 : MP.ev G fl (.comp ow tg it cond elt) ρ h = (MP.evI G fl it ρ h).bind fun s h => (MP.compGo (stepC G fl tg cond elt (MP.wipe ρ ow)) s h).bind fun l h => .ok (.nls l) h := by
    conv => lhs; unfold MP.ev
    rfl
  rw [e1, e2]
  cases MP.evI G fl it ρ h with
  | err => rfl
  | exc _ _ => rfl
  | ok s h1 =>
    simp only [MP.R.bind_ok]
    generalize MP.compGo _ s h1 = r
    cases r <;> rfl
theorem own_map (N : List Str) (ow : List Nat) : (ownOf N ow).map (·.2) = ow := by
  unfold ownOf
  rw [List.map_map]
  exact List.map_id _
theorem comp_all {c : Ct} {S : Sx} (g : Gd c S) {ow : List Nat} {scope : Scope} {t : MP.Tg} {tg iter : Expr} {it : MP.It} {cond : Option MP.Ex} {ifs : List Expr} {elt : MP.Ex} {e : Expr} {pos : Pos} (h1 : blkC S.N S.sc scope (ownOf S.N ow) = true) (hi : SI c it tg iter)
    (hG : ∀ s H C cl fp, SG (c.blk s H scope cl C fp) t tg) (hT : SC c scope cond ifs) (hE : ∀ s H C cl fp, SE (c.blk s H scope cl C fp) elt e) (h6 : (slotsT t).all (fun i => decide (i ∈ ow)) = true) (h7 : nset iter = true) :
    SE c (.comp ow t it cond elt) (.ListComp e [⟨tg, iter, ifs, 0⟩] scope pos) ∧
    ∀ fl ρ h σ m H F Q, EnvR c.X.K F m ρ σ → c.Sm m h H F → Post c (rV c) σ m H F Q (MP.ev c.G fl (.comp ow t it cond elt) ρ h) → tLc (WI c.X tg iter) (gC c scope tg) (tC2 c scope ifs) (eC c scope e) ow σ H Q :=
  s_comp (own_map S.N ow) g.calm (by rw [g.N]; exact g.nd) hi (by rw [g.N, g.sc]; exact blkOk_by h1) hG hT hE (fun i hi => by simpa using List.all_eq_true.mp h6 i hi) (fun x => fold_at h7 _ x)
/-- one by one -/
def AllSE (c : Ct) : List MP.Ex → List Expr → Prop
  | [], es => es = []
  | x :: xs, es => ∃ e r, es = e :: r ∧ nst e = true ∧ SE c x e ∧ AllSE c xs r
theorem sv_of {c : Ct} : ∀ {xs : List MP.Ex} {es : List Expr}, AllSE c xs es → SV c xs es
  | [], es, h => by cases h; exact v_nil
  | x :: xs, es, ⟨e, r, e1, h1, h2, h3⟩ => by subst e1; exact v_cons h2 (sv_of h3) (star_at h1 _ _)
theorem all1 {c : Ct} {xs : List MP.Ex} {a : Expr} (h : AllSE c xs [a]) : ∃ x, xs = [x] ∧ SE c x a := by
  match xs, h with
  | [], h => cases h
  | [x], ⟨e, r, e1, h1, h2, h3⟩ => cases e1; exact ⟨x, rfl, h2⟩
  | x :: y :: xs, ⟨e, r, e1, h1, h2, ⟨e', r', e2, _⟩⟩ => cases e1; cases e2
theorem all2 {c : Ct} {xs : List MP.Ex} {a b : Expr} (h : AllSE c xs [a, b]) : ∃ x y, xs = [x, y] ∧ SE c x a ∧ SE c y b ∧ nst a = true ∧ nst b = true := by
  match xs, h with
  | [], h => cases h
  | x :: xs, ⟨e, r, e1, h1, h2, h3⟩ =>
    cases e1
    obtain ⟨y, rfl, h4⟩ := all1 h3
    obtain ⟨e', r', e2, h5, _⟩ := h3
    cases e2
    exact ⟨x, y, rfl, h2, h4, h1, h5⟩
theorem blt_all {c : Ct} {S : Sx} (g : Gd c S) {b : MP.Blt} {xs : List MP.Ex} {e : Expr} {as : List Expr} (h : bArgs S b e = some as) (hv : AllSE c xs as) : SE c (.blt b xs) e := by
  have u := g.un
  unfold bArgs at h
  split at h
  · split at h
    · split at h
      · rename_i hb
        cases h
        simp only [Bool.and_eq_true] at hb
        obtain ⟨⟨h1, h2⟩, h3⟩ := hb
        obtain ⟨rfl, g1, m1⟩ := blt_ok g h1
        obtain ⟨rfl, g2, m2⟩ := blt_ok g h2
        obtain ⟨t1, t2, t3⟩ := tyN_ok _
        obtain ⟨x, rfl, hx⟩ := all1 hv
        exact s_isi hx g1 m1 g2 m2 t1 t2 t3 (star_at h3 _ _)
      · cases h
    · cases h
  · split at h
    · split at h
      · rename_i hb
        cases h
        simp only [Bool.and_eq_true] at hb
        obtain ⟨⟨h1, h2⟩, h3⟩ := hb
        obtain ⟨rfl, g1, m1⟩ := blt_ok g h1
        obtain ⟨rfl, g2, m2⟩ := blt_ok g h2
        obtain ⟨x, rfl, hx⟩ := all1 hv
        exact s_setLen hx g.calm g1 m1 g2 m2 (star_at h3 _ _)
      · cases h
    · cases h
  · split at h
    · split at h
      · rename_i hb
        cases h
        simp only [Bool.and_eq_true] at hb
        obtain ⟨⟨h1, h2⟩, h3⟩ := hb
        obtain ⟨rfl, g1, m1⟩ := blt_ok g h1
        obtain ⟨rfl, g2, m2⟩ := blt_ok g h2
        obtain ⟨x, rfl, hx⟩ := all1 hv
        exact s_listRange hx g.calm g1 m1 g2 m2 (star_at h3 _ _)
      · cases h
    · cases h
  · split at h
    · split at h
      · rename_i hb
        cases h
        simp only [Bool.and_eq_true, decide_eq_true_eq] at hb
        obtain ⟨⟨⟨h1, h2⟩, h3⟩, h4⟩ := hb
        obtain ⟨rfl, g1, m1⟩ := blt_ok g h1
        subst h2
        obtain ⟨x, y, rfl, hx, hy, _, _⟩ := all2 hv
        exact s_maxD hx hy g.calm (by omega) g1 m1 (star_at h3 _ _)
      · cases h
    · cases h
  · split at h
    · split at h
      · rename_i hb
        cases h
        simp only [Bool.and_eq_true, decide_eq_true_eq] at hb
        obtain ⟨⟨⟨⟨⟨⟨h1, h2⟩, h3⟩, h4⟩, h5⟩, h6⟩, h7⟩ := hb
        subst h1
        obtain ⟨x, y, rfl, hx, hy, _, _⟩ := all2 hv
        obtain ⟨d, es, n, t1, t2, t3⟩ := g.tb _ _ h7
        refine s_tab t2 t3 (pe_glob (gl_ok g h2) t1 rfl (plain_ok h3).1) hx hy ⟨base_at rfl _ _, few_at (by simp [h5, h6]) (by simp) _ _, h4, ?_⟩
        rw [star_at h5, star_at h6]; rfl
      · cases h
    · cases h
  · split at h
    · rename_i y p es pos
      split at h
      · rename_i hb
        cases h
        simp only [Bool.and_eq_true] at hb
        obtain ⟨⟨h1, h2⟩, h3⟩ := hb
        cases as with
        | nil => cases h1
        | cons a as =>
          simp only [List.all_cons, Bool.and_eq_true] at h2
          unfold nameOk at h3
          split at h3
          · rename_i n _ hn
            obtain ⟨id, r, r1, r2, r3, r4, r5⟩ := fn_rule g hn
            obtain ⟨rfl, g1, m1⟩ := blt_ok g h3
            exact s_callB r1 r2 g1 m1 r3 (sv_of hv) r4 r5 (star_at h2.1 _ _) (stars_no h2.2 _ _)
          · rename_i n hn hn2
            obtain ⟨id, r, r1, r2, r3, r4, r5⟩ := ty_rule g hn2
            obtain ⟨rfl, g1, m1⟩ := blt_ok g h3
            exact s_callTy r1 r2 g1 m1 r3 (sv_of hv) r4 r5 (star_at h2.1 _ _) (stars_no h2.2 _ _)
          · cases h3
      · cases h
    · cases h
mutual
theorem E_ok : ∀ (x : MP.Ex) {c : Ct} {S : Sx} (g : Gd c S) {e : Expr}, cE S x e = true → SE c x e
  | .var i, c, S, g, e, h => by
    unfold cE at h
    split at h
    · simp only [Bool.and_eq_true] at h
      exact s_var (isN_ok g h.1.1) (vis_ok g h.1.2) (plain_ok h.2).1 (plain_ok h.2).2.1
    · cases h
  | .cst d, c, S, g, e, h => by
    unfold cE at h
    split at h
    · exact con_ok h
    · cases h
  | .glb i d, c, S, g, e, h => by
    unfold cE at h
    split at h
    · simp only [Bool.and_eq_true] at h
      obtain ⟨⟨h1, h2⟩, h3⟩ := h
      split at h3
      · rename_i p hp
        simp only [Bool.and_eq_true, decide_eq_true_eq] at h3
        obtain ⟨rfl, h4⟩ := h3
        have := sameD_eq h4
        subst this
        obtain ⟨u, v, e1, e2, e3⟩ := g.cs _ _ (List.mem_of_find?_eq_some hp)
        exact s_glb (pe_glob (gl_ok g h1) e1 e2 (plain_ok h2).1) e3
      · cases h3
    · cases h
  | .tup xs, c, S, g, e, h => by
    unfold cE at h
    split at h
    · simp only [Bool.and_eq_true, decide_eq_true_eq] at h
      exact s_tup (L_ok xs g h.1) h.2
    · cases h
  | .lst xs, c, S, g, e, h => by
    unfold cE at h
    split at h
    · simp only [Bool.and_eq_true, decide_eq_true_eq] at h
      exact s_lst (L_ok xs g h.1) h.2
    · cases h
  | .dnew, c, S, g, e, h => by
    unfold cE at h
    split at h
    · exact s_dnew
    · cases h
  | .dnewT, c, S, g, e, h => by
    unfold cE at h
    split at h
    · exact s_dnewT
    · cases h
  | .dsp _ _, c, S, g, e, h => by
    unfold cE at h
    cases h
  | .bin op a b, c, S, g, e, h => by
    unfold cE at h
    split at h
    · simp only [Bool.and_eq_true] at h
      exact s_bin (bop_ok h.1.1) (E_ok a g h.1.2) (E_ok b g h.2)
    · cases h
  | .neg a, c, S, g, e, h => by
    unfold cE at h
    split at h
    · exact s_neg (E_ok a g h)
    · cases h
  | .not a, c, S, g, e, h => by
    unfold cE at h
    split at h
    · exact s_not (E_ok a g h)
    · cases h
  | .and a b, c, S, g, e, h => by
    unfold cE at h
    split at h
    · simp only [Bool.and_eq_true] at h
      exact s_and (E_ok a g h.1) (s_one (E_ok b g h.2))
    · simp only [Bool.and_eq_true] at h
      exact s_and (E_ok a g h.1) (E_ok b g h.2)
    · cases h
  | .or a b, c, S, g, e, h => by
    unfold cE at h
    split at h
    · simp only [Bool.and_eq_true] at h
      exact s_or (E_ok a g h.1) (s_one (E_ok b g h.2))
    · simp only [Bool.and_eq_true] at h
      exact s_or (E_ok a g h.1) (E_ok b g h.2)
    · cases h
  | .cmp op a b, c, S, g, e, h => by
    unfold cE at h
    split at h
    · simp only [Bool.and_eq_true] at h
      exact s_cmp (behind_at h.1.1.2) (cop_ok g h.1.1.1) (E_ok a g h.1.2) (E_ok b g h.2)
    · cases h
  | .chn o1 o2 a b d, c, S, g, e, h => by
    unfold cE at h
    split at h
    · simp only [Bool.and_eq_true] at h
      exact s_chn (last_at h.1.1.1.2) (cop_ok g h.1.1.1.1.1) (cop_ok g h.1.1.1.1.2) (E_ok a g h.1.1.2) (E_ok b g h.1.2) (E_ok d g h.2)
    · cases h
  | .ife a b d, c, S, g, e, h => by
    unfold cE at h
    split at h
    · simp only [Bool.and_eq_true] at h
      exact s_ife (T_ok a g h.1.1).1 (E_ok b g h.1.2) (E_ok d g h.2)
    · cases h
  | .sub a i, c, S, g, e, h => by
    unfold cE at h
    split at h
    · simp only [Bool.and_eq_true] at h
      have u := g.un
      exact s_sub (by omega) (plain_at h.1.1) (E_ok a g h.1.2) (E_ok i g h.2)
    · cases h
  | .slc a lo hi, c, S, g, e, h => by
    unfold cE at h
    split at h
    · simp only [Bool.and_eq_true] at h
      exact s_slc (E_ok a g h.1.1) (O_ok lo g h.1.2) (O_ok hi g h.2)
    · cases h
  | .rev a, c, S, g, e, h => by
    unfold cE at h
    split at h
    · exact s_rev (E_ok a g h)
    · cases h
  | .call pu f xs, c, S, g, e, h => by
    unfold cE at h
    split at h
    · rename_i x p es pos
      simp only [Bool.and_eq_true, decide_eq_true_eq] at h
      obtain ⟨⟨⟨⟨⟨h1, h2⟩, h3⟩, h4⟩, h5⟩, h6⟩ := h
      cases es with
      | nil => cases h1
      | cons a as =>
        simp only [List.all_cons, Bool.and_eq_true] at h2
        obtain ⟨k, fa, fd, ps, F, hr, hm, hk, hb, hl⟩ := g.fs _ _ _ h5
        exact s_call g.flo g.tk F hr (gl_ok g h3) hm hk hb (L_ok xs g h6) hl.symm (plain_ok h4).1 (star_at h2.1 _ _) (stars_no h2.2 _ _)
    · cases h
  | .meth _ _ _ _ _, c, S, g, e, h => by
    unfold cE at h
    cases h
  | .mk _ _ _, c, S, g, e, h => by
    unfold cE at h
    cases h
  | .blt b xs, c, S, g, e, h => by
    unfold cE at h
    split at h
    · rename_i as ha
      exact blt_all g ha (V_ok xs g h)
    · cases h
  | .mth b x xs, c, S, g, e, h => by
    unfold cE at h
    split at h
    · rename_i o n ap es p
      simp only [Bool.and_eq_true, decide_eq_true_eq] at h
      obtain ⟨⟨⟨⟨⟨⟨⟨h1, h2⟩, h3⟩, h4⟩, h5⟩, h6⟩, h7⟩, h8⟩ := h
      have u := g.un
      split at h8
      · simp only [Bool.and_eq_true, decide_eq_true_eq] at h8
        obtain ⟨rfl, h9⟩ := h8
        have hx := E_ok x g h6
        have hv := V_ok xs g h7
        match es, h9, h4, h5, hv with
        | [a, b], _, h4, h5, hv =>
          obtain ⟨y, z, rfl, hy, hz, n1, n2⟩ := all2 hv
          refine s_get (by omega) hx hy hz ⟨base_at h1 _ _, few_at h4 h5 _ _, h2, ?_⟩
          rw [star_at n1, star_at n2]; rfl
      · split at h8
        · rename_i m hm
          cases of_decide_eq_true h8
          obtain ⟨T, id, r, r1, r2, r3, r4, r5, r6⟩ := mt_rule g hm
          cases es with
          | nil => cases h3
          | cons a as =>
            have h4' := h4
            simp only [List.all_cons, Bool.and_eq_true] at h4'
            exact s_bm r1 r2 r3 r4 r5 r6 (E_ok x g h6) (sv_of (V_ok xs g h7)) (base_at h1 _ _) (few_at h4 h5 _ _) h2 (star_at h4'.1 _ _) (stars_no h4'.2 _ _)
        · cases h8
    · cases h
  | .att _ _, c, S, g, e, h => by
    unfold cE at h
    cases h
  | .comp ow tg it cond elt, c, S, g, e, h => by
    unfold cE at h
    split at h
    · simp only [Bool.and_eq_true] at h
      obtain ⟨⟨⟨⟨⟨⟨h1, h2⟩, h3⟩, h4⟩, h5⟩, h6⟩, h7⟩ := h
      exact (comp_all g h1 (I_ok it g h2) (fun s H C cl fp => G_ok tg (g.blk _ s H C cl fp) h3) (C_ok cond g h4) (fun s H C cl fp => E_ok elt (g.blk _ s H C cl fp) h5) h6 h7).1
    · cases h
theorem T_ok : ∀ (x : MP.Ex) {c : Ct} {S : Sx} (g : Gd c S) {e : Expr}, cT S x e = true → ST c x e ∧ (∀ {o : BoolOp} {l : List Expr} {p : Pos}, e = .BoolOp o l p → SW c x e)
  | .not a, c, S, g, e, h => by
    unfold cT at h
    split at h
    · exact ⟨t_not (T_ok a g h).1, fun q => by cases q⟩
    · cases h
  | .and a b, c, S, g, e, h => by
    unfold cT at h
    split at h
    · simp only [Bool.and_eq_true] at h
      have w := fun {p : Pos} => w_and (pos := p) (T_ok a g h.1).1 (w_and1 (T_ok b g h.2).1)
      exact ⟨t_w w, fun q => by cases q; exact w⟩
    · simp only [Bool.and_eq_true] at h
      have w := w_and (T_ok a g h.1).1 ((T_ok b g h.2).2 rfl)
      exact ⟨t_w w, fun q => w⟩
    · cases h
  | .or a b, c, S, g, e, h => by
    unfold cT at h
    split at h
    · simp only [Bool.and_eq_true] at h
      have w := fun {p : Pos} => w_or (pos := p) (T_ok a g h.1).1 (w_or1 (T_ok b g h.2).1)
      exact ⟨t_w w, fun q => by cases q; exact w⟩
    · simp only [Bool.and_eq_true] at h
      have w := w_or (T_ok a g h.1).1 ((T_ok b g h.2).2 rfl)
      exact ⟨t_w w, fun q => w⟩
    · cases h
  | .cmp op a b, c, S, g, e, h => by
    unfold cT at h
    split at h
    · simp only [Bool.and_eq_true] at h
      exact ⟨t_cmp (behind_at h.1.1.2) (cop_ok g h.1.1.1) (E_ok a g h.1.2) (E_ok b g h.2), fun q => by cases q⟩
    · cases h
  | .chn o1 o2 a b d, c, S, g, e, h => by
    unfold cT at h
    split at h
    · simp only [Bool.and_eq_true] at h
      exact ⟨t_chn (last_at h.1.1.1.2) (cop_ok g h.1.1.1.1.1) (cop_ok g h.1.1.1.1.2) (E_ok a g h.1.1.2) (E_ok b g h.1.2) (E_ok d g h.2), fun q => by cases q⟩
    · cases h
  | .var i, c, S, g, e, h => by
    have h' : cE S (.var i) e = true := by unfold cE; unfold cT at h; exact h
    have hf : tform e = true ∧ ∀ {o l p}, e ≠ .BoolOp o l p := by
      unfold cT at h
      split at h
      · exact ⟨rfl, fun q => by cases q⟩
      · cases h
    unfold cE at h'
    split at h'
    · simp only [Bool.and_eq_true] at h'
      exact ⟨t_of (s_var (isN_ok g h'.1.1) (vis_ok g h'.1.2) (plain_ok h'.2).1 (plain_ok h'.2).2.1) (true_at hf.1 _) fun fl ρ h => evT_var fl ρ h, fun q => by cases q⟩
    · cases h'
  | .call pu f xs, c, S, g, e, h => by
    unfold cT at h
    rw [Bool.and_eq_true] at h
    obtain ⟨hf, h⟩ := h
    split at h
    · rename_i x p es pos
      simp only [Bool.and_eq_true, decide_eq_true_eq] at h
      obtain ⟨⟨⟨⟨⟨h1, h2⟩, h3⟩, h4⟩, h5⟩, h6⟩ := h
      cases es with
      | nil => cases h1
      | cons a as =>
        simp only [List.all_cons, Bool.and_eq_true] at h2
        obtain ⟨k, fa, fd, ps, F, hr, hm, hk, hb, hl⟩ := g.fs _ _ _ h5
        exact ⟨t_of (s_call g.flo g.tk F hr (gl_ok g h3) hm hk hb (L_ok xs g h6) hl.symm (plain_ok h4).1 (star_at h2.1 _ _) (stars_no h2.2 _ _)) (true_at hf _) fun fl ρ h => evT_call fl ρ h, fun q => by cases q⟩
    · cases h
  | .blt b xs, c, S, g, e, h => by
    unfold cT at h
    rw [Bool.and_eq_true] at h
    obtain ⟨hf, h⟩ := h
    split at h
    · rename_i as ha
      exact ⟨t_of (blt_all g ha (V_ok xs g h)) (true_at hf _) fun fl ρ h => evT_blt fl ρ h, fun q => by subst q; cases hf⟩
    · cases h
  | .comp ow tg it cond elt, c, S, g, e, h => by
    unfold cT at h
    split at h
    · simp only [Bool.and_eq_true] at h
      obtain ⟨⟨⟨⟨⟨⟨h1, h2⟩, h3⟩, h4⟩, h5⟩, h6⟩, h7⟩ := h
      exact ⟨t_of (comp_all g h1 (I_ok it g h2) (fun s H C cl fp => G_ok tg (g.blk _ s H C cl fp) h3) (C_ok cond g h4) (fun s H C cl fp => E_ok elt (g.blk _ s H C cl fp) h5) h6 h7).1 (fun w => rfl) fun fl ρ h => evT_comp fl ρ h, fun q => by cases q⟩
    · cases h
  | .cst d, c, S, g, e, h => by unfold cT at h; cases h
  | .glb _ d, c, S, g, e, h => by unfold cT at h; cases h
  | .tup es, c, S, g, e, h => by unfold cT at h; cases h
  | .lst es, c, S, g, e, h => by unfold cT at h; cases h
  | .dnew, c, S, g, e, h => by unfold cT at h; cases h
  | .dnewT, c, S, g, e, h => by unfold cT at h; cases h
  | .dsp ks es, c, S, g, e, h => by unfold cT at h; cases h
  | .bin op a b, c, S, g, e, h => by unfold cT at h; cases h
  | .neg a, c, S, g, e, h => by unfold cT at h; cases h
  | .ife _ a b, c, S, g, e, h => by unfold cT at h; cases h
  | .sub a i, c, S, g, e, h => by unfold cT at h; cases h
  | .slc a lo hi, c, S, g, e, h => by unfold cT at h; cases h
  | .rev a, c, S, g, e, h => by unfold cT at h; cases h
  | .mk _ f es, c, S, g, e, h => by unfold cT at h; cases h
  | .meth _ _ _ _ _, c, S, g, e, h => by unfold cT at h; cases h
  | .mth _ _ _, c, S, g, e, h => by unfold cT at h; cases h
  | .att _ _, c, S, g, e, h => by unfold cT at h; cases h
theorem L_ok : ∀ (xs : List MP.Ex) {c : Ct} {S : Sx} (g : Gd c S) {es : List Expr}, cL S xs es = true → SA c xs es
  | [], c, S, g, es, h => by
    unfold cL at h
    split at h
    · exact s_nil
    · cases h
  | x :: xs, c, S, g, es, h => by
    unfold cL at h
    split at h
    · simp only [Bool.and_eq_true] at h
      exact s_cons (E_ok x g h.1.2) (L_ok xs g h.2) (star_at h.1.1 _ _)
    · cases h
theorem V_ok : ∀ (xs : List MP.Ex) {c : Ct} {S : Sx} (g : Gd c S) {es : List Expr}, cV S xs es = true → AllSE c xs es
  | [], c, S, g, es, h => by
    unfold cV at h
    split at h
    · rfl
    · cases h
  | x :: xs, c, S, g, es, h => by
    unfold cV at h
    split at h
    · simp only [Bool.and_eq_true] at h
      exact ⟨_, _, rfl, h.1.1, E_ok x g h.1.2, V_ok xs g h.2⟩
    · cases h
theorem O_ok : ∀ (x : Option MP.Ex) {c : Ct} {S : Sx} (g : Gd c S) {e : Option Expr}, cO S x e = true → SO c x e
  | none, c, S, g, e, h => by
    unfold cO at h
    split at h
    · exact o_none
    · cases h
  | some x, c, S, g, e, h => by
    unfold cO at h
    split at h
    · exact o_some (E_ok x g h)
    · cases h
theorem C_ok : ∀ (x : Option MP.Ex) {c : Ct} {S : Sx} (g : Gd c S) {scope : Scope} {e : List Expr}, cC (S.blk scope) x e = true → SC c scope x e
  | none, c, S, g, scope, e, h => by
    unfold cC at h
    split at h
    · exact trivial
    · cases h
  | some x, c, S, g, scope, e, h => by
    unfold cC at h
    split at h
    · exact fun s H C cl fp => (T_ok x (g.blk scope s H C cl fp) h).1
    · cases h
theorem I_ok : ∀ (x : MP.It) {c : Ct} {S : Sx} (g : Gd c S) {tg e : Expr}, cI S x tg e = true → SI c x tg e
  | .seq x, c, S, g, tg, e, h => by
    unfold cI at h
    exact i_seq (E_ok x g h)
  | .rng1 x, c, S, g, tg, e, h => by
    unfold cI at h
    split at h
    · simp only [Bool.and_eq_true] at h
      obtain ⟨⟨h1, h2⟩, h3⟩ := h
      obtain ⟨rfl, g1, m1⟩ := blt_ok g h1
      exact i_rng1 (E_ok x g h3) g1 m1 (star_at h2 _ _)
    · cases h
  | .rng2 x z, c, S, g, tg, e, h => by
    unfold cI at h
    split at h
    · simp only [Bool.and_eq_true] at h
      obtain ⟨⟨⟨⟨h1, h2⟩, h3⟩, h4⟩, h5⟩ := h
      obtain ⟨rfl, g1, m1⟩ := blt_ok g h1
      exact i_rng2 (E_ok x g h4) (E_ok z g h5) g1 m1 (by rw [star_at h2, star_at h3]; rfl) (star_at h3 _ _)
    · cases h
  | .enm x, c, S, g, tg, e, h => by
    unfold cI at h
    split at h
    · simp only [Bool.and_eq_true] at h
      obtain ⟨⟨⟨h1, h2⟩, h3⟩, h4⟩ := h
      obtain ⟨rfl, g1, m1⟩ := blt_ok g h2
      cases tg <;> first | (cases h1; done) | exact i_enm (E_ok x g h4) g1 m1 (star_at h3 _ _)
    · cases h
  | .zip _ _, c, S, g, tg, e, h => by
    unfold cI at h
    cases h
end
end MPS
end
section
set_option Elab.async false
set_option linter.all false
set_option maxRecDepth 100000
set_option maxHeartbeats 4000000
namespace MPS
open PySem PySem.Spec PyProof.Rows L2
/-- what statements need beyond -/
structure Gs (c : Ct) (S : Sx) : Prop extends Gd c S where
  pas : PassesOwn (model c.X.prog c.X.w) c.X.A c.X.env c.X.xe
  fk : S.sc.kind = .function
  ex : ∀ k x, (k, x) ∈ S.ex → ∀ X : Cx, X.K = c.X.K → X.mg = c.X.mg → Gl X x → ∀ m j p p2 pos, PMk X (.Call (.Name x p) [.Constant (.str m) j p2] [] pos) (fun _ H Q => Q (.ref (c.eA k)) none H)
  st : c.X.stack = c.X.env :: c.X.outer
  fr : c.X.env.frame = some c.X.env.locals
  exn : ∀ k x, (k, x) ∈ S.ex → c.X.mg x = some (.ref (c.eA k)) ∧ (x == ("__debug__" : Str)) = false
  exm : ∀ k x k' x', (k, x) ∈ S.ex → (k', x') ∈ S.ex → PySem.W.exmOne c.X.K (.ref (c.eA k')) (.ref (c.eA k)) = some (MP.under k' k)
theorem Gs.tr {c : Ct} {S : Sx} (g : Gs c S) {pn : List (Addr × Obj)} {xe : Value → Shared → Prop} {W : WX} (tk : Takes (c.X.tr pn xe) W) (pa : PassesOwn (model c.X.prog c.X.w) c.X.A c.X.env xe) : Gs (c.tr pn xe W) S :=
  ⟨⟨g.N, g.nd, g.sc, g.fn, g.calm, tk, g.un, g.flo, g.fs, g.cs, g.bl, g.tb⟩, pa, g.fk, g.ex, g.st, g.fr, g.exn, g.exm⟩
/-- a clause's statement: a constant at a name -/
def cA (S : Sx) : MP.Stm → Stmt → Bool
  | .asg al (.v i) (.cst d), st => match st with
    | .Assign [.Name y _] (.Constant k _ _) _ => !al && isN S i y && locB S y && conB d k
    | _ => false
  | _, _ => false
def cHd (S : Sx) : List (Nat × MP.Stm) → List ExceptHandler → Bool
  | [], hds => match hds with
    | [] => true
    | _ => false
  | (k, s) :: hs, hds => match hds with
    | .ExceptHandler (some (.Name x _)) none [st] _ :: r => glB S.sc x && decide ((k, x) ∈ S.ex) && cA S s st && cHd S hs r
    | _ => false
theorem A_ok {c : Ct} {S : Sx} (g : Gs c S) {s : MP.Stm} {st : Stmt} (h : cA S s st = true) : (∀ fl ρ h, mild (MP.ex c.G fl s ρ h)) ∧ ∀ a pn, SSs (c.su a pn) [s] [st] := by
  unfold cA at h
  split at h
  · split at h
    · simp only [Bool.and_eq_true, Bool.not_eq_true'] at h
      obtain ⟨⟨⟨h0, h1⟩, h2⟩, h3⟩ := h
      obtain ⟨l1, l2⟩ := loc_ok g.toGd h2
      have nd : c.X.N.Nodup := by rw [g.N]; exact g.nd
      refine ⟨fun fl ρ h => ?_, fun a pn => ss_cons (ss_asg (c := c.su a pn) (con_ok h3) nd (isN_ok g.toGd h1) l1 (swaps_at rfl _ _ _) l2) ss_nil⟩
      unfold MP.ex
      unfold MP.ev
      simp only [MP.R.st_ok]
      split <;> trivial
    · cases h
  · cases h
theorem Hd_ok {c : Ct} {S : Sx} (g : Gs c S) : ∀ {hs : List (Nat × MP.Stm)} {hds : List ExceptHandler}, cHd S hs hds = true → Hds c hs hds ∧ ∀ q ∈ hs, ∃ x, (q.1, x) ∈ S.ex
  | [], hds, h => by
    unfold cHd at h
    split at h
    · exact ⟨.nil, fun _ hq => by cases hq⟩
    · cases h
  | (k, s) :: hs, hds, h => by
    unfold cHd at h
    split at h
    · simp only [Bool.and_eq_true, decide_eq_true_eq] at h
      obtain ⟨⟨⟨h1, h2⟩, h3⟩, h4⟩ := h
      obtain ⟨m1, m2⟩ := A_ok g h3
      obtain ⟨r1, r2⟩ := Hd_ok g h4
      obtain ⟨n1, n2⟩ := g.exn _ _ h2
      refine ⟨.cons ⟨gl_ok g.toGd h1, n2, .inl n1⟩ m1 m2 r1, fun q hq => ?_⟩
      rcases List.mem_cons.mp hq with e | e
      · subst e; exact ⟨_, h2⟩
      · exact r2 q e
    · cases h
/-- the store of a comprehension is exchanged -/
def swB (S : Sx) (y : Str) (py : Pos) (scope : Scope) (p : Pos) : Bool :=
  S.sc.names.lookup y == some .local && py.line == p.line && !(scope.names.any fun (n, k) => n == y && (k == .local || k == .cell))
theorem block_at {c : Ct} {S : Sx} (g : Gs c S) : c.X.env.blockKind = .function := by
  unfold Env.blockKind
  rw [g.sc, g.fk]; rfl
theorem sw_at {c : Ct} {S : Sx} (g : Gs c S) {y : Str} {py p : Pos} {scope : Scope} {v : Expr} {gs : List Comprehension} {line : Nat} : swapsWith (.ListComp v gs scope p) (some (.Name y py)) line c.X.env = pure (swB S y py scope p) := by
  have e : swapsWith (.ListComp v gs scope p) (some (.Name y py)) line c.X.env = pure (c.X.env.blockKind == .function && c.X.env.kindOf y == some .local && py.line == p.line && !(scope.names.any fun (n, k) => n == y && (k == .local || k == .cell))) := rfl
  rw [e, block_at g]
  unfold swB Env.kindOf
  rw [g.sc]; rfl
mutual
def cS (S : Sx) : MP.Stm → Stmt → Bool
  | .asg al (.v i) x, st => match st with
    | .Assign [.Name y py] e _ => isN S i y && locB S y && cE S x e && (match e with
      | .ListComp _ _ scope p => (match x with
        | .comp _ _ _ _ _ => true
        | _ => false)
      | _ => ncomp e)
    | _ => false
  | .asg al (.t ts) x, st => match st with
    | .Assign [.Tuple es _ _] e _ => nswap (.Tuple es 0 ⟨0, 0, 0, 0⟩) e && ncomp e && cGs S ts es && cE S x e
    | _ => false
  | .par _ _ _, _ => false
  | .setI o i x, st => match st with
    | .Assign [.Subscript l j _] e _ => ncomp e && nslc j && cE S o l && cE S i j && cE S x e
    | _ => false
  | .setA _ _ _ _, _ => false
  | .aug i op x, st => match st with
    | .AugAssign (.Name y _) o e _ => isN S i y && locB S y && cE S x e && (match op, o with
      | .add, .Add => true
      | .sub, .Sub => true
      | _, _ => false)
    | _ => false
  | .exp x, st => match st with
    | .Expr e _ => ncomp e && cE S x e
    | _ => false
  | .ret x, st => match st with
    | .Return (some e) _ => cE S x e
    | _ => false
  | .retN, st => match st with
    | .Return none _ => true
    | _ => false
  | .ifs x a b, st => match st with
    | .If e as bs _ => cT S x e && cSs S a as && cSs S b bs
    | _ => false
  | .fors t it b, st => match st with
    | .For tg iter body [] _ => cI S it tg iter && cG S t tg && cSs S b body && nset iter
    | _ => false
  | .whl x b, st => match st with
    | .While e body [] _ => cT S x e && cSs S b body
    | _ => false
  | .rai k, st => match st with
    | .Raise (some (.Call (.Name x _) [.Constant (.str _) _ _] [] _)) none _ => glB S.sc x && decide ((k, x) ∈ S.ex)
    | _ => false
  | .tri kn b hs, st => match st with
    | .Try body (h0 :: hds) [] [] _ => cSs S b body && cHd S hs (h0 :: hds) && kn.all (fun k => S.ex.any fun p => decide (p.1 = k))
    | _ => false
  | .pas, st => match st with
    | .Pass _ => true
    | _ => false
  | .brk, st => match st with
    | .Break _ => true
    | _ => false
  | .cnt, st => match st with
    | .Continue _ => true
    | _ => false
def cSs (S : Sx) : List MP.Stm → List Stmt → Bool
  | [], sts => match sts with
    | [] => true
    | _ => false
  | x :: xs, sts => match sts with
    | st :: r => cS S x st && cSs S xs r
    | _ => false
end
mutual
theorem S_ok : ∀ (x : MP.Stm) {c : Ct} {S : Sx} (g : Gs c S) {st : Stmt}, cS S x st = true → SS c x st
  | .asg al (.v i) x, c, S, g, st, h => by
    unfold cS at h
    split at h
    · rename_i y py e pos
      simp only [Bool.and_eq_true] at h
      obtain ⟨⟨⟨h1, h2⟩, h3⟩, h4⟩ := h
      obtain ⟨l1, l2⟩ := loc_ok g.toGd h2
      have nd : c.X.N.Nodup := by rw [g.N]; exact g.nd
      split at h4
      · rename_i v gs scope p
        split at h4
        · rename_i ow tg it cond elt
          cases hs : swB S y py scope p with
          | false => exact ss_asg (E_ok _ g.toGd h3) nd (isN_ok g.toGd h1) l1 (by rw [sw_at g, hs]) l2
          | true =>
            have hl : S.sc.names.lookup y = some .local := by
              unfold swB at hs
              simp only [Bool.and_eq_true, beq_iff_eq] at hs
              exact hs.1.1
            unfold cE at h3
            split at h3
            · rename_i v t iter ifs sc2 p2 heq
              cases heq
              simp only [Bool.and_eq_true] at h3
              obtain ⟨⟨⟨⟨⟨⟨h31, h32⟩, h33⟩, h34⟩, h35⟩, h36⟩, h37⟩ := h3
              exact ss_asgLc (own_map S.N ow) g.calm nd (I_ok it g.toGd h32) (by rw [g.N, g.sc]; exact blkOk_by h31) (fun s H C cl fp => G_ok tg (g.toGd.blk _ s H C cl fp) h33) (C_ok cond g.toGd h34)
                (fun s H C cl fp => E_ok elt (g.toGd.blk _ s H C cl fp) h35) (fun i hi => by simpa using List.all_eq_true.mp h36 i hi) (fun x => fold_at h37 _ x) (isN_ok g.toGd h1) (by rw [g.sc]; exact hl) (by rw [sw_at g, hs])
            · cases h3
        · cases h4
      · exact ss_asg (E_ok x g.toGd h3) nd (isN_ok g.toGd h1) l1 (swaps_at h4 _ _ _) l2
    · cases h
  | .asg al (.t ts) x, c, S, g, st, h => by
    unfold cS at h
    split at h
    · rename_i es k p e pos
      simp only [Bool.and_eq_true] at h
      obtain ⟨⟨⟨h1, h2⟩, h3⟩, h4⟩ := h
      obtain ⟨q1, q2, q3⟩ := Gs_ok ts g.toGd h3
      exact ss_asgT g.calm (E_ok x g.toGd h4) q1 (by rw [asg_len, q2]) (asg_none q3 _) (by unfold swapsWithSole; exact swaps_at h2 _ _ _) (swapped_at (by cases e <;> first | rfl | cases h1) _) rfl
    · cases h
  | .par _ _ _, c, S, g, st, h => by
    unfold cS at h
    cases h
  | .setI o i x, c, S, g, st, h => by
    unfold cS at h
    split at h
    · rename_i l j p e pos
      simp only [Bool.and_eq_true] at h
      obtain ⟨⟨⟨⟨h1, h2⟩, h3⟩, h4⟩, h5⟩ := h
      have u := g.un
      refine ss_setI (by omega) (E_ok o g.toGd h3) (E_ok i g.toGd h4) (E_ok x g.toGd h5) (by unfold swapsWithSole; exact swaps_at h1 _ _ _) (swapped_at (by cases e <;> rfl) _) rfl fun v => ?_
      cases j <;> first | rfl | cases h2
    · cases h
  | .setA _ _ _ _, c, S, g, st, h => by
    unfold cS at h
    cases h
  | .aug i op x, c, S, g, st, h => by
    unfold cS at h
    split at h
    · simp only [Bool.and_eq_true] at h
      obtain ⟨⟨⟨h1, h2⟩, h3⟩, h4⟩ := h
      obtain ⟨l1, l2⟩ := loc_ok g.toGd h2
      have nd : c.X.N.Nodup := by rw [g.N]; exact g.nd
      split at h4
      · exact ss_augA (E_ok x g.toGd h3) nd (isN_ok g.toGd h1) l1 l2
      · exact ss_augS (E_ok x g.toGd h3) nd (isN_ok g.toGd h1) l1 l2
      · cases h4
    · cases h
  | .exp x, c, S, g, st, h => by
    unfold cS at h
    split at h
    · simp only [Bool.and_eq_true] at h
      exact ss_exp (E_ok x g.toGd h.2) (swaps_at h.1 _ _ _)
    · cases h
  | .ret x, c, S, g, st, h => by
    unfold cS at h
    split at h
    · exact ss_ret (E_ok x g.toGd h)
    · cases h
  | .retN, c, S, g, st, h => by
    unfold cS at h
    split at h
    · exact ss_retN
    · cases h
  | .ifs x a b, c, S, g, st, h => by
    unfold cS at h
    split at h
    · simp only [Bool.and_eq_true] at h
      exact ss_if (T_ok x g.toGd h.1.1).1 (Ss_ok a g h.1.2) (Ss_ok b g h.2)
    · cases h
  | .fors t it b, c, S, g, st, h => by
    unfold cS at h
    split at h
    · simp only [Bool.and_eq_true] at h
      exact ss_for g.pas g.calm (I_ok it g.toGd h.1.1.1) (G_ok t g.toGd h.1.1.2) (Ss_ok b g h.1.2) (fun x => fold_at h.2 _ x)
    · cases h
  | .whl x b, c, S, g, st, h => by
    unfold cS at h
    split at h
    · simp only [Bool.and_eq_true] at h
      exact ss_whl g.pas (T_ok x g.toGd h.1).1 (Ss_ok b g h.2)
    · cases h
  | .rai k, c, S, g, st, h => by
    unfold cS at h
    split at h
    · simp only [Bool.and_eq_true, decide_eq_true_eq] at h
      exact ss_rai g.calm g.tk (g.ex _ _ h.2 c.X rfl rfl (gl_ok g.toGd h.1) _ _ _ _ _)
    · cases h
  | .tri kn b hs, c, S, g, st, h => by
    unfold cS at h
    split at h
    · simp only [Bool.and_eq_true, List.all_eq_true, List.any_eq_true, decide_eq_true_eq] at h
      obtain ⟨⟨h1, h2⟩, h3⟩ := h
      obtain ⟨r1, r2⟩ := Hd_ok g h2
      refine ss_tri g.st g.fr g.tk (fun pn xe W tk pa => Ss_ok b (g.tr tk pa) h1) r1 fun k' hk' q hq => ?_
      obtain ⟨p, hp, e⟩ := h3 k' hk'
      obtain ⟨x, hx⟩ := r2 q hq
      obtain ⟨k2, x2⟩ := p
      subst e
      exact g.exm _ _ _ _ hx hp
    · cases h
  | .pas, c, S, g, st, h => by
    unfold cS at h
    split at h
    · exact ss_pass
    · cases h
  | .brk, c, S, g, st, h => by
    unfold cS at h
    split at h
    · exact ss_brk
    · cases h
  | .cnt, c, S, g, st, h => by
    unfold cS at h
    split at h
    · exact ss_cnt
    · cases h
theorem Ss_ok : ∀ (xs : List MP.Stm) {c : Ct} {S : Sx} (g : Gs c S) {sts : List Stmt}, cSs S xs sts = true → SSs c xs sts
  | [], c, S, g, sts, h => by
    unfold cSs at h
    split at h
    · exact ss_nil
    · cases h
  | x :: xs, c, S, g, sts, h => by
    unfold cSs at h
    split at h
    · simp only [Bool.and_eq_true] at h
      exact ss_cons (S_ok x g h.1) (Ss_ok xs g h.2)
    · cases h
end
end MPS
end
section
set_option Elab.async false
set_option linter.all false
set_option maxRecDepth 100000
set_option maxHeartbeats 4000000
namespace MPS
open PySem PySem.Spec PyProof.Rows L2
/-- a def as the module has it, with the small code for it -/
structure Fu where
  id : Nat
  name : Str
  qual : Str
  params : Arguments
  body : List Stmt
  scope : Scope
  N : List Str
  ps : List Str
  code : MP.Def
/-- what is known of the module, for all defs -/
structure Mx where
  fs : List (Nat × Str × Nat)
  cs : List (Str × MP.D)
  bl : List Str
  ex : List (Nat × Str)
  tb : List (Str × List (MP.Txt × Int)) := []
def Mx.sx (M : Mx) (u : Fu) : Sx := ⟨u.N, u.scope, fun _ => true, M.fs, M.cs, M.bl, M.ex, M.tb⟩
def parB (u : Fu) : Bool := u.ps.all fun x => match u.scope.names.lookup x with
  | some .local => true
  | some .cell => true
  | _ => false
/-- the frame's own conditions -/
def cN (u : Fu) : Bool :=
  decide (u.code.names = u.N.length) && decide (u.code.params = u.ps.length) && decide u.N.Nodup && decide (u.N.take u.ps.length = u.ps)
    && decide (u.scope.kind = .function) && !u.scope.isCoroutine && !u.scope.isGenerator && parB u && (u.scope.names.all fun y => decide (y.2 ≠ .free))
/-- the whole check of a def -/
def cF (M : Mx) (u : Fu) : Bool := cN u && cSs (M.sx u) u.code.body u.body
structure Hm (w : World) (K : PySem.W.Frag) (mg : Str → Option Value) (eA : Nat → Addr) (Pf : Nat → Option MP.Def) (M : Mx) (us : List Fu) : Prop where
  fu : ∀ u ∈ us, ∃ fa fd kws, FunD K u.name u.qual u.params u.body u.scope [] kws fa fd ∧ mg u.name = some (.ref fa) ∧ Binds K fd u.ps []
  cs : ∀ x d, (x, d) ∈ M.cs → ∃ u v, mg x = some u ∧ RelV v u ∧ ∀ F m, Rep K F m d v
  bl : ∀ x ∈ M.bl, mg x = none
  tb : ∀ x kvs, (x, kvs) ∈ M.tb → ∃ d es n, mg x = some (.ref d) ∧ KDict K w d es n ∧ TabIs K d kvs
  ex : ∀ k x, (k, x) ∈ M.ex → ∀ X : Cx, X.K = K → X.mg = mg → Gl X x → ∀ m j p p2 pos, PMk X (.Call (.Name x p) [.Constant (.str m) j p2] [] pos) (fun _ H Q => Q (.ref (eA k)) none H)
  fs : ∀ f x n, (f, x, n) ∈ M.fs → ∃ u ∈ us, u.id = f ∧ u.name = x ∧ u.ps.length = n
  exn : ∀ k x, (k, x) ∈ M.ex → mg x = some (.ref (eA k)) ∧ (x == ("__debug__" : Str)) = false
  exm : ∀ k x k' x', (k, x) ∈ M.ex → (k', x') ∈ M.ex → PySem.W.exmOne K (.ref (eA k')) (.ref (eA k)) = some (MP.under k' k)
  co : ∀ u ∈ us, Pf u.id = some u.code ∧ cF M u = true
theorem start_env {K : PySem.W.Frag} {F : L2.Hp} {m : List Addr} {N : List Str} {as : List MP.D} {vs : List V} {k : Nat} (hk : k = N.length) (r : Reps K F m as vs) : EnvR K F m (MP.start k as) (L2.start N vs) := by
  subst hk
  have hl := r.length
  unfold MP.start L2.start
  refine ⟨by simp [hl], fun i d hi => ?_⟩
  by_cases lt : i < as.length
  · rw [List.getElem?_append_left (by simpa using lt), List.getElem?_map] at hi
    rw [List.getElem?_append_left (by simpa [← hl] using lt), List.getElem?_map]
    cases q : as[i]? with
    | none => rw [q] at hi; cases hi
    | some d' =>
      rw [q] at hi
      cases hi
      obtain ⟨v, e1, e2⟩ := r.get q
      exact ⟨v, by rw [e1]; rfl, e2⟩
  · rw [List.getElem?_append_right (by simpa using lt), List.getElem?_replicate] at hi
    split at hi <;> cases hi
section
variable {P : Program} {w : World} {K : PySem.W.Frag} {mg : Str → Option Value} {base : Heap} {cA : Nat → Addr} {fN : Nat → Str} {eA : Nat → Addr} {Pf : Nat → Option MP.Def} {M : Mx} {us : List Fu}
theorem fn_ok (hm : Hm w K mg eA Pf M us) : ∀ (n : Nat) (u : Fu) (_ : u ∈ us) (fa : Addr) (fd : FuncData) (kws : List (Str × V)) (_ : FunD K u.name u.qual u.params u.body u.scope [] kws fa fd),
    FnOk P w K mg base (L2.CX P w) n fa fd u.ps (spOf K cA fN eA (MP.lev Pf n false u.id) u.ps.length)
  | 0, u, hu, fa, fd, kws, F => ⟨fun vs H Q E h => h.1, fun A outer s H args us vs Q E _ _ _ _ h => by
      obtain ⟨_, m, h, F, as, fl, _, _, q⟩ := h
      exact q.elim⟩
  | n + 1, u, hu, fa, fd, kws, F => by
    obtain ⟨hp, hc⟩ := hm.co u hu
    unfold cF at hc
    rw [Bool.and_eq_true] at hc
    obtain ⟨hN, hS⟩ := hc
    unfold cN at hN
    simp only [Bool.and_eq_true, decide_eq_true_eq, Bool.not_eq_true', List.all_eq_true] at hN
    obtain ⟨⟨⟨⟨⟨⟨⟨⟨n1, n2⟩, n3⟩, n4⟩, n5⟩, n6⟩, n7⟩, n8⟩, n9⟩ := hN
    refine FunD.ok (N := u.N) F ⟨n5, n6, n7, n3, n4, fun x hx => ?_, n9⟩ (fun vs H Q E h => h.1) fun cdv A outer s H vs Q E hr hsp => ?_
    · have q := List.all_eq_true.mp n8 x hx
      split at q
      · rename_i e; exact .inl e
      · rename_i e; exact .inr e
      · cases q
    · refine ⟨_, pss_sem, ?_⟩
      obtain ⟨_, m, h, F0, as, fl, S, rs, q⟩ := hsp
      let c : Ct := ⟨cxOf (L2.CX P w) P w K mg base u.N u.qual u.scope fa cdv A outer s H E, fun cls d _ H => E cls d H, MP.lev Pf n, cA, fN, eA⟩
      have tk : Takes c.X c.W := takes_of rfl rfl rfl rfl
      have g : Gs c (M.sx u) := by
        refine ⟨⟨rfl, n3, rfl, fun _ _ => rfl, rfl, tk, ?_, lev_fl Pf n, fun f x k hf => ?_, hm.cs, hm.bl, hm.tb⟩, passes_of rfl, n5, fun k x hk X eK eM hg => hm.ex k x hk X eK eM hg, rfl, rfl, hm.exn, hm.exm⟩
        · have := hr.un
          show (A.deeper (envOfC u.qual u.scope s.heap.objs.size fa cdv)).units + 100 < cLine
          omega
        · obtain ⟨u', hu', rfl, rfl, rfl⟩ := hm.fs f x k hf
          obtain ⟨fa', fd', kws', F', m', b'⟩ := hm.fu u' hu'
          exact ⟨n, fa', fd', u'.ps, fn_ok hm n u' hu' fa' fd' kws' F', hr, m', F'.kp, b', rfl⟩
      refine Ss_ok u.code.body (c := c) g hS fl (MP.start u.code.names as) h (L2.start u.N vs) m H F0 _ (start_env n1 rs) S ?_
      have e : MP.lev Pf (n + 1) false u.id as fl h = MP.runDef (MP.lev Pf n) u.code as fl h := by
        show (match Pf u.id with | some d => MP.runDef (MP.lev Pf n) d as fl h | none => .err) = _
        rw [hp]
      rw [e] at q
      unfold MP.runDef at q
      have hl : as.length = u.code.params := by
        cases Nat.decEq as.length u.code.params with
        | isTrue z => exact z
        | isFalse z => rw [if_neg z] at q; exact q.elim
      rw [if_pos hl] at q
      show PostS c m H F0 _ (MP.exs (MP.lev Pf n) fl u.code.body (MP.start u.code.names as) h)
      revert q
      cases MP.exs (MP.lev Pf n) fl u.code.body (MP.start u.code.names as) h with
      | nx ρ h' => exact fun q σ m' H' F' e S' er => q m' H' F' .non e S' rfl
      | rt v h' => exact fun q m' H' F' u e S' r => q m' H' F' u e S' r
      | exc k ρ h' => exact fun q σ m' H' F' e S' er => q m' H' F' e S'
      | bk _ _ => exact fun q => q.elim
      | ct _ _ => exact fun q => q.elim
      | err => exact fun q => q
end
end MPS
end
section
set_option Elab.async false
set_option linter.all false
set_option maxRecDepth 100000
set_option maxHeartbeats 4000000
namespace MPS
open PySem PySem.Spec PyProof.Rows L2
/-! ### from the head's facts to what the walk needs -/
def Fu.dd (u : Fu) : He.DefD := ⟨(u.name, none), u.name, u.qual, u.params, u.body, u.scope, [], []⟩
def faC : List (Str × MP.D) → List He.Fa
  | [] => []
  | (x, .int i) :: r => .int x i :: faC r
  | (x, .str t) :: r => .str x (tx t) :: faC r
  | _ :: r => faC r
def faOf (M : Mx) (us : List Fu) : List He.Fa := (us.map fun u => He.Fa.glo u.name) ++ (faC M.cs ++ ((M.bl.map fun x => He.Fa.free x) ++ ((M.ex.map fun p => He.Fa.glo p.2) ++ ((M.ex.map fun p => He.Fa.exc p.2) ++ ((M.tb.map fun p => He.Fa.glo p.1) ++ (M.ex.map fun p => M.ex.map fun q => He.Fa.exm p.2 q.2 (MP.under p.1 q.1)).flatten)))))
/-- constants that the facts tell -/
def csB (M : Mx) : Bool := M.cs.all fun p => match p.2 with
  | .int _ => true
  | .str t => t.all fun c => decide (c < 1114112)
  | _ => false
def exN (M : Mx) (k : Nat) : Str := match M.ex.find? (fun p => p.1 == k) with
  | some p => p.2
  | none => ""
/-- the tables fit one another -/
def tabB (Pf : Nat → Option MP.Def) (M : Mx) (us : List Fu) : Bool :=
  csB M && (M.fs.all fun p => us.any fun u => decide (u.id = p.1) && decide (u.name = p.2.1) && decide (u.ps.length = p.2.2)) && (us.all fun u => cF M u) && M.ex.all (fun p => decide (exN M p.1 = p.2) && !(p.2 == ("__debug__" : Str)))
/-- the module's tables -/
def tsOf (M : Mx) : List He.Tab := M.tb.map fun p => ((fun K => He.ga K p.1), p.2.map fun q => tx q.1)
def exOf (M : Mx) (K : PySem.W.Frag) : Bool := M.tb.all fun p => He.valsB K (He.ga K p.1) (p.2.map fun q => (tx q.1, He.Dv.int q.2))
theorem dicW_at {K : PySem.W.Frag} {P : Params} {a : Addr} {ks : List Str} (h : He.dicW K a = some (He.keysIn P ks)) : ∃ es n, K.lookup a = some ⟨.type "dict", none, .dict es n, #[]⟩ ∧ es.toList.map He.keyOf = He.keysIn P ks := by
  unfold He.dicW at h
  split at h
  · rename_i c es n sl q
    split at h
    · rename_i z
      obtain ⟨z1, z2⟩ := He.ba z
      obtain ⟨z3, z4⟩ := He.ba z2
      have e1 : c = "dict" := of_decide_eq_true z1
      have e2 : sl = #[] := Array.isEmpty_iff.mp z3
      subst e1 e2
      exact ⟨es, n, q, Option.some.inj h⟩
    · cases h
  · cases h
theorem lk_mem {k : MP.Txt} {i : Int} : ∀ {l : List (MP.Txt × Int)}, l.lookup k = some i → (k, i) ∈ l
  | [], h => by cases h
  | (b, u) :: r, h => by
    rw [List.lookup_cons] at h
    split at h
    · rename_i q
      cases h
      rw [beq_iff_eq.mp q]
      exact List.mem_cons_self
    · exact List.mem_cons_of_mem _ (lk_mem h)
theorem tab_is {K : PySem.W.Frag} {P : Params} {a : Addr} {kvs : List (MP.Txt × Int)} (h : He.dicW K a = some (He.keysIn P (kvs.map fun q => tx q.1))) (hv : He.valsB K a (kvs.map fun q => (tx q.1, He.Dv.int q.2)) = true) : TabIs K a kvs := by
  intro k
  cases e : kvs.lookup k with
  | some i =>
    have hm : (k, i) ∈ kvs := lk_mem e
    obtain ⟨u, h1, h2⟩ := He.valsB_ok hv (q := (tx k, He.Dv.int i)) (List.mem_map.mpr ⟨(k, i), hm, rfl⟩)
    exact ⟨some u, h1, fun j hj => ⟨u, rfl, by cases hj; exact h2⟩, fun q => by cases q⟩
  | none =>
    obtain ⟨es, n, h1, h2⟩ := dicW_at h
    refine ⟨none, ?_, (fun j hj => nomatch hj), fun _ => rfl⟩
    have key : ∀ d ∈ es.toList, ∃ x t, d.key = .str x t ∧ x ≠ tx k := fun d hd => by
      have : He.keyOf d ∈ He.keysIn P (kvs.map fun q => tx q.1) := by rw [← h2]; exact List.mem_map_of_mem hd
      unfold He.keysIn at this
      obtain ⟨x, hx, ex⟩ := List.mem_map.mp this
      obtain ⟨q, hq, eq⟩ := List.mem_map.mp hx
      unfold He.keyOf at ex
      split at ex
      · rename_i y t hy
        have ey : x = y := congrArg Prod.fst (Option.some.inj ex)
        refine ⟨_, t, hy, fun z => ?_⟩
        have : q.1 = k := tx_inj (eq.trans (ey.trans z))
        rw [List.lookup_eq_none_iff] at e
        have := e q hq
        subst_vars
        simp at this
      · cases ex
    unfold PySem.W.nsIn
    rw [h1]
    have f1 : es.toList.find? (fun d => d.key.isStr (tx k)) = none := by
      rw [List.find?_eq_none]
      intro d hd
      obtain ⟨x, t, q, ne⟩ := key d hd
      rw [q]
      simpa [Value.isStr] using ne
    have f2 : es.toList.any (fun d => d.refKey) = false := by
      rw [List.any_eq_false]
      intro d hd
      obtain ⟨x, t, q, ne⟩ := key d hd
      unfold DictEntry.refKey
      rw [q]
      simp
    simp only [f1, f2]
    rfl
theorem faC_mem : ∀ {cs : List (Str × MP.D)} {x : Str} {d : MP.D}, (x, d) ∈ cs → (∀ i, d = .int i → He.Fa.int x i ∈ faC cs) ∧ ∀ t, d = .str t → He.Fa.str x (tx t) ∈ faC cs
  | p :: r, x, d, h => by
    have grow : ∀ f, f ∈ faC r → f ∈ faC (p :: r) := fun f hf => by
      obtain ⟨y, e⟩ := p
      cases e <;> first | exact List.mem_cons_of_mem _ hf | exact hf
    rcases List.mem_cons.mp h with rfl | h
    · exact ⟨fun i e => by subst e; exact List.mem_cons_self, fun t e => by subst e; exact List.mem_cons_self⟩
    · obtain ⟨h1, h2⟩ := faC_mem h
      exact ⟨fun i e => grow _ (h1 i e), fun t e => grow _ (h2 t e)⟩
section
variable {K : PySem.W.Frag} {h : Heap} {mg : Str → Option Value} {Pf : Nat → Option MP.Def} {M : Mx} {us : List Fu}
theorem hm_of (X : K.In h) (G : h.Ns mainGlobals mg) {w : World} {h0 : Heap} (cX : He.SaysX (faOf M us) (us.map Fu.dd) (tsOf M) [] (exOf M) w h0 K) (ht : tabB Pf M us = true) (hP : ∀ u ∈ us, Pf u.id = some u.code)
    (hb : ∀ u ∈ us, ∀ (kws : List (Str × V)) (f : Addr) (fd : FuncData), FunD K u.name u.qual u.params u.body u.scope [] kws f fd → Binds K fd u.ps []) : Hm w K mg (fun k => He.ga K (exN M k)) Pf M us := by
  have c := cX.t.d
  unfold tabB at ht
  simp only [Bool.and_eq_true, List.all_eq_true, List.any_eq_true, decide_eq_true_eq, Bool.not_eq_true'] at ht
  obtain ⟨⟨⟨t1, t2⟩, t3⟩, t4⟩ := ht
  have glo : ∀ u ∈ us, mg u.name = some (.ref (He.ga K u.name)) := fun u hu => He.glo_ok X G (c.facts (by unfold faOf; exact List.mem_append_left _ (List.mem_map_of_mem hu)))
  refine ⟨fun u hu => ?_, fun x d hx => ?_, fun x hx => ?_, fun x kvs hx => ?_, fun k x hk X' eK eM hg m j p p2 pos => ?_, fun f x n hf => ?_, fun k x hk => ?_, fun k x k' x' hk hk' => ?_, fun u hu => ⟨hP u hu, t3 u hu⟩⟩
  · obtain ⟨fd, F⟩ := c.defs (d := u.dd) (List.mem_map_of_mem hu)
    exact ⟨_, fd, _, F, glo u hu, hb u hu _ _ fd F⟩
  · obtain ⟨h1, h2⟩ := faC_mem hx
    unfold csB at t1
    have q := List.all_eq_true.mp t1 _ hx
    have inn : ∀ f, f ∈ faC M.cs → f ∈ faOf M us := fun f hf => List.mem_append_right _ (List.mem_append_left _ hf)
    cases d with
    | int i =>
      obtain ⟨t, e⟩ := He.int_ok X G (c.facts (inn _ (h1 i rfl)))
      exact ⟨_, .int i, e, ⟨t, rfl⟩, fun F m => rfl⟩
    | str s =>
      obtain ⟨t, e⟩ := He.str_ok X G (c.facts (inn _ (h2 s rfl)))
      exact ⟨_, .str (tx s), e, ⟨t, rfl⟩, fun F m => ⟨rfl, fun k hk => by simpa using List.all_eq_true.mp q k hk⟩⟩
    | _ => cases q
  · exact He.free_ok X G (c.facts (List.mem_append_right _ (List.mem_append_right _ (List.mem_append_left _ (List.mem_map_of_mem hx)))))
  · have tm : ((fun K => He.ga K x), kvs.map fun q => tx q.1) ∈ tsOf M := List.mem_map.mpr ⟨(x, kvs), hx, rfl⟩
    have te : (tsOf M).map (fun t => He.dicW K (t.1 K)) = (tsOf M).map fun t => some (He.keysIn w.params t.2) := congrArg (fun z : He.AlT => z.2) cX.t
    have td := List.map_inj_left.mp te _ tm
    obtain ⟨es, n, D⟩ := He.dicW_ok td
    exact ⟨_, es, n, He.glo_ok X G (c.facts (List.mem_append_right _ (List.mem_append_right _ (List.mem_append_right _ (List.mem_append_right _ (List.mem_append_right _ (List.mem_append_left _ (List.mem_map_of_mem (f := fun p => He.Fa.glo p.1) hx)))))))), D, tab_is td (List.all_eq_true.mp cX.more _ hx)⟩
  · obtain ⟨e1, e2⟩ := t4 _ hk
    have f1 := He.glo_ok X G (c.facts (f := .glo x) (List.mem_append_right _ (List.mem_append_right _ (List.mem_append_right _ (List.mem_append_left _ (List.mem_map_of_mem (f := fun p => He.Fa.glo p.2) hk))))))
    obtain ⟨g1, g2, g3, g4⟩ := He.exc_ok (c.facts (f := .exc x) (List.mem_append_right _ (List.mem_append_right _ (List.mem_append_right _ (List.mem_append_right _ (List.mem_append_left _ (List.mem_map_of_mem (f := fun p => He.Fa.exc p.2) hk)))))))
    subst eK eM
    have e1 : exN M k = x := e1
    rw [e1]
    exact pmk_own (bmB := He.veBase) PySem.F.excBase_ValueError g1 f1 g2 (raises_own g3 g4) hg e2
  · obtain ⟨u, hu, ⟨e1, e2⟩, e3⟩ := t2 _ hf
    exact ⟨u, hu, e1, e2, e3⟩
  · obtain ⟨e1, e2⟩ := t4 _ hk
    have e1 : exN M k = x := e1
    rw [e1]
    exact ⟨He.glo_ok X G (c.facts (f := .glo x) (List.mem_append_right _ (List.mem_append_right _ (List.mem_append_right _ (List.mem_append_left _ (List.mem_map_of_mem (f := fun p => He.Fa.glo p.2) hk)))))), e2⟩
  · have e1 : exN M k = x := (t4 _ hk).1
    have e2 : exN M k' = x' := (t4 _ hk').1
    rw [e1, e2]
    refine He.exm_ok (c.facts (f := .exm x' x (MP.under k' k)) (List.mem_append_right _ (List.mem_append_right _ (List.mem_append_right _ (List.mem_append_right _ (List.mem_append_right _ (List.mem_append_right _ ?_)))))))
    exact List.mem_flatten.mpr ⟨_, List.mem_map.mpr ⟨(k', x'), hk', rfl⟩, List.mem_map.mpr ⟨(k, x), hk, rfl⟩⟩
/-- the law's own promise, where the small code's run says true -/
theorem law_sp {cA : Nat → Addr} {fN : Nat → Str} {eA : Nat → Addr} {g : List MP.D → Nat → MP.Hp → MP.R MP.Vl} {H : L2.Hp} {a : Addr} {ns : List Int} (hO : Only H) (hS : SqL K H a (ns.map V.int)) (hg : ∃ h', g [.ctp (ns.map .int)] 0 [] = .ok (.d (.bl true)) h') :
    spOf K cA fN eA g 1 [.ref a] H (fun v _ => v = .bl true) fun _ _ _ => False := by
  obtain ⟨h', e⟩ := hg
  refine ⟨rfl, [], [], H, [.ctp (ns.map .int)], 0, ⟨Le.refl _, List.nodup_nil, rfl, (fun a ha => by cases ha), (fun b o eb => ?_), (fun n b o e1 => by simp at e1)⟩, ⟨.ref a, [], rfl, ⟨a, _, rfl, .inl hS, ?_⟩, rfl⟩, ?_⟩
  · rcases hO b with q | ⟨o', xs, q⟩
    · rw [q] at eb; cases eb
    · rw [q] at eb; cases eb; trivial
  · have : ∀ l : List Int, Reps K H [] (l.map .int) (l.map V.int) := fun l => by
      induction l with
      | nil => rfl
      | cons i l ih => exact ⟨.int i, _, rfl, rfl, ih⟩
    exact this ns
  · rw [e]
    exact fun m' H' F' u _ _ r => r
end
/-- the walk's end: the law's def by the small code -/
theorem walk_mp {l : PySem.W.OpenLaw} {n k : Nat} {q : Program} {loose : List Str} {XP : (Str → Option Value) → Heap → Prop} {YP : World → Heap → Prop} {d : DefRec} {x : Str} (hn : l.most = some n) (hn2 : n ≤ sizeLine) (hdf : d.params.defaults = []) (hr : Room k callerA)
    (F : ∀ (w : World) (mg : Str → Option Value) (fa : Addr) (h : Heap), YP w h → h.Ns mainGlobals mg → mg d.name = some (.ref fa) → ∃ (K : PySem.W.Frag) (fd : FuncData) (sp : Sp), K.In h ∧ (∀ (s : Shared) (u : Value), BindsTo s fd ⟨[u], []⟩ [(x, u)]) ∧
        (∀ (H : L2.Hp) (a : Addr) (ns : List Int), ns.length ≤ n → Only H → SqL K H a (ns.map V.int) → sp [.ref a] H (fun v _ => v = .bl true) fun _ _ _ => False) ∧ ∀ base : Heap, FnOk l.prog w K mg base (L2.CX l.prog w) k fa fd [x] sp) :
    PySem.W.WalkO q loose XP YP l.row.toRowW d [] (fun f vs => PySem.call f vs) := by
  refine Att.attach_call hn hdf fun w _ s1 mg _ fa _ _ _ _ a _ ns G Y _ _ _ hmg hobj hints hlen hg => ?_
  obtain ⟨K, fd, sp, k1, k2, k3, k4⟩ := F w mg fa _ Y G.T.g hmg
  refine law_call k1 G.T.g G.T.b G.T.builtins G.T.nolimit hg hobj hints (Nat.le_trans hlen hn2) hr (fun base _ _ => k4 base) k2 (fun H hO hS => k3 H a ns hlen hO hS) fun H e s' z => ?_
  obtain ⟨_, _, _, _, _, _, _, _, _, _, _, _, z⟩ := z
  exact z
/-- all of it: the head's facts, the checked code, the run of the small code -/
theorem end_mp {l : PySem.W.OpenLaw} {k : Nat} {q : Program} {loose : List Str} {XP : (Str → Option Value) → Heap → Prop} {YP : World → Heap → Prop} {d : DefRec} {Pf : Nat → Option MP.Def} {M : Mx} {us : List Fu} {ul : Fu} (hn : l.most = some 63) (hdf : d.params.defaults = []) (hr : Room k callerA)
    (hY : ∀ w h, YP w h → ∃ K : PySem.W.Frag, K.In h ∧ He.SaysX (faOf M us) (us.map Fu.dd) (tsOf M) [] (exOf M) w h K) (hl : ul ∈ us) (hd : d.name = ul.name) (hps : ul.ps = [("script" : Str)]) (ht : tabB Pf M us = true) (hP : ∀ u ∈ us, Pf u.id = some u.code)
    (hb : ∀ {K : PySem.W.Frag}, ∀ u ∈ us, ∀ (kws : List (Str × V)) (f : Addr) (fd : FuncData), FunD K u.name u.qual u.params u.body u.scope [] kws f fd → Binds K fd u.ps [])
    (hbA : ∀ {K : PySem.W.Frag} (kws : List (Str × V)) (f : Addr) (fd : FuncData), FunD K ul.name ul.qual ul.params ul.body ul.scope [] kws f fd → ∀ (s : Shared) (u : Value), BindsTo s fd ⟨[u], []⟩ [("script", u)])
    (main : ∀ ns : List Int, ns.length ≤ 63 → ∃ h', MP.lev Pf k false ul.id [.ctp (ns.map .int)] 0 [] = .ok (.d (.bl true)) h') : PySem.W.WalkO q loose XP YP l.row.toRowW d [] (fun f vs => PySem.call f vs) := by
  refine walk_mp (n := 63) (k := k) (x := "script") hn (by decide) hdf hr fun w mg fa h Y G hmg => ?_
  obtain ⟨K, KX, c⟩ := hY w h Y
  have hm := hm_of (Pf := Pf) KX G c ht hP (fun u hu => hb u hu)
  obtain ⟨fa', fd, kws, F, e, _⟩ := hm.fu ul hl
  rw [hd] at hmg
  rw [hmg] at e
  cases e
  refine ⟨K, fd, spOf K (fun _ => 0) (fun _ => "") (fun j => He.ga K (exN M j)) (MP.lev Pf k false ul.id) 1, KX, hbA kws fa fd F, fun H a ns hz hO hS => law_sp hO hS (main ns hz), fun base => ?_⟩
  have := fn_ok (P := l.prog) (w := w) (base := base) (cA := fun _ => 0) (fN := fun _ => "") hm k ul hl fa fd kws F
  rw [hps] at this
  exact this
end MPS
end
section
set_option linter.all false
set_option maxRecDepth 100000
set_option maxHeartbeats 4000000
/-! the evaluator's steps as rewriting rules; loops and comprehensions by rules of their own -/
namespace MP
@[simp] theorem RS.seq_rt (v : Vl) (h : Hp) (f : Env → Hp → RS) : (RS.rt v h).seq f = .rt v h := rfl
@[simp] theorem RS.seq_bk (ρ : Env) (h : Hp) (f : Env → Hp → RS) : (RS.bk ρ h).seq f = .bk ρ h := rfl
@[simp] theorem RS.seq_ct (ρ : Env) (h : Hp) (f : Env → Hp → RS) : (RS.ct ρ h).seq f = .ct ρ h := rfl
@[simp] theorem RS.seq_exc (c : Nat) (ρ : Env) (h : Hp) (f : Env → Hp → RS) : (RS.exc c ρ h).seq f = .exc c ρ h := rfl
section
variable {G : Fns} {fl : Nat} {ρ : Env} {h : Hp}
@[simp] theorem ev_var {i : Nat} : ev G fl (.var i) ρ h = (match ρ[i]? with | some (some d) => .ok (.d d) h | _ => .err) := by first | (rw [ev]; done) | (rw [ev]; rfl)
@[simp] theorem ev_cst {d : D} : ev G fl (.cst d) ρ h = .ok (.d d) h := by first | (rw [ev]; done) | (rw [ev]; rfl)
@[simp] theorem ev_glb {i : Nat} {d : D} : ev G fl (.glb i d) ρ h = .ok (.d d) h := by first | (rw [ev]; done) | (rw [ev]; rfl)
@[simp] theorem ev_tup {es : List Ex} : ev G fl (.tup es) ρ h = (evL G fl es ρ h).bind fun l h => .ok (.d (.tup l)) h := by first | (rw [ev]; done) | (rw [ev]; rfl)
@[simp] theorem ev_lst {es : List Ex} : ev G fl (.lst es) ρ h = (evL G fl es ρ h).bind fun l h => .ok (.nls l) h := by first | (rw [ev]; done) | (rw [ev]; rfl)
@[simp] theorem ev_dnew : ev G fl .dnew ρ h = .ok (.ndc []) h := by first | (rw [ev]; done) | (rw [ev]; rfl)
@[simp] theorem ev_bin {op : Bop} {a b : Ex} : ev G fl (.bin op a b) ρ h = (ev G fl a ρ h).bind fun x h => (ev G fl b ρ h).bind fun y h => R.of (binOp h op x y) h := by first | (rw [ev]; done) | (rw [ev]; rfl)
@[simp] theorem ev_neg {a : Ex} : ev G fl (.neg a) ρ h = (ev G fl a ρ h).bind fun x h => match x with | .d (.int i) => .ok (.d (.int (-i))) h | _ => .err := by first | (rw [ev]; done) | (rw [ev]; rfl)
@[simp] theorem ev_not {a : Ex} : ev G fl (.not a) ρ h = (ev G fl a ρ h).bind fun x h => match truth h x with | some b => .ok (.d (.bl (!b))) h | none => .err := by first | (rw [ev]; done) | (rw [ev]; rfl)
@[simp] theorem ev_and {a b : Ex} : ev G fl (.and a b) ρ h = (ev G fl a ρ h).bind fun x h => match x with | .d (.bl true) => ev G fl b ρ h | .d (.bl false) => .ok (.d (.bl false)) h | _ => .err := by first | (rw [ev]; done) | (rw [ev]; rfl)
@[simp] theorem ev_or {a b : Ex} : ev G fl (.or a b) ρ h = (ev G fl a ρ h).bind fun x h => match x with | .d (.bl true) => .ok (.d (.bl true)) h | .d (.bl false) => ev G fl b ρ h | _ => .err := by first | (rw [ev]; done) | (rw [ev]; rfl)
@[simp] theorem ev_cmp {op : Cop} {a b : Ex} : ev G fl (.cmp op a b) ρ h = (ev G fl a ρ h).bind fun x h => (ev G fl b ρ h).bind fun y h => match cmpOp h op x y with | some k => .ok (.d (.bl k)) h | none => .err := by first | (rw [ev]; done) | (rw [ev]; rfl)
@[simp] theorem ev_chn {o1 o2 : Cop} {a b c : Ex} : ev G fl (.chn o1 o2 a b c) ρ h = (ev G fl a ρ h).bind fun x h => (ev G fl b ρ h).bind fun y h => match cmpOp h o1 x y with
    | some false => .ok (.d (.bl false)) h
    | some true => (ev G fl c ρ h).bind fun z h => match cmpOp h o2 y z with | some k => .ok (.d (.bl k)) h | none => .err
    | none => .err := by first | (rw [ev]; done) | (rw [ev]; rfl)
@[simp] theorem ev_ife {c a b : Ex} : ev G fl (.ife c a b) ρ h = (evT G fl c ρ h).bind fun k h => if k then ev G fl a ρ h else ev G fl b ρ h := by first | (rw [ev]; done) | (rw [ev]; rfl)
@[simp] theorem ev_sub {a i : Ex} : ev G fl (.sub a i) ρ h = (ev G fl a ρ h).bind fun x h => (ev G fl i ρ h).bind fun y h => R.of (subOp h x y) h := by first | (rw [ev]; done) | (rw [ev]; rfl)
@[simp] theorem ev_slc {a : Ex} {lo hi : Option Ex} : ev G fl (.slc a lo hi) ρ h = (ev G fl a ρ h).bind fun x h => (evO G fl lo ρ h).bind fun i h => (evO G fl hi ρ h).bind fun j h => R.of (slcOp h x i j) h := by first | (rw [ev]; done) | (rw [ev]; rfl)
@[simp] theorem ev_rev {a : Ex} : ev G fl (.rev a) ρ h = (ev G fl a ρ h).bind fun x h => match lstOf h x with | some l => .ok (.nls l.reverse) h | none => .err := by first | (rw [ev]; done) | (rw [ev]; rfl)
@[simp] theorem ev_call {pu : Bool} {f : Nat} {es : List Ex} : ev G fl (.call pu f es) ρ h = (evL G fl es ρ h).bind fun l h => callA G pu f l fl h := by first | (rw [ev]; done) | (rw [ev]; rfl)
@[simp] theorem ev_blt {b : Blt} {es : List Ex} : ev G fl (.blt b es) ρ h = (evV G fl es ρ h).bind fun l h => R.ofP (bltOp fl h b l) := by first | (rw [ev]; done) | (rw [ev]; rfl)
@[simp] theorem ev_mth {b : Blt} {o : Ex} {es : List Ex} : ev G fl (.mth b o es) ρ h = (ev G fl o ρ h).bind fun x h => if rcv h b x then (evV G fl es ρ h).bind fun l h => R.ofP (bltOp fl h b (x :: l)) else .err := by first | (rw [ev]; done) | (rw [ev]; rfl)
@[simp] theorem evL_nil : evL G fl [] ρ h = .ok [] h := by first | (rw [evL]; done) | (rw [evL]; rfl)
@[simp] theorem evL_cons {e : Ex} {es : List Ex} : evL G fl (e :: es) ρ h = (ev G fl e ρ h).bind fun x h => (evL G fl es ρ (keep h x).2).bind fun l h' => .ok ((keep h x).1 :: l) h' := by first | (rw [evL]; done) | (rw [evL]; rfl)
@[simp] theorem evV_nil : evV G fl [] ρ h = .ok [] h := by first | (rw [evV]; done) | (rw [evV]; rfl)
@[simp] theorem evV_cons {e : Ex} {es : List Ex} : evV G fl (e :: es) ρ h = (ev G fl e ρ h).bind fun x h => (evV G fl es ρ h).bind fun l h => .ok (x :: l) h := by first | (rw [evV]; done) | (rw [evV]; rfl)
@[simp] theorem evO_none : evO G fl none ρ h = .ok none h := by first | (rw [evO]; done) | (rw [evO]; rfl)
@[simp] theorem evO_some {e : Ex} : evO G fl (some e) ρ h = (ev G fl e ρ h).bind fun x h => match x with | .d (.int i) => .ok (some i) h | _ => .err := by first | (rw [evO]; done) | (rw [evO]; rfl)
@[simp] theorem evC_none : evC G fl none ρ h = .ok true h := by first | (rw [evC]; done) | (rw [evC]; rfl)
@[simp] theorem evC_some {e : Ex} : evC G fl (some e) ρ h = evT G fl e ρ h := by first | (rw [evC]; done) | (rw [evC]; rfl)
@[simp] theorem evT_not {a : Ex} : evT G fl (.not a) ρ h = (evT G fl a ρ h).bind fun b h => .ok (!b) h := by first | (rw [evT]; done) | (rw [evT]; rfl)
@[simp] theorem evT_and {a b : Ex} : evT G fl (.and a b) ρ h = (evT G fl a ρ h).bind fun k h => if k then evT G fl b ρ h else .ok false h := by first | (rw [evT]; done) | (rw [evT]; rfl)
@[simp] theorem evT_or {a b : Ex} : evT G fl (.or a b) ρ h = (evT G fl a ρ h).bind fun k h => if k then .ok true h else evT G fl b ρ h := by first | (rw [evT]; done) | (rw [evT]; rfl)
@[simp] theorem evT_var {i : Nat} : evT G fl (.var i) ρ h = (match ρ[i]? with | some (some d) => (match truth h (.d d) with | some b => .ok b h | none => .err) | _ => .err) := by first | (rw [evT]; done) | (rw [evT]; rfl)
@[simp] theorem evT_cmp {op : Cop} {a b : Ex} : evT G fl (.cmp op a b) ρ h = (ev G fl a ρ h).bind fun x h => (ev G fl b ρ h).bind fun y h => match cmpOp h op x y with | some k => .ok k h | none => .err := by first | (rw [evT]; done) | (rw [evT]; rfl)
@[simp] theorem evT_call {pu : Bool} {f : Nat} {es : List Ex} : evT G fl (.call pu f es) ρ h = (evL G fl es ρ h).bind fun l h => (callA G pu f l fl h).bind fun x h => match truth h x with | some b => .ok b h | none => .err := by first | (rw [evT]; done) | (rw [evT]; rfl)
@[simp] theorem evT_blt {b : Blt} {es : List Ex} : evT G fl (.blt b es) ρ h = (evV G fl es ρ h).bind fun l h => (R.ofP (bltOp fl h b l)).bind fun x h => match truth h x with | some b => .ok b h | none => .err := by first | (rw [evT]; done) | (rw [evT]; rfl)
@[simp] theorem evI_seq {e : Ex} : evI G fl (.seq e) ρ h = (ev G fl e ρ h).bind fun x h => match srcOf h x with | some s => .ok s h | none => .err := by first | (rw [evI]; done) | (rw [evI]; rfl)
@[simp] theorem exs_nil : exs G fl [] ρ h = .nx ρ h := by first | (rw [exs]; done) | (rw [exs]; rfl)
@[simp] theorem exs_cons {s : Stm} {r : List Stm} : exs G fl (s :: r) ρ h = (ex G fl s ρ h).seq fun ρ h => exs G fl r ρ h := by first | (rw [exs]; done) | (rw [exs]; rfl)
@[simp] theorem ex_asgV {al : Bool} {i : Nat} {e : Ex} : ex G fl (.asg al (.v i) e) ρ h = (ev G fl e ρ h).st ρ fun v h => if i < ρ.length then .nx (ρ.set i (some (keepA al h v).1)) (keepA al h v).2 else .err := by first | (rw [ex]; done) | (rw [ex]; rfl)
@[simp] theorem ex_exp {e : Ex} : ex G fl (.exp e) ρ h = (ev G fl e ρ h).st ρ fun _ h => .nx ρ h := by first | (rw [ex]; done) | (rw [ex]; rfl)
@[simp] theorem ex_ret {e : Ex} : ex G fl (.ret e) ρ h = (ev G fl e ρ h).st ρ fun v h => .rt v h := by first | (rw [ex]; done) | (rw [ex]; rfl)
@[simp] theorem ex_ifs {c : Ex} {a b : List Stm} : ex G fl (.ifs c a b) ρ h = (evT G fl c ρ h).st ρ fun k h => if k then exs G fl a ρ h else exs G fl b ρ h := by first | (rw [ex]; done) | (rw [ex]; rfl)
@[simp] theorem ex_setI {o i e : Ex} : ex G fl (.setI o i e) ρ h = (ev G fl e ρ h).st ρ fun v h => (ev G fl o ρ h).st ρ fun x h => (ev G fl i ρ h).st ρ fun j h => match x with
    | .d (.ref n) => if n < fl then .err else match h[n]? with
      | some (.lst l) => match j with
        | .d (.int k) => match atIx l.length k with
          | some p => .nx ρ ((keep h v).2.set n (.lst (l.set p (keep h v).1)))
          | none => .err
        | _ => .err
      | some (.dic l) => match j with
        | .d k => match kyOf k with
          | some a => if l.length < most then .nx ρ ((keep h v).2.set n (.dic (putK a (keep h v).1 l))) else .err
          | none => .err
        | _ => .err
      | _ => .err
    | _ => .err := by first | (rw [ex]; done) | (rw [ex]; rfl)
theorem evI_rng1 {a : Ex} {i : Int} (ha : ev G fl a ρ h = .ok (.d (.int i)) h) (hz : i ≤ 16777216 ∧ -16777216 ≤ i) : evI G fl (.rng1 a) ρ h = .ok (.fix (rngD 0 i.toNat)) h := by
  rw [evI, ha]
  simp only [R.bind_ok, if_pos hz]
theorem ex_for {t : Tg} {it : It} {b : List Stm} {l : List D} {h1 : Hp} (hi : evI G fl it ρ h = .ok (.fix l) h1) : ex G fl (.fors t it b) ρ h = forFix t (fun ρ h => exs G fl b ρ h) l ρ h1 := by
  rw [ex, hi]
  rfl
/-- a comprehension's turn -/
def turn (G : Fns) (fl : Nat) (tg : Tg) (cond : Option Ex) (elt : Ex) (ρ : Env) (x : D) (h : Hp) : R (Option D) := match bindT h tg x ρ with
  | some ρ' => (evC G fl cond ρ' h).bind fun k h => if k then (ev G fl elt ρ' h).bind fun y h => .ok (some (keep h y).1) (keep h y).2 else .ok none h
  | none => .err
theorem compFix_ok {step : D → Hp → R (Option D)} {g : D → Option D} : ∀ (l acc : List D), (∀ x ∈ l, step x h = .ok (g x) h) → compFix step l acc h = .ok (acc ++ l.filterMap g) h
  | [], acc, _ => by simp [compFix]
  | x :: l, acc, hs => by
    unfold compFix
    rw [hs x List.mem_cons_self]
    show compFix step l (addO acc (g x)) h = _
    rw [compFix_ok l (addO acc (g x)) fun y hy => hs y (List.mem_cons_of_mem _ hy)]
    cases e : g x <;> simp [addO, e]
theorem ev_comp {own : List Nat} {tg : Tg} {it : It} {cond : Option Ex} {elt : Ex} {l : List D} {h1 : Hp} (g : D → Option D) (hi : evI G fl it ρ h = .ok (.fix l) h1) (hs : ∀ x ∈ l, turn G fl tg cond elt (wipe ρ own) x h1 = .ok (g x) h1) : ev G fl (.comp own tg it cond elt) ρ h = .ok (.nls (l.filterMap g)) h1 := by
  have e : ev G fl (.comp own tg it cond elt) ρ h = (evI G fl it ρ h).bind fun s h => (compGo (turn G fl tg cond elt (wipe ρ own)) s h).bind fun l h => .ok (.nls l) h := by
    rw [ev]; rfl
  rw [e, hi]
  show (compFix _ l [] h1).bind _ = _
  rw [compFix_ok (g := g) l [] hs]
  simp
theorem evT_comp {own : List Nat} {tg : Tg} {it : It} {cond : Option Ex} {elt : Ex} {l : List D} {h1 : Hp} (g : D → Option D) (hi : evI G fl it ρ h = .ok (.fix l) h1) (hs : ∀ x ∈ l, turn G fl tg cond elt (wipe ρ own) x h1 = .ok (g x) h1) : evT G fl (.comp own tg it cond elt) ρ h = .ok (!(l.filterMap g).isEmpty) h1 := by
  have e : evT G fl (.comp own tg it cond elt) ρ h = (evI G fl it ρ h).bind fun s h => (compGo (turn G fl tg cond elt (wipe ρ own)) s h).bind fun l h => .ok (!l.isEmpty) h := by
    rw [evT]; rfl
  rw [e, hi]
  show (compFix _ l [] h1).bind _ = _
  rw [compFix_ok (g := g) l [] hs]
  simp
/-- a loop, by what holds of the items gone through -/
theorem for_ok {t : Tg} {body : Env → Hp → RS} (P : List D → Env → Hp → Prop) : ∀ (l done : List D) (ρ : Env) (h : Hp), P done ρ h →
    (∀ x d' r ρ h, done ++ l = d' ++ x :: r → P d' ρ h → ∃ ρ1, bindT h t x ρ = some ρ1 ∧ ((∃ ρ2 h2, (body ρ1 h = .nx ρ2 h2 ∨ body ρ1 h = .ct ρ2 h2) ∧ P (d' ++ [x]) ρ2 h2))) → ∃ ρ' h', forFix t body l ρ h = .nx ρ' h' ∧ P (done ++ l) ρ' h'
  | [], done, ρ, h, p, _ => ⟨ρ, h, rfl, by simpa using p⟩
  | x :: l, done, ρ, h, p, st => by
    obtain ⟨ρ1, b, ρ2, h2, e, p2⟩ := st x done l ρ h rfl p
    obtain ⟨ρ', h', e', p'⟩ := for_ok P l (done ++ [x]) ρ2 h2 p2 fun y d' r ρ h e => st y d' r ρ h (by simpa using e)
    refine ⟨ρ', h', ?_, by simpa using p'⟩
    unfold forFix
    rw [b]
    rcases e with e | e <;> (simp only [e]; exact e')
end
theorem run_rt {G : Fns} {d : Def} {as : List D} {fl : Nat} {ρ : Env} {h h' : Hp} {v : Vl} (hl : as.length = d.params) (hs : start d.names as = ρ) (he : exs G fl d.body ρ h = .rt v h') : runDef G d as fl h = .ok v h' := by
  unfold runDef
  rw [if_pos hl, hs, he]
theorem run_nx {G : Fns} {d : Def} {as : List D} {fl : Nat} {ρ ρ' : Env} {h h' : Hp} (hl : as.length = d.params) (hs : start d.names as = ρ) (he : exs G fl d.body ρ h = .nx ρ' h') : runDef G d as fl h = .ok (.d .non) h' := by
  unfold runDef
  rw [if_pos hl, hs, he]
theorem exs_to {G : Fns} {fl : Nat} {s : Stm} {r : List Stm} {ρ ρ1 : Env} {h h1 : Hp} {x : RS} (a : ex G fl s ρ h = .nx ρ1 h1) (b : exs G fl r ρ1 h1 = x) : exs G fl (s :: r) ρ h = x := by
  rw [exs_cons, a]
  exact b
theorem lev_call {P : Nat → Option Def} {n f : Nat} {d : Def} (h : P f = some d) (as : List D) (fl : Nat) (hp : Hp) : lev P (n + 1) false f as fl hp = runDef (lev P n) d as fl hp := by
  show (match P f with | some d => runDef (lev P n) d as fl hp | none => .err) = _
  rw [h]
theorem callA_of {P : Nat → Option Def} {n f : Nat} {d : Def} {as : List D} {fl : Nat} {h h' : Hp} {v w : Vl} (hP : P f = some d) (hr : runDef (lev P n) d as h.length h = .ok v h') (ho : outV h.length h' v = some w) : callA (lev P (n + 1)) true f as fl h = .ok w h := by
  unfold callA callP
  rw [if_pos rfl, lev_call hP, hr]
  simp [ho]
theorem nrL_all {k : Nat} : ∀ {l : List D}, (∀ d ∈ l, nrN k d = true) → nrL k l = true
  | [], _ => rfl
  | d :: l, h => by
    simp only [nrL, Bool.and_eq_true]
    exact ⟨h d List.mem_cons_self, nrL_all fun x hx => h x (List.mem_cons_of_mem _ hx)⟩
/-- a thing: a key with its value -/
def tD (p : Txt × Int) : D := .tup [.str p.1, .int p.2]
@[simp] theorem nrL_strs (l : List Txt) (k : Nat) : nrL k (l.map .str) = true := nrL_all fun d hd => by
  obtain ⟨t, _, rfl⟩ := List.mem_map.mp hd
  rfl
@[simp] theorem nrL_things (l : List (Txt × Int)) (k : Nat) : nrL (k + 1) (l.map tD) = true := nrL_all fun d hd => by
  obtain ⟨t, _, rfl⟩ := List.mem_map.mp hd
  rfl
end MP
end
section
set_option linter.all false
set_option maxRecDepth 100000
set_option maxHeartbeats 4000000
/-! typed rules: comprehensions and loops over lists that are images of typed ones -/
namespace MP
theorem filterMap_if {α : Type} (enc : α → D) (c : α → Bool) (f : α → D) (g : D → Option D) : ∀ xs : List α, (∀ x ∈ xs, g (enc x) = if c x then some (f x) else none) → (xs.map enc).filterMap g = (xs.filter c).map f
  | [], _ => rfl
  | x :: xs, h => by
    have ih := filterMap_if enc c f g xs fun y hy => h y (List.mem_cons_of_mem _ hy)
    have hx := h x List.mem_cons_self
    by_cases e : c x = true
    · rw [if_pos e] at hx
      rw [List.map_cons, List.filterMap_cons_some hx, List.filter_cons_of_pos e, ih, List.map_cons]
    · rw [if_neg e] at hx
      rw [List.map_cons, List.filterMap_cons_none hx, List.filter_cons_of_neg e, ih]
/-- what a source walks -/
def Src.has (s : Src) (l : List D) (h : Hp) : Prop := match s with
  | .fix l' => l' = l
  | .live n k => h[n]? = some (.lst l) ∧ k = l.length
theorem compFixT {α : Type} {step : D → Hp → R (Option D)} {h : Hp} (enc : α → D) (c : α → Bool) (f : α → D) : ∀ (xs : List α) (acc : List D), (∀ x ∈ xs, step (enc x) h = .ok (if c x then some (f x) else none) h) → compFix step (xs.map enc) acc h = .ok (acc ++ (xs.filter c).map f) h
  | [], acc, _ => by simp [compFix]
  | x :: l, acc, hs => by
    rw [List.map_cons]
    unfold compFix
    rw [hs x List.mem_cons_self]
    show compFix step (l.map enc) (addO acc _) h = _
    rw [compFixT enc c f l _ fun y hy => hs y (List.mem_cons_of_mem _ hy)]
    by_cases e : c x = true
    · simp [addO, e]
    · simp [addO, e]
theorem compLiveT {α : Type} {step : D → Hp → R (Option D)} {h : Hp} (enc : α → D) (c : α → Bool) (f : α → D) (n : Nat) (xs : List α) (hn : h[n]? = some (.lst (xs.map enc))) (hs : ∀ x ∈ xs, step (enc x) h = .ok (if c x then some (f x) else none) h) : ∀ (m i : Nat) (acc : List D), i + m = xs.length → compLive step n xs.length m i acc h = .ok (acc ++ ((xs.drop i).filter c).map f) h
  | 0, i, acc, e => by
    have : xs.length ≤ i := by omega
    simp [compLive, stillAt, hn, List.drop_eq_nil_of_le this]
  | m + 1, i, acc, e => by
    have hi : i < xs.length := by omega
    unfold compLive
    have q : itemAt h n xs.length i = some (enc xs[i]) := by simp [itemAt, hn, hi]
    rw [q]
    simp only []
    rw [hs xs[i] (List.getElem_mem _)]
    simp only []
    rw [compLiveT enc c f n xs hn hs m (i + 1) _ (by omega), List.drop_eq_getElem_cons hi]
    by_cases e : c xs[i] = true
    · rw [List.filter_cons_of_pos e, if_pos e, List.map_cons]
      show R.ok ((acc ++ [f xs[i]]) ++ _) h = _
      rw [List.append_assoc]; rfl
    · rw [List.filter_cons_of_neg e, if_neg e]; rfl
theorem compGoT {α : Type} {step : D → Hp → R (Option D)} {h : Hp} {s : Src} (enc : α → D) (c : α → Bool) (f : α → D) (xs : List α) (hh : s.has (xs.map enc) h) (hs : ∀ x ∈ xs, step (enc x) h = .ok (if c x then some (f x) else none) h) : compGo step s h = .ok ((xs.filter c).map f) h := by
  cases s with
  | fix l =>
    have e : l = xs.map enc := hh
    subst e
    show compFix step _ [] h = _
    rw [compFixT enc c f xs [] hs]
    simp
  | live n k =>
    obtain ⟨e1, e2⟩ := hh
    rw [List.length_map] at e2
    subst e2
    show compLive step n _ _ 0 [] h = _
    rw [compLiveT enc c f n xs e1 hs _ 0 [] (by omega)]
    simp
section
variable {G : Fns} {fl : Nat} {ρ : Env} {h : Hp}
theorem ev_compT {α : Type} {own : List Nat} {tg : Tg} {it : It} {cond : Option Ex} {elt : Ex} {h1 : Hp} {s : Src} (enc : α → D) (c : α → Bool) (f : α → D) (xs : List α) (hi : evI G fl it ρ h = .ok s h1) (hh : s.has (xs.map enc) h1) (hs : ∀ x ∈ xs, turn G fl tg cond elt (wipe ρ own) (enc x) h1 = .ok (if c x then some (f x) else none) h1) : ev G fl (.comp own tg it cond elt) ρ h = .ok (.nls ((xs.filter c).map f)) h1 := by
  have e : ev G fl (.comp own tg it cond elt) ρ h = (evI G fl it ρ h).bind fun s h => (compGo (turn G fl tg cond elt (wipe ρ own)) s h).bind fun l h => .ok (.nls l) h := by
    rw [ev]; rfl
  rw [e, hi]
  show (compGo _ s h1).bind _ = _
  rw [compGoT enc c f xs hh hs]
  simp
theorem evT_compT {α : Type} {own : List Nat} {tg : Tg} {it : It} {cond : Option Ex} {elt : Ex} {h1 : Hp} {s : Src} (enc : α → D) (c : α → Bool) (f : α → D) (xs : List α) (hi : evI G fl it ρ h = .ok s h1) (hh : s.has (xs.map enc) h1) (hs : ∀ x ∈ xs, turn G fl tg cond elt (wipe ρ own) (enc x) h1 = .ok (if c x then some (f x) else none) h1) : evT G fl (.comp own tg it cond elt) ρ h = .ok (xs.any c) h1 := by
  have e : evT G fl (.comp own tg it cond elt) ρ h = (evI G fl it ρ h).bind fun s h => (compGo (turn G fl tg cond elt (wipe ρ own)) s h).bind fun l h => .ok (!l.isEmpty) h := by
    rw [evT]; rfl
  rw [e, hi]
  show (compGo _ s h1).bind _ = _
  rw [compGoT enc c f xs hh hs]
  have : ∀ l : List α, (!((l.filter c).map f).isEmpty) = l.any c := fun l => by
    induction l with
    | nil => rfl
    | cons x l ih => cases e : c x <;> simp_all
  simp only [R.bind_ok, this]
/-- all of them -/
theorem ev_compM {α : Type} {own : List Nat} {tg : Tg} {it : It} {cond : Option Ex} {elt : Ex} {h1 : Hp} {s : Src} (enc : α → D) (f : α → D) (xs : List α) (hi : evI G fl it ρ h = .ok s h1) (hh : s.has (xs.map enc) h1) (hs : ∀ x ∈ xs, turn G fl tg cond elt (wipe ρ own) (enc x) h1 = .ok (some (f x)) h1) : ev G fl (.comp own tg it cond elt) ρ h = .ok (.nls (xs.map f)) h1 := by
  have := ev_compT enc (fun _ => true) f xs hi hh (own := own) (tg := tg) (cond := cond) (elt := elt) fun x hx => by rw [hs x hx]; rfl
  rw [this, List.filter_eq_self.mpr (fun _ _ => rfl)]
/-- a loop as a fold: a relation between the plain state, the names and the heap -/
theorem for_foldA {α σ : Type} {t : Tg} {body : Env → Hp → RS} (enc : α → D) (stp : σ → α → σ) (s0 : σ) (Rl : σ → Env → Hp → Prop) : ∀ (xs d : List α) (ρ : Env) (h : Hp), Rl (d.foldl stp s0) ρ h →
    (∀ d' x r ρ h, d ++ xs = d' ++ x :: r → Rl (d'.foldl stp s0) ρ h → ∃ ρ1, bindT h t (enc x) ρ = some ρ1 ∧ ∃ ρ2 h2, (body ρ1 h = .nx ρ2 h2 ∨ body ρ1 h = .ct ρ2 h2) ∧ Rl (stp (d'.foldl stp s0) x) ρ2 h2) → ∃ ρ' h', forFix t body (xs.map enc) ρ h = .nx ρ' h' ∧ Rl ((d ++ xs).foldl stp s0) ρ' h'
  | [], d, ρ, h, p, _ => ⟨ρ, h, rfl, by simpa using p⟩
  | x :: l, d, ρ, h, p, st => by
    obtain ⟨ρ1, b, ρ2, h2, e, p2⟩ := st d x l ρ h rfl p
    obtain ⟨ρ', h', e', p'⟩ := for_foldA enc stp s0 Rl l (d ++ [x]) ρ2 h2 (by simpa using p2) fun d' y r ρ h q => st d' y r ρ h (by simpa using q)
    refine ⟨ρ', h', ?_, by simpa using p'⟩
    rw [List.map_cons]
    unfold forFix
    rw [b]
    rcases e with e | e <;> (simp only [e]; exact e')
theorem for_fold {α σ : Type} {t : Tg} {body : Env → Hp → RS} (enc : α → D) (stp : σ → α → σ) (Rl : σ → Env → Hp → Prop) (xs : List α) (s0 : σ) (ρ : Env) (h : Hp) (h0 : Rl s0 ρ h)
    (hs : ∀ d x r ρ h, xs = d ++ x :: r → Rl (d.foldl stp s0) ρ h → ∃ ρ1, bindT h t (enc x) ρ = some ρ1 ∧ ∃ ρ2 h2, (body ρ1 h = .nx ρ2 h2 ∨ body ρ1 h = .ct ρ2 h2) ∧ Rl (stp (d.foldl stp s0) x) ρ2 h2) : ∃ ρ' h', forFix t body (xs.map enc) ρ h = .nx ρ' h' ∧ Rl (xs.foldl stp s0) ρ' h' := by
  have := for_foldA (t := t) (body := body) enc stp s0 Rl xs [] ρ h h0 (by simpa using hs)
  simpa using this
end
/-! ### places -/
theorem atIx_nat {n i : Nat} (h : i < n) : atIx n (i : Int) = some i := by simp [atIx, h]
theorem atIx_int {n : Nat} {i : Int} (h0 : 0 ≤ i) (h : i < n) : atIx n i = some i.toNat := by
  have : i.toNat < n := by omega
  simp [atIx, h0, this]
theorem sub_at {h : Hp} {a : Vl} {l : List D} {i : Int} {v : D} (hs : seqOf h a = some l) (h0 : 0 ≤ i) (e : l[i.toNat]? = some v) : subOp h a (.d (.int i)) = some (.d v) := by
  have hi : i.toNat < l.length := (List.getElem?_eq_some_iff.mp e).1
  have hi2 : i < l.length := by omega
  cases a with
  | d x =>
    cases x with
    | str t => simp [seqOf] at hs
    | _ => simp only [subOp, hs, atIx_int h0 hi2, e]
  | _ => simp only [subOp, hs, atIx_int h0 hi2, e]
theorem sub_two (h : Hp) (x y : D) (i : Int) : subOp h (.nls [x, y]) (.d (.int (i % 2))) = some (.d (if i % 2 = 0 then x else y)) := by
  have h1 := Int.emod_nonneg i (by decide : (2 : Int) ≠ 0)
  have h2 := Int.emod_lt_of_pos i (by decide : (0 : Int) < 2)
  have : i % 2 = 0 ∨ i % 2 = 1 := by omega
  rcases this with e | e <;> rw [e] <;> rfl
theorem sub_three (h : Hp) (x y z : D) (i : Int) : subOp h (.nls [x, y, z]) (.d (.int (i % 3))) = some (.d (if i % 3 = 0 then x else if i % 3 = 1 then y else z)) := by
  have h1 := Int.emod_nonneg i (by decide : (3 : Int) ≠ 0)
  have h2 := Int.emod_lt_of_pos i (by decide : (0 : Int) < 3)
  have : i % 3 = 0 ∨ i % 3 = 1 ∨ i % 3 = 2 := by omega
  rcases this with e | e | e <;> rw [e] <;> rfl
theorem sub_strs {h : Hp} {a : Vl} {l : List Txt} {i : Int} (hs : seqOf h a = some (l.map .str)) (h0 : 0 ≤ i) (hi : i < l.length) : subOp h a (.d (.int i)) = some (.d (.str (l.getD i.toNat []))) := by
  have : i.toNat < l.length := by omega
  exact sub_at hs h0 (by simp [this])
theorem sub_chr {h : Hp} {t : Txt} {i : Int} (hz : t.length ≤ most) (h0 : 0 ≤ i) (hi : i < t.length) : subOp h (.d (.str t)) (.d (.int i)) = some (.d (.str [t.getD i.toNat 0])) := by
  simp only [subOp, hz, if_true, atIx_int h0 hi]
theorem mod_lo (a : Int) {m : Int} (h : 0 < m) : 0 ≤ a % m := Int.emod_nonneg _ (Int.ne_of_gt h)
theorem mod_hi (a : Int) {m : Int} (h : 0 < m) : a % m < m := Int.emod_lt_of_pos _ h
end MP
end
section
set_option linter.all false
set_option maxRecDepth 100000
set_option maxHeartbeats 0
namespace Cd
open MP
/-- 1: thing, low, high -/
def c_is_within : MP.Def := ⟨3, 3, [
  (.ret (.and (.blt (.isi .int) [(.var 0)]) (.and (.not (.blt (.isi .bool) [(.var 0)])) (.chn .le .le (.var 1) (.var 0) (.var 2)))))]⟩
/-- 2: thing, sign -/
def c_is_key : MP.Def := ⟨2, 1, [
  (.ret (.and (.blt (.isi .str) [(.var 0)]) (.and (.chn .le .le (.cst (.int 1)) (.blt .len [(.var 0)]) (.cst (.int 3))) (.not (.comp [1] (.v 1) (.seq (.var 0)) (some (.cmp .notin (.var 1) (.glb 0 (.str [97, 98, 99, 100, 101, 102, 103, 104, 105, 106, 107, 108, 109, 110, 111, 112, 113, 114, 115, 116, 117, 118, 119, 120, 121, 122])))) (.var 1))))))]⟩
/-- 3: thing, one, key, value -/
def c_is_list : MP.Def := ⟨4, 1, [
  (.ifs (.or (.not (.blt (.isi .tuple) [(.var 0)])) (.cmp .gt (.blt .len [(.var 0)]) (.glb 1 (.int 16)))) [(.ret (.cst (.bl false)))] []),
  (.fors (.v 1) (.seq (.var 0)) [(.ifs (.or (.not (.blt (.isi .tuple) [(.var 1)])) (.or (.cmp .ne (.blt .len [(.var 1)]) (.cst (.int 2))) (.or (.not (.call true 2 [(.sub (.var 1) (.cst (.int 0)))])) (.not (.call true 1 [(.sub (.var 1) (.cst (.int 1))), (.cst (.int 0)), (.glb 2 (.int 999))]))))) [(.ret (.cst (.bl false)))] [])]),
  (.ret (.cmp .eq (.blt .setLen [(.comp [2, 3] (.t [(.v 2), (.v 3)]) (.seq (.var 0)) none (.var 2))]) (.blt .len [(.var 0)])))]⟩
/-- 4: thing -/
def c_look : MP.Def := ⟨1, 1, [
  (.ifs (.not (.call true 3 [(.var 0)])) [(.rai 1)] [])]⟩
/-- 5: some, key, value -/
def c_keys_of : MP.Def := ⟨3, 1, [
  (.ret (.comp [1, 2] (.t [(.v 1), (.v 2)]) (.seq (.var 0)) none (.var 1)))]⟩
/-- 6: base, other, both, places, longest, at, behind, found, want, last, key -/
def c_stays_of : MP.Def := ⟨11, 2, [
  (.asg false (.v 2) (.comp [10] (.v 10) (.seq (.var 0)) (some (.cmp .isin (.var 10) (.var 1))) (.var 10))),
  (.asg false (.v 3) (.comp [10] (.v 10) (.seq (.var 2)) none (.mth .index (.var 1) [(.var 10)]))),
  (.asg true (.v 4) (.bin .mul (.lst [(.cst (.int 1))]) (.blt .len [(.var 2)]))),
  (.fors (.v 5) (.seq (.rev (.blt .listRange [(.blt .len [(.var 2)])]))) [(.fors (.v 6) (.rng2 (.bin .add (.var 5) (.cst (.int 1))) (.blt .len [(.var 2)])) [(.ifs (.cmp .gt (.sub (.var 3) (.var 6)) (.sub (.var 3) (.var 5))) [(.setI (.var 4) (.var 5) (.blt .max2 [(.sub (.var 4) (.var 5)), (.bin .add (.sub (.var 4) (.var 6)) (.cst (.int 1)))]))] [])])]),
  (.asg true (.v 7) (.lst [])),
  (.asg false (.v 8) (.blt .maxD [(.var 4), (.cst (.int 0))])),
  (.asg false (.v 9) (.neg (.cst (.int 1)))),
  (.fors (.t [(.v 5), (.v 10)]) (.enm (.var 2)) [(.ifs (.and (.cmp .gt (.var 8) (.cst (.int 0))) (.and (.cmp .eq (.sub (.var 4) (.var 5)) (.var 8)) (.cmp .gt (.sub (.var 3) (.var 5)) (.var 9)))) [(.exp (.mth .append (.var 7) [(.var 10)])), (.asg false (.v 9) (.sub (.var 3) (.var 5))), (.aug 8 .sub (.cst (.int 1)))] [])]),
  (.ret (.var 7))]⟩
/-- 7: base, other -/
def c_stays : MP.Def := ⟨2, 2, [
  (.exp (.call true 4 [(.var 0)])),
  (.exp (.call true 4 [(.var 1)])),
  (.ret (.call true 6 [(.call true 5 [(.var 0)]), (.call true 5 [(.var 1)])]))]⟩
/-- 8: base, other, some, key -/
def c_moved_of : MP.Def := ⟨4, 2, [
  (.asg false (.v 2) (.call true 6 [(.var 0), (.var 1)])),
  (.ret (.comp [3] (.v 3) (.seq (.var 1)) (some (.and (.cmp .isin (.var 3) (.var 0)) (.cmp .notin (.var 3) (.var 2)))) (.var 3)))]⟩
/-- 9: row, at -/
def c_ahead_of : MP.Def := ⟨2, 2, [
  (.ret (.ife (.cmp .gt (.var 1) (.cst (.int 0))) (.sub (.var 0) (.bin .sub (.var 1) (.cst (.int 1)))) (.cst .non)))]⟩
/-- 10: base, other, first, row, moved, old, found, at, key, value -/
def c_deeds_of : MP.Def := ⟨10, 2, [
  (.asg false (.v 2) (.call true 5 [(.var 0)])),
  (.asg false (.v 3) (.call true 5 [(.var 1)])),
  (.asg false (.v 4) (.call true 8 [(.var 2), (.var 3)])),
  (.asg false (.v 5) (.blt .dict [(.var 0)])),
  (.asg true (.v 6) (.comp [8] (.v 8) (.seq (.var 2)) (some (.cmp .notin (.var 8) (.var 3))) (.tup [(.cst (.str [115, 116, 114, 105, 107, 101])), (.var 8)]))),
  (.fors (.t [(.v 7), (.t [(.v 8), (.v 9)])]) (.enm (.var 1)) [(.ifs (.cmp .notin (.var 8) (.var 5)) [(.exp (.mth .append (.var 6) [(.tup [(.cst (.str [112, 117, 116])), (.var 8), (.var 9), (.call true 9 [(.var 3), (.var 7)])])]))] [(.ifs (.cmp .isin (.var 8) (.var 4)) [(.exp (.mth .append (.var 6) [(.tup [(.cst (.str [109, 111, 118, 101])), (.var 8), (.call true 9 [(.var 3), (.var 7)])])]))] [])])]),
  (.exp (.mth .extend (.var 6) [(.comp [8, 9] (.t [(.v 8), (.v 9)]) (.seq (.var 1)) (some (.and (.cmp .isin (.var 8) (.var 5)) (.cmp .ne (.sub (.var 5) (.var 8)) (.var 9)))) (.tup [(.cst (.str [99, 104, 97, 110, 103, 101])), (.var 8), (.var 9)]))])),
  (.ret (.var 6))]⟩
/-- 11: base, other -/
def c_deeds : MP.Def := ⟨2, 2, [
  (.exp (.call true 4 [(.var 0)])),
  (.exp (.call true 4 [(.var 1)])),
  (.ret (.call true 10 [(.var 0), (.var 1)]))]⟩
/-- 12: script, k -/
def c_law_cell : MP.Def := ⟨2, 2, [
  (.ifs (.cmp .lt (.var 1) (.blt .len [(.var 0)])) [(.ret (.sub (.var 0) (.var 1)))] []),
  (.ret (.cst (.int 0)))]⟩
/-- 13: seed, k -/
def c_law_seed : MP.Def := ⟨2, 2, [
  (.ret (.bin .mod (.bin .pow (.bin .mod (.bin .add (.bin .add (.bin .mul (.var 0) (.cst (.int 1103515245))) (.bin .mul (.cst (.int 7919)) (.var 1))) (.cst (.int 12345))) (.cst (.int 2147483647))) (.cst (.int 5))) (.cst (.int 2147483647))))]⟩
/-- 14: seed, many -/
def c_law_pick : MP.Def := ⟨2, 2, [
  (.ret (.bin .mod (.bin .fdv (.var 0) (.cst (.int 97))) (.var 1)))]⟩
/-- 15: seed, letters, few, k -/
def c_law_key : MP.Def := ⟨4, 1, [
  (.asg false (.v 1) (.cst (.str [97, 98, 99, 100, 101, 102, 103, 104, 105, 106, 107, 108, 109, 110, 111, 112, 113, 114, 115, 116, 117, 118, 119, 120, 121, 122]))),
  (.asg false (.v 2) (.lst [(.cst (.str [97])), (.cst (.str [98])), (.cst (.str [99])), (.cst (.str [100])), (.cst (.str [101])), (.cst (.str [102])), (.cst (.str [103])), (.cst (.str [104])), (.cst (.str [97, 98])), (.cst (.str [122, 122, 122])), (.cst (.str [105])), (.cst (.str [106])), (.cst (.str [107])), (.cst (.str [108])), (.cst (.str [109])), (.cst (.str [110])), (.cst (.str [111])), (.cst (.str [112])), (.cst (.str [113])), (.cst (.str [114]))])),
  (.ifs (.cmp .gt (.bin .mod (.bin .fdv (.var 0) (.cst (.int 5))) (.cst (.int 9))) (.cst (.int 0))) [(.ret (.sub (.var 2) (.call true 14 [(.var 0), (.sub (.lst [(.cst (.int 6)), (.cst (.int 12)), (.cst (.int 20))]) (.bin .mod (.bin .fdv (.var 0) (.cst (.int 7))) (.cst (.int 3))))])))] []),
  (.ret (.mth .join (.cst (.str [])) [(.comp [3] (.v 3) (.rng1 (.bin .add (.cst (.int 1)) (.bin .mod (.bin .fdv (.var 0) (.cst (.int 11))) (.cst (.int 3))))) none (.sub (.var 1) (.call true 14 [(.call true 13 [(.var 0), (.var 3)]), (.cst (.int 26))])))]))]⟩
/-- 16: seed, most, found, k, one, key, other -/
def c_law_list : MP.Def := ⟨7, 2, [
  (.asg true (.v 2) (.lst [])),
  (.fors (.v 3) (.rng1 (.sub (.lst [(.bin .mod (.bin .fdv (.var 0) (.cst (.int 7))) (.bin .add (.var 1) (.cst (.int 1)))), (.var 1)]) (.bin .fdv (.call true 14 [(.var 0), (.cst (.int 3))]) (.cst (.int 2))))) [(.asg false (.v 4) (.call true 13 [(.var 0), (.var 3)])), (.asg false (.v 5) (.call true 15 [(.var 4)])), (.ifs (.cmp .notin (.var 5) (.comp [6] (.v 6) (.seq (.var 2)) none (.sub (.var 6) (.cst (.int 0))))) [(.exp (.mth .append (.var 2) [(.tup [(.var 5), (.sub (.lst [(.bin .mod (.bin .fdv (.var 4) (.cst (.int 13))) (.cst (.int 1000))), (.bin .mod (.bin .fdv (.var 4) (.cst (.int 13))) (.cst (.int 3)))]) (.bin .mod (.bin .fdv (.var 4) (.cst (.int 17))) (.cst (.int 2))))])]))] [])]),
  (.ret (.blt .tuple [(.var 2)]))]⟩
/-- 17: some, seed, many, row, k, one, pick, at, thing, key -/
def c_law_other : MP.Def := ⟨10, 3, [
  (.asg true (.v 3) (.blt .list [(.var 0)])),
  (.fors (.v 4) (.rng1 (.bin .mod (.bin .fdv (.var 1) (.cst (.int 7))) (.bin .add (.var 2) (.cst (.int 1))))) [(.asg false (.v 5) (.call true 13 [(.var 1), (.bin .add (.cst (.int 30)) (.var 4))])), (.asg false (.v 6) (.call true 14 [(.var 5), (.cst (.int 7))])), (.asg false (.v 7) (.bin .mod (.bin .fdv (.var 5) (.cst (.int 11))) (.bin .add (.blt .len [(.var 3)]) (.cst (.int 1))))), (.ifs (.and (.cmp .lt (.var 6) (.cst (.int 2))) (.cmp .ne (.var 3) (.lst []))) [(.asg false (.v 8) (.mth .popAt (.var 3) [(.bin .mod (.var 7) (.blt .len [(.var 3)]))])), (.exp (.mth .insert (.var 3) [(.bin .mod (.bin .fdv (.var 5) (.cst (.int 13))) (.bin .add (.blt .len [(.var 3)]) (.cst (.int 1)))), (.var 8)]))] [(.ifs (.and (.cmp .eq (.var 6) (.cst (.int 2))) (.cmp .ne (.var 3) (.lst []))) [(.exp (.mth .popAt (.var 3) [(.bin .mod (.var 7) (.blt .len [(.var 3)]))]))] [(.ifs (.and (.cmp .lt (.var 6) (.cst (.int 5))) (.cmp .ne (.var 3) (.lst []))) [(.setI (.var 3) (.bin .mod (.var 7) (.blt .len [(.var 3)])) (.tup [(.sub (.sub (.var 3) (.bin .mod (.var 7) (.blt .len [(.var 3)]))) (.cst (.int 0))), (.sub (.lst [(.bin .mod (.bin .fdv (.var 5) (.cst (.int 13))) (.cst (.int 1000))), (.bin .mod (.bin .fdv (.var 5) (.cst (.int 13))) (.cst (.int 4)))]) (.bin .mod (.bin .fdv (.var 5) (.cst (.int 17))) (.cst (.int 2))))]))] [(.ifs (.cmp .lt (.blt .len [(.var 3)]) (.cst (.int 16))) [(.asg false (.v 9) (.call true 15 [(.call true 13 [(.var 5), (.cst (.int 1))])])), (.ifs (.cmp .notin (.var 9) (.comp [8] (.v 8) (.seq (.var 3)) none (.sub (.var 8) (.cst (.int 0))))) [(.exp (.mth .insert (.var 3) [(.var 7), (.tup [(.var 9), (.bin .mod (.bin .fdv (.var 5) (.cst (.int 13))) (.cst (.int 5)))])]))] [])] [])])])])]),
  (.ret (.blt .tuple [(.var 3)]))]⟩
/-- 18: script, at, many, base, mine -/
def c_law_three : MP.Def := ⟨5, 3, [
  (.asg false (.v 3) (.call true 16 [(.call true 13 [(.call true 12 [(.var 0), (.var 1)]), (.cst (.int 0))]), (.cst (.int 16))])),
  (.asg false (.v 4) (.call true 17 [(.var 3), (.call true 13 [(.call true 12 [(.var 0), (.bin .add (.var 1) (.cst (.int 1)))]), (.cst (.int 1))]), (.var 2)])),
  (.ret (.tup [(.var 3), (.var 4), (.call true 17 [(.var 3), (.call true 13 [(.call true 12 [(.var 0), (.bin .add (.var 1) (.cst (.int 2)))]), (.cst (.int 2))]), (.var 2)])]))]⟩
/-- 19: one, other, best, both, key, behind, many, some, later, row -/
def c_law_stays : MP.Def := ⟨10, 2, [
  (.asg true (.v 2) .dnew),
  (.asg false (.v 3) (.comp [4] (.v 4) (.seq (.var 0)) (some (.cmp .isin (.var 4) (.var 1))) (.var 4))),
  (.fors (.v 4) (.seq (.rev (.var 3))) [(.asg false (.v 5) (.comp [8] (.v 8) (.seq (.var 3)) (some (.and (.cmp .isin (.var 8) (.var 2)) (.cmp .gt (.mth .index (.var 1) [(.var 8)]) (.mth .index (.var 1) [(.var 4)])))) (.sub (.var 2) (.var 8)))), (.asg false (.v 6) (.blt .maxL [(.bin .add (.comp [9] (.v 9) (.seq (.var 5)) none (.blt .len [(.var 9)])) (.lst [(.cst (.int 0))]))])), (.asg false (.v 7) (.comp [9] (.v 9) (.seq (.var 5)) (some (.cmp .eq (.blt .len [(.var 9)]) (.var 6))) (.var 9))), (.setI (.var 2) (.var 4) (.bin .add (.lst [(.var 4)]) (.ife (.cmp .ne (.var 7) (.lst [])) (.sub (.var 7) (.cst (.int 0))) (.lst []))))]),
  (.asg false (.v 6) (.blt .maxL [(.bin .add (.comp [4] (.v 4) (.seq (.var 3)) none (.blt .len [(.sub (.var 2) (.var 4))])) (.lst [(.cst (.int 0))]))])),
  (.ret (.sub (.bin .add (.comp [4] (.v 4) (.seq (.var 3)) (some (.cmp .eq (.blt .len [(.sub (.var 2) (.var 4))]) (.var 6))) (.sub (.var 2) (.var 4))) (.lst [(.lst [])])) (.cst (.int 0))))]⟩
/-- 20: some, key, value -/
def c_law_keys : MP.Def := ⟨3, 1, [
  (.ret (.comp [1, 2] (.t [(.v 1), (.v 2)]) (.seq (.var 0)) none (.var 1)))]⟩
/-- 21: self, key, old, one, other, side -/
def c_Merging_DOT_value : MP.Def := ⟨6, 2, [
  (.asg false (.v 2) (.mth .get (.att (.var 0) 0) [(.var 1), (.cst .non)])),
  (.asg false (.t [(.v 3), (.v 4)]) (.comp [5] (.v 5) (.seq (.att (.var 0) 2)) none (.mth .get (.var 5) [(.var 1), (.cst .non)]))),
  (.ifs (.or (.cmp .eq (.var 3) (.var 4)) (.cmp .eq (.var 4) (.var 2))) [(.ret (.var 3))] []),
  (.ifs (.cmp .eq (.var 3) (.var 2)) [(.ret (.var 4))] []),
  (.ifs (.cmp .isn (.var 2) (.cst .non)) [(.ret (.meth false 1 25 (.var 0) [(.cst (.str [112, 117, 116])), (.var 1), (.var 3), (.var 4), (.blt .min2 [(.var 3), (.var 4)])]))] []),
  (.ifs (.or (.cmp .isn (.var 3) (.cst .non)) (.cmp .isn (.var 4) (.cst .non))) [(.ret (.meth false 1 25 (.var 0) [(.cst (.str [115, 116, 114, 105, 107, 101])), (.var 1), (.var 3), (.var 4), (.ife (.cmp .isn (.var 3) (.cst .non)) (.var 4) (.var 3))]))] []),
  (.ret (.meth false 1 25 (.var 0) [(.cst (.str [99, 104, 97, 110, 103, 101])), (.var 1), (.var 3), (.var 4), (.blt .min2 [(.var 3), (.var 4)])]))]⟩
/-- 22: self, key, some, side -/
def c_Merging_DOT_float : MP.Def := ⟨4, 2, [
  (.asg true (.v 2) (.lst [])),
  (.fors (.v 3) (.rng1 (.cst (.int 2))) [(.ifs (.and (.cmp .isin (.var 1) (.sub (.att (.var 0) 2) (.var 3))) (.or (.cmp .notin (.var 1) (.att (.var 0) 0)) (.cmp .isin (.var 1) (.sub (.att (.var 0) 4) (.var 3))))) [(.exp (.mth .append (.var 2) [(.meth true 1 26 (.var 0) [(.var 3), (.var 1)])]))] [])]),
  (.ifs (.and (.cmp .eq (.blt .len [(.var 2)]) (.cst (.int 2))) (.cmp .ne (.sub (.var 2) (.cst (.int 0))) (.sub (.var 2) (.cst (.int 1))))) [(.setI (.att (.var 0) 8) (.var 1) (.meth false 1 25 (.var 0) [(.cst (.str [112, 108, 97, 99, 101])), (.var 1), (.sub (.var 2) (.cst (.int 0))), (.sub (.var 2) (.cst (.int 1))), (.blt .minL [(.var 2)])]))] [(.ifs (.var 2) [(.setI (.att (.var 0) 8) (.var 1) (.sub (.var 2) (.cst (.int 0))))] [])])]⟩
/-- 23: self, key, ring, one -/
def c_Merging_DOT_open_rings : MP.Def := ⟨4, 1, [
  (.fors (.v 1) (.seq (.blt .sorted [(.att (.var 0) 8)])) [(.asg false (.v 2) (.meth true 1 27 (.var 0) [(.var 1)])), (.ifs (.and (.var 2) (.cmp .eq (.var 1) (.blt .minL [(.var 2)]))) [(.exp (.mth .extend (.att (.var 0) 6) [(.comp [3] (.v 3) (.seq (.var 2)) none (.tup [(.cst (.str [114, 105, 110, 103])), (.var 3)]))])), (.setI (.att (.var 0) 8) (.var 1) (.cst (.str [])))] [])])]⟩
/-- 24: self, base, mine, theirs, picks, key, value, row -/
def c_Merging_DOT___init : MP.Def := ⟨8, 5, [
  (.setA true (.var 0) 0 (.blt .dict [(.var 1)])),
  (.setA true (.var 0) 1 (.call true 5 [(.var 1)])),
  (.setA true (.var 0) 2 (.lst [(.blt .dict [(.var 2)]), (.blt .dict [(.var 3)])])),
  (.setA true (.var 0) 3 (.lst [(.call true 5 [(.var 2)]), (.call true 5 [(.var 3)])])),
  (.setA true (.var 0) 4 (.comp [7] (.v 7) (.seq (.att (.var 0) 3)) none (.call true 8 [(.att (.var 0) 1), (.var 7)]))),
  (.setA true (.var 0) 5 (.var 4)),
  (.setA true (.var 0) 6 (.lst [])),
  (.setA true (.var 0) 7 .dnew),
  (.fors (.v 5) (.seq (.blt .setSorted [(.bin .add (.bin .add (.att (.var 0) 1) (.sub (.att (.var 0) 3) (.cst (.int 0)))) (.sub (.att (.var 0) 3) (.cst (.int 1))))])) [(.asg false (.v 6) (.meth false 1 21 (.var 0) [(.var 5)])), (.ifs (.cmp .notn (.var 6) (.cst .non)) [(.setI (.att (.var 0) 7) (.var 5) (.var 6))] [])]),
  (.setA true (.var 0) 8 .dnew),
  (.fors (.v 5) (.seq (.blt .sorted [(.att (.var 0) 7)])) [(.exp (.meth false 1 22 (.var 0) [(.var 5)]))]),
  (.exp (.meth false 1 23 (.var 0) []))]⟩
/-- 25: self, kind, key, one, other, rule -/
def c_Merging_DOT_picked : MP.Def := ⟨6, 6, [
  (.exp (.mth .append (.att (.var 0) 6) [(.tup [(.var 1), (.var 2)])])),
  (.ifs (.cmp .isin (.tup [(.var 1), (.var 2)]) (.att (.var 0) 5)) [(.ret (.sub (.lst [(.var 3), (.var 4)]) (.mth .index (.glb 4 (.ctp [(.str [109, 105, 110, 101]), (.str [116, 104, 101, 105, 114, 115])])) [(.sub (.att (.var 0) 5) (.tup [(.var 1), (.var 2)]))])))] []),
  (.ret (.var 5))]⟩
/-- 26: self, side, key, row, some, one -/
def c_Merging_DOT_ahead : MP.Def := ⟨6, 3, [
  (.asg false (.v 3) (.sub (.att (.var 0) 3) (.var 1))),
  (.asg false (.v 4) (.comp [5] (.v 5) (.seq (.slc (.var 3) none (some (.mth .index (.var 3) [(.var 2)])))) (some (.cmp .isin (.var 5) (.att (.var 0) 7))) (.var 5))),
  (.ret (.ife (.var 4) (.sub (.var 4) (.neg (.cst (.int 1)))) (.cst (.str []))))]⟩
/-- 27: self, key, found, here -/
def c_Merging_DOT_ring_of : MP.Def := ⟨4, 2, [
  (.asg true (.v 2) (.lst [(.var 1)])),
  (.asg false (.v 3) (.mth .get (.att (.var 0) 8) [(.var 1), (.cst (.str []))])),
  (.whl (.and (.cmp .ne (.var 3) (.var 1)) (.and (.cmp .isin (.var 3) (.att (.var 0) 8)) (.cmp .notin (.var 3) (.var 2)))) [(.exp (.mth .append (.var 2) [(.var 3)])), (.asg false (.v 3) (.sub (.att (.var 0) 8) (.var 3)))]),
  (.ret (.ife (.cmp .eq (.var 3) (.var 1)) (.var 2) (.lst [])))]⟩
/-- 28: self, key, found, one -/
def c_Merging_DOT_behind : MP.Def := ⟨4, 2, [
  (.asg true (.v 2) (.ife (.cmp .ne (.var 1) (.cst (.str []))) (.lst [(.var 1)]) (.lst []))),
  (.fors (.v 3) (.seq (.blt .sorted [(.att (.var 0) 8)])) [(.ifs (.cmp .eq (.sub (.att (.var 0) 8) (.var 3)) (.var 1)) [(.exp (.mth .extend (.var 2) [(.meth true 1 28 (.var 0) [(.var 3)])]))] [])]),
  (.ret (.var 2))]⟩
/-- 29: self, row, key, rest, clash -/
def c_Merging_DOT_result : MP.Def := ⟨5, 1, [
  (.asg true (.v 1) (.meth true 1 28 (.var 0) [(.cst (.str []))])),
  (.fors (.v 2) (.seq (.att (.var 0) 1)) [(.ifs (.and (.cmp .isin (.var 2) (.att (.var 0) 7)) (.cmp .notin (.var 2) (.att (.var 0) 8))) [(.exp (.mth .extend (.var 1) [(.meth true 1 28 (.var 0) [(.var 2)])]))] [])]),
  (.asg false (.v 3) (.comp [4] (.v 4) (.seq (.blt .sorted [(.att (.var 0) 6)])) (some (.cmp .notin (.var 4) (.att (.var 0) 5))) (.var 4))),
  (.ret (.tup [(.blt .tuple [(.comp [2] (.v 2) (.seq (.var 1)) none (.tup [(.var 2), (.sub (.att (.var 0) 7) (.var 2))]))]), (.var 3)]))]⟩
/-- 30: base, mine, theirs -/
def c_look_all : MP.Def := ⟨3, 3, [
  (.exp (.call true 4 [(.var 0)])),
  (.exp (.call true 4 [(.var 1)])),
  (.exp (.call true 4 [(.var 2)]))]⟩
/-- 31: base, mine, theirs -/
def c_merged : MP.Def := ⟨3, 3, [
  (.exp (.call true 30 [(.var 0), (.var 1), (.var 2)])),
  (.ret (.meth true 1 29 (.mk 1 24 [(.var 0), (.var 1), (.var 2), .dnewT]) []))]⟩
/-- 32: key, base, mine, theirs, old, one, other, some -/
def c_law_value : MP.Def := ⟨8, 4, [
  (.asg false (.t [(.v 4), (.v 5), (.v 6)]) (.comp [7] (.v 7) (.seq (.tup [(.var 1), (.var 2), (.var 3)])) none (.mth .get (.var 7) [(.var 0), (.cst .non)]))),
  (.ifs (.cmp .eq (.var 5) (.var 6)) [(.ret (.tup [(.var 5), (.cst (.str []))]))] []),
  (.ifs (.or (.cmp .eq (.var 5) (.var 4)) (.cmp .eq (.var 6) (.var 4))) [(.ret (.tup [(.ife (.cmp .eq (.var 5) (.var 4)) (.var 6) (.var 5)), (.cst (.str []))]))] []),
  (.ifs (.and (.cmp .notn (.var 4) (.cst .non)) (.or (.cmp .isn (.var 5) (.cst .non)) (.cmp .isn (.var 6) (.cst .non)))) [(.ret (.tup [(.ife (.cmp .isn (.var 6) (.cst .non)) (.var 5) (.var 6)), (.cst (.str [115, 116, 114, 105, 107, 101]))]))] []),
  (.ret (.tup [(.blt .min2 [(.var 5), (.var 6)]), (.ife (.cmp .isn (.var 4) (.cst .non)) (.cst (.str [112, 117, 116])) (.cst (.str [99, 104, 97, 110, 103, 101])))]))]⟩
/-- 33: row, key, left, found, one -/
def c_law_leader : MP.Def := ⟨5, 3, [
  (.asg false (.v 3) (.cst (.str []))),
  (.fors (.v 4) (.seq (.slc (.var 0) none (some (.mth .index (.var 0) [(.var 1)])))) [(.ifs (.cmp .isin (.var 4) (.var 2)) [(.asg false (.v 3) (.var 4))] [])]),
  (.ret (.var 3))]⟩
/-- 34: base, sides, left, found, side, row, some, key -/
def c_law_leaders : MP.Def := ⟨8, 3, [
  (.asg true (.v 3) .dnew),
  (.fors (.t [(.v 4), (.v 5)]) (.enm (.var 1)) [(.asg false (.v 6) (.call true 19 [(.var 0), (.var 5)])), (.fors (.v 7) (.seq (.var 5)) [(.ifs (.and (.cmp .isin (.var 7) (.var 2)) (.cmp .notin (.var 7) (.var 6))) [(.setI (.var 3) (.var 7) (.bin .add (.mth .get (.var 3) [(.var 7), (.lst [])]) (.lst [(.tup [(.var 4), (.call true 33 [(.var 5), (.var 7), (.var 2)])])])))] [])])]),
  (.ret (.var 3))]⟩
/-- 35: leaders, found, key, row -/
def c_law_rings : MP.Def := ⟨4, 1, [
  (.asg true (.v 1) (.lst [])),
  (.fors (.v 2) (.seq (.blt .sorted [(.var 0)])) [(.asg true (.v 3) (.lst [(.var 2)])), (.whl (.and (.cmp .isin (.mth .get (.var 0) [(.sub (.var 3) (.neg (.cst (.int 1)))), (.cst (.str []))]) (.var 0)) (.cmp .notin (.sub (.var 0) (.sub (.var 3) (.neg (.cst (.int 1))))) (.var 3))) [(.exp (.mth .append (.var 3) [(.sub (.var 0) (.sub (.var 3) (.neg (.cst (.int 1)))))]))]), (.ifs (.and (.cmp .eq (.mth .get (.var 0) [(.sub (.var 3) (.neg (.cst (.int 1)))), (.cst (.str []))]) (.var 2)) (.cmp .notin (.blt .sorted [(.var 3)]) (.var 1))) [(.exp (.mth .append (.var 1) [(.blt .sorted [(.var 3)])]))] [])]),
  (.ret (.var 1))]⟩
/-- 36: key, leaders, base -/
def c_law_path : MP.Def := ⟨3, 3, [
  (.ifs (.cmp .eq (.var 0) (.cst (.str []))) [(.ret (.lst [(.tup [(.neg (.cst (.int 1))), (.cst (.str []))])]))] []),
  (.ifs (.cmp .notin (.var 0) (.var 1)) [(.ret (.lst [(.tup [(.mth .index (.var 2) [(.var 0)]), (.cst (.str []))])]))] []),
  (.ret (.bin .add (.call true 36 [(.sub (.var 1) (.var 0)), (.var 1), (.var 2)]) (.lst [(.tup [(.cst (.int 0)), (.var 0)])])))]⟩
/-- 37: base, mine, theirs, picks, first, one, other, values, clashes, key, value, kind, leaders, some, ring, order, rest, side, leader, clash, path -/
def c_law_merged : MP.Def := ⟨21, 4, [
  (.asg false (.t [(.v 4), (.v 5), (.v 6)]) (.comp [13] (.v 13) (.seq (.tup [(.var 0), (.var 1), (.var 2)])) none (.blt .dict [(.var 13)]))),
  (.asg true (.v 7) .dnew),
  (.asg true (.v 8) (.lst [])),
  (.fors (.v 9) (.seq (.blt .setSorted [(.bin .add (.bin .add (.call true 20 [(.var 0)]) (.call true 20 [(.var 1)])) (.call true 20 [(.var 2)]))])) [(.asg false (.t [(.v 10), (.v 11)]) (.call true 32 [(.var 9), (.var 4), (.var 5), (.var 6)])), (.ifs (.cmp .ne (.var 11) (.cst (.str []))) [(.exp (.mth .append (.var 8) [(.tup [(.var 11), (.var 9)])])), (.ifs (.cmp .isin (.tup [(.var 11), (.var 9)]) (.var 3)) [(.asg false (.v 10) (.mth .get (.sub (.lst [(.var 5), (.var 6)]) (.sub (.var 3) (.tup [(.var 11), (.var 9)]))) [(.var 9), (.cst .non)]))] [])] []), (.ifs (.cmp .notn (.var 10) (.cst .non)) [(.setI (.var 7) (.var 9) (.var 10))] [])]),
  (.asg true (.v 12) .dnew),
  (.asg false (.v 13) (.call true 34 [(.call true 20 [(.var 0)]), (.lst [(.call true 20 [(.var 1)]), (.call true 20 [(.var 2)])]), (.var 7)])),
  (.fors (.v 9) (.seq (.var 13)) [(.setI (.var 12) (.var 9) (.blt .minL [(.comp [17, 18] (.t [(.v 17), (.v 18)]) (.seq (.sub (.var 13) (.var 9))) none (.var 18))])), (.ifs (.cmp .eq (.blt .setLen [(.comp [17, 18] (.t [(.v 17), (.v 18)]) (.seq (.sub (.var 13) (.var 9))) none (.var 18))]) (.cst (.int 2))) [(.exp (.mth .append (.var 8) [(.tup [(.cst (.str [112, 108, 97, 99, 101])), (.var 9)])])), (.ifs (.cmp .isin (.tup [(.cst (.str [112, 108, 97, 99, 101])), (.var 9)]) (.var 3)) [(.setI (.var 12) (.var 9) (.sub (.sub (.sub (.var 13) (.var 9)) (.sub (.var 3) (.tup [(.cst (.str [112, 108, 97, 99, 101])), (.var 9)]))) (.cst (.int 1))))] [])] [])]),
  (.fors (.v 14) (.seq (.call true 35 [(.var 12)])) [(.asg true (.v 8) (.bin .add (.var 8) (.comp [9] (.v 9) (.seq (.var 14)) none (.tup [(.cst (.str [114, 105, 110, 103])), (.var 9)])))), (.setI (.var 12) (.sub (.var 14) (.cst (.int 0))) (.cst (.str [])))]),
  (.asg false (.v 15) (.blt .sorted [(.comp [9] (.v 9) (.seq (.var 7)) none (.tup [(.call true 36 [(.var 9), (.var 12), (.call true 20 [(.var 0)])]), (.var 9)]))])),
  (.asg false (.v 16) (.blt .sorted [(.comp [19] (.v 19) (.seq (.var 8)) (some (.cmp .notin (.var 19) (.var 3))) (.var 19))])),
  (.ret (.tup [(.blt .tuple [(.comp [20, 9] (.t [(.v 20), (.v 9)]) (.seq (.var 15)) none (.tup [(.var 9), (.sub (.var 7) (.var 9))]))]), (.var 16)]))]⟩
/-- 38: some, key, value -/
def c_shown : MP.Def := ⟨3, 1, [
  (.exp (.call true 4 [(.var 0)])),
  (.ret (.mth .join (.cst (.str [32])) [(.comp [1, 2] (.t [(.v 1), (.v 2)]) (.seq (.var 0)) none (.bin .add (.bin .add (.var 1) (.cst (.str [61]))) (.blt .str [(.var 2)])))]))]⟩
/-- 39: word, parts, sign -/
def c_thing_of : MP.Def := ⟨3, 1, [
  (.asg false (.v 1) (.mth .split (.var 0) [(.cst (.str [61]))])),
  (.ifs (.or (.cmp .ne (.blt .len [(.var 1)]) (.cst (.int 2))) (.or (.not (.chn .le .le (.cst (.int 1)) (.blt .len [(.sub (.var 1) (.cst (.int 1)))]) (.cst (.int 3)))) (.comp [2] (.v 2) (.seq (.sub (.var 1) (.cst (.int 1)))) (some (.cmp .notin (.var 2) (.glb 3 (.str [48, 49, 50, 51, 52, 53, 54, 55, 56, 57])))) (.var 2)))) [(.rai 4)] []),
  (.ret (.tup [(.sub (.var 1) (.cst (.int 0))), (.blt .int [(.sub (.var 1) (.cst (.int 1)))])]))]⟩
/-- 40: text, found, word -/
def c_read : MP.Def := ⟨3, 1, [
  (.ifs (.not (.blt (.isi .str) [(.var 0)])) [(.rai 4)] []),
  (.asg false (.v 1) (.tup [])),
  (.ifs (.cmp .ne (.var 0) (.cst (.str []))) [(.asg false (.v 1) (.blt .tuple [(.comp [2] (.v 2) (.seq (.mth .split (.var 0) [(.cst (.str [32]))])) none (.call true 39 [(.var 2)]))]))] []),
  (.ifs (.or (.not (.call true 3 [(.var 1)])) (.cmp .ne (.call true 38 [(.var 1)]) (.var 0))) [(.rai 4)] []),
  (.ret (.var 1))]⟩
/-- 41: thing -/
def c_is_deed_AT_changes : MP.Def := ⟨1, 1, [
  (.ifs (.or (.not (.blt (.isi .tuple) [(.var 0)])) (.or (.not (.var 0)) (.not (.blt (.isi .str) [(.sub (.var 0) (.cst (.int 0)))])))) [(.ret (.cst (.bl false)))] []),
  (.ifs (.or (.cmp .ne (.blt .len [(.var 0)]) (.blt (.tab [([115, 116, 114, 105, 107, 101], 2), ([112, 117, 116], 4), ([109, 111, 118, 101], 3), ([99, 104, 97, 110, 103, 101], 3)]) [(.sub (.var 0) (.cst (.int 0))), (.neg (.cst (.int 1)))])) (.not (.call true 2 [(.sub (.var 0) (.cst (.int 1)))]))) [(.ret (.cst (.bl false)))] []),
  (.ifs (.and (.cmp .isin (.sub (.var 0) (.cst (.int 0))) (.tup [(.cst (.str [112, 117, 116])), (.cst (.str [109, 111, 118, 101]))])) (.and (.cmp .notn (.sub (.var 0) (.neg (.cst (.int 1)))) (.cst .non)) (.not (.call true 2 [(.sub (.var 0) (.neg (.cst (.int 1))))])))) [(.ret (.cst (.bl false)))] []),
  (.ret (.or (.cmp .notin (.sub (.var 0) (.cst (.int 0))) (.tup [(.cst (.str [112, 117, 116])), (.cst (.str [99, 104, 97, 110, 103, 101]))])) (.call true 1 [(.sub (.var 0) (.cst (.int 2))), (.cst (.int 0)), (.glb 2 (.int 999))])))]⟩
/-- 42: row, thing, behind, keys -/
def c_put_behind : MP.Def := ⟨4, 3, [
  (.asg false (.v 3) (.call true 5 [(.var 0)])),
  (.ifs (.and (.cmp .notn (.var 2) (.cst .non)) (.cmp .notin (.var 2) (.var 3))) [(.ret (.cst (.bl false)))] []),
  (.exp (.mth .insert (.var 0) [(.ife (.cmp .isn (.var 2) (.cst .non)) (.cst (.int 0)) (.bin .add (.mth .index (.var 3) [(.var 2)]) (.cst (.int 1)))), (.var 1)])),
  (.ret (.cst (.bl true)))]⟩
/-- 43: row, deed, keys, at, thing -/
def c_done : MP.Def := ⟨5, 2, [
  (.asg false (.v 2) (.call true 5 [(.var 0)])),
  (.ifs (.cmp .eq (.cmp .eq (.sub (.var 1) (.cst (.int 0))) (.cst (.str [112, 117, 116]))) (.cmp .isin (.sub (.var 1) (.cst (.int 1))) (.var 2))) [(.ret (.cst (.bl false)))] []),
  (.ifs (.cmp .eq (.sub (.var 1) (.cst (.int 0))) (.cst (.str [112, 117, 116]))) [(.ret (.call false 42 [(.var 0), (.tup [(.sub (.var 1) (.cst (.int 1))), (.sub (.var 1) (.cst (.int 2)))]), (.sub (.var 1) (.cst (.int 3)))]))] []),
  (.asg false (.v 3) (.mth .index (.var 2) [(.sub (.var 1) (.cst (.int 1)))])),
  (.ifs (.cmp .eq (.sub (.var 1) (.cst (.int 0))) (.cst (.str [99, 104, 97, 110, 103, 101]))) [(.setI (.var 0) (.var 3) (.tup [(.sub (.var 1) (.cst (.int 1))), (.sub (.var 1) (.cst (.int 2)))])), (.ret (.cst (.bl true)))] []),
  (.asg false (.v 4) (.mth .popAt (.var 0) [(.var 3)])),
  (.ret (.or (.cmp .eq (.sub (.var 1) (.cst (.int 0))) (.cst (.str [115, 116, 114, 105, 107, 101]))) (.call false 42 [(.var 0), (.var 4), (.sub (.var 1) (.cst (.int 2)))])))]⟩
/-- 44: base, some, row, deed, found -/
def c_led : MP.Def := ⟨5, 2, [
  (.exp (.call true 4 [(.var 0)])),
  (.ifs (.or (.not (.blt (.isi .list) [(.var 1)])) (.comp [3] (.v 3) (.seq (.var 1)) (some (.not (.call true 41 [(.var 3)]))) (.var 3))) [(.rai 2)] []),
  (.asg true (.v 2) (.blt .list [(.var 0)])),
  (.fors (.v 3) (.seq (.var 1)) [(.ifs (.not (.call false 43 [(.var 2), (.var 3)])) [(.rai 2)] [])]),
  (.asg false (.v 4) (.blt .tuple [(.var 2)])),
  (.ifs (.not (.call true 3 [(.var 4)])) [(.rai 2)] []),
  (.ret (.var 4))]⟩
/-- 45: cell, prime, many -/
def c_law_mix : MP.Def := ⟨3, 3, [
  (.ret (.bin .mod (.bin .mod (.bin .pow (.bin .mod (.bin .mul (.var 0) (.cst (.int 48271))) (.var 1)) (.cst (.int 3))) (.var 1)) (.var 2)))]⟩
/-- 46: way, spoilt, some -/
def c_law_of_list : MP.Def := ⟨3, 3, [
  (.ifs (.cmp .eq (.var 0) (.cst (.int 0))) [(.ret (.call true 38 [(.var 1)]))] []),
  (.ifs (.cmp .eq (.var 0) (.cst (.int 1))) [(.ret (.call true 7 [(.var 2), (.var 1)]))] []),
  (.ifs (.cmp .eq (.var 0) (.cst (.int 2))) [(.ret (.call true 11 [(.var 1), (.cst .non)]))] []),
  (.ret (.ife (.cmp .eq (.var 0) (.cst (.int 3))) (.call true 44 [(.var 1), (.cst .non)]) (.call true 31 [(.var 2), (.var 2), (.var 1)])))]⟩
/-- 47: script, text, at, sign, way, other, found, odd, caught -/
def c_law_texts : MP.Def := ⟨9, 2, [
  (.asg false (.v 2) (.call true 45 [(.call true 12 [(.var 0), (.cst (.int 4))]), (.cst (.int 9949)), (.bin .add (.blt .len [(.var 1)]) (.cst (.int 1)))])),
  (.asg false (.v 3) (.sub (.lst [(.cst (.str [32])), (.cst (.str [61])), (.cst (.str [48])), (.cst (.str [97])), (.cst (.str [55])), (.cst (.str [122, 122])), (.cst (.str [10])), (.cst (.str [65]))]) (.bin .mod (.call true 12 [(.var 0), (.cst (.int 5))]) (.cst (.int 8))))),
  (.asg false (.v 4) (.bin .mod (.call true 12 [(.var 0), (.cst (.int 6))]) (.cst (.int 3)))),
  (.asg false (.v 5) (.bin .add (.bin .add (.slc (.var 1) none (some (.var 2))) (.sub (.lst [(.var 3), (.cst (.str [])), (.var 3)]) (.var 4))) (.slc (.var 1) (some (.bin .add (.var 2) (.sub (.lst [(.cst (.int 0)), (.cst (.int 1)), (.cst (.int 1))]) (.var 4)))) none))),
  (.asg false (.v 6) (.cst .non)),
  (.tri [1, 2, 4] [(.asg false (.v 6) (.call true 40 [(.var 5)]))] [(4, (.asg false (.v 6) (.cst .non)))]),
  (.ifs (.and (.cmp .notn (.var 6) (.cst .non)) (.or (.cmp .notb (.call true 3 [(.var 6)]) (.cst (.bl true))) (.cmp .ne (.call true 38 [(.var 6)]) (.var 5)))) [(.ret (.cst (.bl false)))] []),
  (.asg true (.v 7) (.lst [(.cst (.str [32])), (.cst (.str [97])), (.cst (.str [97, 61])), (.cst (.str [61, 49])), (.cst (.str [97, 61, 48, 49])), (.cst (.str [97, 61, 49, 48, 48, 48])), (.cst (.str [97, 61, 45, 49])), (.cst (.str [97, 61, 49, 32, 97, 61, 50])), (.cst (.str [97, 61, 49, 32, 32, 98, 61, 50])), (.cst (.str [97, 61, 49, 32])), (.cst (.str [32, 97, 61, 49])), (.cst (.str [65, 61, 49])), (.cst .non), (.cst (.int 7))])),
  (.exp (.mth .append (.var 7) [(.cst (.str [97, 61, 49, 61, 50]))])),
  (.asg false (.v 8) (.cst (.bl false))),
  (.tri [1, 2, 4] [(.exp (.call true 40 [(.sub (.var 7) (.bin .mod (.call true 12 [(.var 0), (.cst (.int 7))]) (.cst (.int 15))))]))] [(4, (.asg false (.v 8) (.cst (.bl true))))]),
  (.ret (.var 8))]⟩
/-- 48: row, seed, keys, here, behind, pick, changed -/
def c_law_deed : MP.Def := ⟨7, 2, [
  (.asg false (.v 2) (.ife (.cmp .isn (.var 0) (.cst .non)) (.lst []) (.call true 20 [(.var 0)]))),
  (.asg false (.v 3) (.ife (.and (.cmp .ne (.var 2) (.lst [])) (.cmp .gt (.bin .mod (.bin .fdv (.var 1) (.cst (.int 11))) (.cst (.int 9))) (.cst (.int 0)))) (.sub (.var 2) (.bin .mod (.bin .fdv (.var 1) (.cst (.int 7))) (.blt .len [(.var 2)]))) (.call true 15 [(.call true 13 [(.var 1), (.cst (.int 1))])]))),
  (.asg false (.v 4) (.ife (.and (.cmp .ne (.var 2) (.lst [])) (.cmp .gt (.bin .mod (.bin .fdv (.var 1) (.cst (.int 17))) (.cst (.int 9))) (.cst (.int 0)))) (.sub (.var 2) (.bin .mod (.bin .fdv (.var 1) (.cst (.int 13))) (.blt .len [(.var 2)]))) (.sub (.lst [(.cst .non), (.cst (.str [122, 122]))]) (.bin .fdv (.bin .mod (.bin .fdv (.var 1) (.cst (.int 19))) (.cst (.int 9))) (.cst (.int 8)))))),
  (.asg false (.v 5) (.call true 14 [(.var 1), (.cst (.int 6))])),
  (.ifs (.cmp .lt (.var 5) (.cst (.int 2))) [(.ret (.tup [(.cst (.str [112, 117, 116])), (.call true 15 [(.call true 13 [(.var 1), (.cst (.int 2))])]), (.bin .mod (.bin .fdv (.var 1) (.cst (.int 23))) (.cst (.int 1000))), (.var 4)]))] []),
  (.asg false (.v 6) (.tup [(.cst (.str [99, 104, 97, 110, 103, 101])), (.var 3), (.bin .mod (.bin .fdv (.var 1) (.cst (.int 23))) (.cst (.int 1000)))])),
  (.ret (.sub (.lst [(.tup [(.cst (.str [109, 111, 118, 101])), (.var 3), (.var 4)]), (.tup [(.cst (.str [109, 111, 118, 101])), (.var 3), (.var 4)]), (.tup [(.cst (.str [115, 116, 114, 105, 107, 101])), (.var 3)]), (.var 6)]) (.bin .sub (.var 5) (.cst (.int 2)))))]⟩
/-- 49: row, deed, keys, rest, thing, at -/
def c_law_done : MP.Def := ⟨6, 2, [
  (.asg false (.v 2) (.call true 20 [(.var 0)])),
  (.asg false (.v 3) (.comp [4] (.v 4) (.seq (.var 0)) (some (.cmp .ne (.sub (.var 4) (.cst (.int 0))) (.sub (.var 1) (.cst (.int 1))))) (.var 4))),
  (.ifs (.cmp .eq (.cmp .eq (.sub (.var 1) (.cst (.int 0))) (.cst (.str [112, 117, 116]))) (.cmp .isin (.sub (.var 1) (.cst (.int 1))) (.var 2))) [(.ret (.cst .non))] []),
  (.ifs (.cmp .eq (.sub (.var 1) (.cst (.int 0))) (.cst (.str [115, 116, 114, 105, 107, 101]))) [(.ret (.var 3))] []),
  (.ifs (.cmp .eq (.sub (.var 1) (.cst (.int 0))) (.cst (.str [99, 104, 97, 110, 103, 101]))) [(.ret (.comp [4] (.v 4) (.seq (.var 0)) none (.ife (.cmp .eq (.sub (.var 4) (.cst (.int 0))) (.sub (.var 1) (.cst (.int 1)))) (.tup [(.sub (.var 1) (.cst (.int 1))), (.sub (.var 1) (.cst (.int 2)))]) (.var 4))))] []),
  (.asg false (.v 4) (.ife (.cmp .eq (.sub (.var 1) (.cst (.int 0))) (.cst (.str [112, 117, 116]))) (.tup [(.sub (.var 1) (.cst (.int 1))), (.sub (.var 1) (.cst (.int 2)))]) (.tup [(.sub (.var 1) (.cst (.int 1))), (.sub (.blt .dict [(.var 0)]) (.sub (.var 1) (.cst (.int 1))))]))),
  (.ifs (.and (.cmp .notn (.sub (.var 1) (.neg (.cst (.int 1)))) (.cst .non)) (.cmp .notin (.sub (.var 1) (.neg (.cst (.int 1)))) (.call true 20 [(.var 3)]))) [(.ret (.cst .non))] []),
  (.asg false (.v 5) (.ife (.cmp .isn (.sub (.var 1) (.neg (.cst (.int 1)))) (.cst .non)) (.cst (.int 0)) (.bin .add (.mth .index (.call true 20 [(.var 3)]) [(.sub (.var 1) (.neg (.cst (.int 1))))]) (.cst (.int 1))))),
  (.ret (.bin .add (.bin .add (.slc (.var 3) none (some (.var 5))) (.lst [(.var 4)])) (.slc (.var 3) (some (.var 5)) none)))]⟩
/-- 50: script, base, odd, bads, caught -/
def c_law_no_deeds : MP.Def := ⟨5, 2, [
  (.asg true (.v 2) (.lst [(.cst .non), (.cst (.str [115, 116, 114, 105, 107, 101])), (.tup [(.cst (.str [115, 116, 114, 105, 107, 101]))]), (.tup [(.cst (.str [115, 116, 114, 105, 107, 101])), (.cst (.str [65]))]), (.tup [(.cst (.str [112, 117, 116])), (.cst (.str [122, 122, 122])), (.cst (.int 1))]), (.tup [(.cst (.str [112, 117, 116])), (.cst (.str [122, 122, 122])), (.cst (.int 1000)), (.cst .non)]), (.tup [(.cst (.str [109, 111, 118, 101])), (.cst (.str [97]))])])),
  (.asg true (.v 2) (.bin .add (.var 2) (.lst [(.tup [(.cst (.str [112, 117, 116])), (.cst (.str [122, 122, 122])), (.cst (.int 1)), (.cst (.str [65]))]), (.tup [(.cst (.str [109, 111, 118, 101])), (.cst (.str [97])), (.cst (.int 7))]), (.tup [(.cst (.str [99, 104, 97, 110, 103, 101])), (.cst (.str [97])), (.neg (.cst (.int 1)))]), (.tup [(.cst (.str [99, 104, 97, 110, 103, 101])), (.cst (.str [97]))]), (.tup [(.cst (.str [103, 111])), (.cst (.str [97]))])]))),
  (.exp (.mth .append (.var 2) [(.lst [(.cst (.str [115, 116, 114, 105, 107, 101])), (.cst (.str [97]))])])),
  (.asg false (.v 3) (.lst [(.lst [(.sub (.var 2) (.bin .mod (.call true 12 [(.var 0), (.cst (.int 5))]) (.cst (.int 13))))]), (.cst .non), (.tup []), (.cst (.str [120]))])),
  (.asg false (.v 4) (.cst (.int 0))),
  (.tri [1, 2] [(.exp (.call true 44 [(.var 1), (.sub (.var 3) (.bin .mod (.call true 12 [(.var 0), (.cst (.int 6))]) (.cst (.int 4))))]))] [(2, (.asg false (.v 4) (.cst (.int 1))))]),
  (.ret (.cmp .eq (.var 4) (.cst (.int 1))))]⟩
/-- 51: one, other -/
def c_look_two : MP.Def := ⟨2, 2, [
  (.exp (.call true 4 [(.var 0)])),
  (.exp (.call true 4 [(.var 1)]))]⟩
/-- 52: one, other -/
def c_far : MP.Def := ⟨2, 2, [
  (.exp (.call true 51 [(.var 0), (.var 1)])),
  (.ret (.blt .len [(.call true 10 [(.var 0), (.var 1)])]))]⟩
/-- 53: one, other, key, value -/
def c_kept_keys : MP.Def := ⟨4, 2, [
  (.exp (.call true 51 [(.var 0), (.var 1)])),
  (.ret (.blt .sorted [(.comp [2, 3] (.t [(.v 2), (.v 3)]) (.seq (.var 0)) (some (.cmp .isin (.tup [(.var 2), (.var 3)]) (.var 1))) (.var 2))]))]⟩
/-- 54: one, other, row, found, ahead, key -/
def c_runs : MP.Def := ⟨6, 2, [
  (.exp (.call true 51 [(.var 0), (.var 1)])),
  (.asg false (.v 2) (.call true 5 [(.var 1)])),
  (.asg true (.v 3) (.lst [])),
  (.asg false (.v 4) (.cst .non)),
  (.fors (.v 5) (.seq (.call true 5 [(.var 0)])) [(.ifs (.cmp .notin (.var 5) (.var 2)) [(.asg false (.v 4) (.cst .non)), .cnt] []), (.ifs (.and (.cmp .notn (.var 4) (.cst .non)) (.cmp .eq (.mth .index (.var 2) [(.var 5)]) (.bin .add (.mth .index (.var 2) [(.var 4)]) (.cst (.int 1))))) [(.setI (.var 3) (.neg (.cst (.int 1))) (.bin .add (.sub (.var 3) (.neg (.cst (.int 1)))) (.tup [(.var 5)])))] [(.exp (.mth .append (.var 3) [(.tup [(.var 5)])]))]), (.asg false (.v 4) (.var 5))]),
  (.ret (.var 3))]⟩
/-- 55: base, lists, rows, one, at -/
def c_nearest_list : MP.Def := ⟨5, 2, [
  (.exp (.call true 4 [(.var 0)])),
  (.ifs (.or (.not (.blt (.isi .list) [(.var 1)])) (.comp [3] (.v 3) (.seq (.var 1)) (some (.not (.call true 3 [(.var 3)]))) (.var 3))) [(.rai 1)] []),
  (.asg false (.v 2) (.comp [4, 3] (.t [(.v 4), (.v 3)]) (.enm (.var 1)) none (.tup [(.blt .len [(.call true 10 [(.var 3), (.var 0)])]), (.var 4)]))),
  (.ret (.ife (.var 2) (.sub (.blt .minL [(.var 2)]) (.cst (.int 1))) (.cst .non)))]⟩
/-- 56: one, other, stay, old, new, both, moved, key -/
def c_law_far : MP.Def := ⟨8, 2, [
  (.asg false (.v 2) (.call true 7 [(.var 0), (.var 1)])),
  (.par false [3, 4] [(.blt .dict [(.var 0)]), (.blt .dict [(.var 1)])]),
  (.asg false (.v 5) (.comp [7] (.v 7) (.seq (.var 3)) (some (.cmp .isin (.var 7) (.var 4))) (.var 7))),
  (.asg false (.v 6) (.blt .len [(.comp [7] (.v 7) (.seq (.var 5)) (some (.cmp .notin (.var 7) (.var 2))) (.var 7))])),
  (.ret (.bin .add (.bin .add (.bin .sub (.bin .add (.bin .sub (.blt .len [(.var 3)]) (.blt .len [(.var 5)])) (.blt .len [(.var 4)])) (.blt .len [(.var 5)])) (.var 6)) (.blt .len [(.comp [7] (.v 7) (.seq (.var 5)) (some (.cmp .ne (.sub (.var 3) (.var 7)) (.sub (.var 4) (.var 7)))) (.var 7))])))]⟩
/-- 57: thing, clashes, pick -/
def c_are_picks : MP.Def := ⟨3, 2, [
  (.ifs (.not (.blt (.isi .list) [(.var 0)])) [(.ret (.cst (.bl false)))] []),
  (.fors (.v 2) (.seq (.var 0)) [(.ifs (.or (.not (.blt (.isi .tuple) [(.var 2)])) (.or (.cmp .ne (.blt .len [(.var 2)]) (.cst (.int 3))) (.or (.not (.blt (.isi .str) [(.sub (.var 2) (.cst (.int 0)))])) (.not (.call true 2 [(.sub (.var 2) (.cst (.int 1)))]))))) [(.ret (.cst (.bl false)))] []), (.ifs (.or (.cmp .notin (.slc (.var 2) none (some (.cst (.int 2)))) (.var 1)) (.or (.cmp .eq (.sub (.var 2) (.cst (.int 0))) (.cst (.str [114, 105, 110, 103]))) (.or (.not (.blt (.isi .str) [(.sub (.var 2) (.cst (.int 2)))])) (.cmp .notin (.sub (.var 2) (.cst (.int 2))) (.glb 4 (.ctp [(.str [109, 105, 110, 101]), (.str [116, 104, 101, 105, 114, 115])])))))) [(.ret (.cst (.bl false)))] [])]),
  (.ret (.cmp .eq (.blt .setLen [(.comp [2] (.v 2) (.seq (.var 0)) none (.slc (.var 2) none (some (.cst (.int 2)))))]) (.blt .len [(.var 0)])))]⟩
/-- 58: base, mine, theirs, picks, pick -/
def c_settled : MP.Def := ⟨5, 4, [
  (.exp (.call true 30 [(.var 0), (.var 1), (.var 2)])),
  (.ifs (.not (.call true 57 [(.var 3), (.att (.mk 1 24 [(.var 0), (.var 1), (.var 2), .dnewT]) 6)])) [(.rai 3)] []),
  (.ret (.meth true 1 29 (.mk 1 24 [(.var 0), (.var 1), (.var 2), (.blt .dictT [(.comp [4] (.v 4) (.seq (.var 3)) none (.tup [(.slc (.var 4) none (some (.cst (.int 2)))), (.sub (.var 4) (.cst (.int 2)))]))])]) []))]⟩
/-- 59: self -/
def c_House_DOT___init : MP.Def := ⟨1, 1, [
  (.setA true (.var 0) 9 (.lst [])),
  (.setA true (.var 0) 10 (.lst []))]⟩
/-- 60: self, number -/
def c_House_DOT_look_version : MP.Def := ⟨2, 2, [
  (.ifs (.not (.call true 1 [(.var 1), (.cst (.int 0)), (.bin .sub (.blt .len [(.att (.var 0) 9)]) (.cst (.int 1)))])) [(.rai 5)] [])]⟩
/-- 61: self, some, elders -/
def c_House_DOT_put : MP.Def := ⟨3, 3, [
  (.ifs (.cmp .eq (.blt .len [(.att (.var 0) 9)]) (.glb 5 (.int 40))) [(.rai 8)] []),
  (.exp (.mth .append (.att (.var 0) 9) [(.var 1)])),
  (.exp (.mth .append (.att (.var 0) 10) [(.var 2)])),
  (.ret (.bin .sub (.blt .len [(.att (.var 0) 9)]) (.cst (.int 1))))]⟩
/-- 62: self, some -/
def c_House_DOT_begin : MP.Def := ⟨2, 2, [
  (.exp (.call true 4 [(.var 1)])),
  (.ret (.meth false 2 61 (.var 0) [(.var 1), (.tup [])]))]⟩
/-- 63: self, number, some -/
def c_House_DOT_change : MP.Def := ⟨3, 3, [
  (.exp (.meth true 2 60 (.var 0) [(.var 1)])),
  (.exp (.call true 4 [(.var 2)])),
  (.ret (.meth false 2 61 (.var 0) [(.var 2), (.tup [(.var 1)])]))]⟩
/-- 64: self, number, found, one, elder -/
def c_House_DOT_all_elders : MP.Def := ⟨5, 2, [
  (.asg true (.v 2) (.lst [(.var 1)])),
  (.fors (.v 3) (.seq (.rev (.blt .listRange [(.bin .add (.var 1) (.cst (.int 1)))]))) [(.ifs (.cmp .isin (.var 3) (.var 2)) [(.exp (.mth .extend (.var 2) [(.comp [4] (.v 4) (.seq (.sub (.att (.var 0) 10) (.var 3))) (some (.cmp .notin (.var 4) (.var 2))) (.var 4))]))] [])]),
  (.ret (.blt .sorted [(.var 2)]))]⟩
/-- 65: self, number -/
def c_House_DOT_forebears : MP.Def := ⟨2, 2, [
  (.exp (.meth true 2 60 (.var 0) [(.var 1)])),
  (.ret (.slc (.meth true 2 64 (.var 0) [(.var 1)]) none (some (.neg (.cst (.int 1))))))]⟩
/-- 66: self, one, other, some, number -/
def c_House_DOT_common : MP.Def := ⟨5, 3, [
  (.asg false (.v 3) (.comp [4] (.v 4) (.seq (.meth true 2 64 (.var 0) [(.var 1)])) (some (.cmp .isin (.var 4) (.meth true 2 64 (.var 0) [(.var 2)]))) (.var 4))),
  (.ifs (.not (.var 3)) [(.rai 7)] []),
  (.ret (.sub (.var 3) (.neg (.cst (.int 1)))))]⟩
/-- 67: self, one, other -/
def c_House_DOT_base : MP.Def := ⟨3, 3, [
  (.exp (.meth true 2 60 (.var 0) [(.var 1)])),
  (.exp (.meth true 2 60 (.var 0) [(.var 2)])),
  (.ret (.meth true 2 66 (.var 0) [(.var 1), (.var 2)]))]⟩
/-- 68: self, one, other, base, some, clashes -/
def c_House_DOT_lead : MP.Def := ⟨6, 3, [
  (.exp (.meth true 2 60 (.var 0) [(.var 1)])),
  (.exp (.meth true 2 60 (.var 0) [(.var 2)])),
  (.asg false (.v 3) (.meth true 2 66 (.var 0) [(.var 1), (.var 2)])),
  (.ifs (.cmp .isin (.var 3) (.tup [(.var 1), (.var 2)])) [(.rai 6)] []),
  (.asg false (.t [(.v 4), (.v 5)]) (.call true 31 [(.sub (.att (.var 0) 9) (.var 3)), (.sub (.att (.var 0) 9) (.var 1)), (.sub (.att (.var 0) 9) (.var 2))])),
  (.exp (.call true 4 [(.var 4)])),
  (.ret (.tup [(.meth false 2 61 (.var 0) [(.var 4), (.tup [(.var 1), (.var 2)])]), (.var 5)]))]⟩
/-- 69: self, some, elders, number -/
def c_House_DOT_heads : MP.Def := ⟨4, 1, [
  (.asg true (.v 1) (.lst [])),
  (.fors (.v 2) (.seq (.att (.var 0) 10)) [(.exp (.mth .extend (.var 1) [(.var 2)]))]),
  (.ret (.comp [3] (.v 3) (.rng1 (.blt .len [(.att (.var 0) 9)])) (some (.cmp .notin (.var 3) (.var 1))) (.var 3)))]⟩
/-- 70: self, number -/
def c_House_DOT_version : MP.Def := ⟨2, 2, [
  (.exp (.meth true 2 60 (.var 0) [(.var 1)])),
  (.ret (.tup [(.sub (.att (.var 0) 9) (.var 1)), (.sub (.att (.var 0) 10) (.var 1))]))]⟩
/-- 71: thing -/
def c_is_deed_AT_house : MP.Def := ⟨1, 1, [
  (.ifs (.or (.not (.blt (.isi .tuple) [(.var 0)])) (.or (.not (.var 0)) (.not (.blt (.isi .str) [(.sub (.var 0) (.cst (.int 0)))])))) [(.ret (.cst (.bl false)))] []),
  (.ret (.cmp .eq (.blt .len [(.var 0)]) (.bin .add (.blt (.tab [([98, 101, 103, 105, 110], 1), ([99, 104, 97, 110, 103, 101], 2), ([108, 101, 97, 100], 2)]) [(.sub (.var 0) (.cst (.int 0))), (.neg (.cst (.int 9)))]) (.cst (.int 1)))))]⟩
/-- 72: house, deed, told -/
def c_do : MP.Def := ⟨3, 2, [
  (.ifs (.not (.call true 71 [(.var 1)])) [(.rai 9)] []),
  (.asg false (.v 2) (.cst (.str [114, 101, 102, 117, 115, 101, 100]))),
  (.tri [1, 5, 6, 7, 8] [(.ifs (.cmp .eq (.sub (.var 1) (.cst (.int 0))) (.cst (.str [98, 101, 103, 105, 110]))) [(.asg false (.v 2) (.meth false 2 62 (.var 0) [(.sub (.var 1) (.cst (.int 1)))]))] [(.ifs (.cmp .eq (.sub (.var 1) (.cst (.int 0))) (.cst (.str [99, 104, 97, 110, 103, 101]))) [(.asg false (.v 2) (.meth false 2 63 (.var 0) [(.sub (.var 1) (.cst (.int 1))), (.sub (.var 1) (.cst (.int 2)))]))] [(.asg false (.v 2) (.meth false 2 68 (.var 0) [(.sub (.var 1) (.cst (.int 1))), (.sub (.var 1) (.cst (.int 2)))]))])])] [(0, (.asg false (.v 2) (.cst (.str [114, 101, 102, 117, 115, 101, 100]))))]),
  (.ret (.var 2))]⟩
/-- 73: way, house, k -/
def c_law_deeds_of : MP.Def := ⟨3, 1, [
  (.asg false (.v 1) (.mk 2 59 [])),
  (.ifs (.cmp .eq (.var 0) (.cst (.int 0))) [(.ret (.meth false 2 62 (.var 1) [(.cst .non)]))] []),
  (.ifs (.cmp .eq (.var 0) (.cst (.int 1))) [(.ret (.call true 44 [(.tup []), (.cst .non)]))] []),
  (.ifs (.cmp .eq (.var 0) (.cst (.int 2))) [(.ret (.call true 58 [(.tup []), (.tup []), (.tup []), (.cst .non)]))] []),
  (.ifs (.cmp .eq (.var 0) (.cst (.int 3))) [(.ret (.call true 40 [(.cst .non)]))] []),
  (.ifs (.cmp .eq (.var 0) (.cst (.int 4))) [(.ret (.meth true 2 70 (.var 1) [(.cst (.int 0))]))] []),
  (.exp (.meth false 2 62 (.var 1) [(.tup [])])),
  (.exp (.meth false 2 62 (.var 1) [(.tup [])])),
  (.ifs (.cmp .eq (.var 0) (.cst (.int 5))) [(.ret (.meth false 2 68 (.var 1) [(.cst (.int 0)), (.cst (.int 0))]))] []),
  (.ifs (.cmp .eq (.var 0) (.cst (.int 6))) [(.ret (.meth true 2 67 (.var 1) [(.cst (.int 0)), (.cst (.int 1))]))] []),
  (.ret (.ife (.cmp .eq (.var 0) (.cst (.int 7))) (.comp [2] (.v 2) (.rng1 (.cst (.int 40))) none (.meth false 2 62 (.var 1) [(.tup [])])) (.call false 72 [(.var 1), (.cst .non)])))]⟩
/-- 75: side, base, mine, theirs, rings, caught, clash -/
def c_law_rings_refused : MP.Def := ⟨7, 1, [
  (.asg false (.v 1) (.tup [(.tup [(.cst (.str [102])), (.cst (.int 73))]), (.tup [(.cst (.str [103])), (.cst (.int 682))]), (.tup [(.cst (.str [97])), (.cst (.int 291))]), (.tup [(.cst (.str [101])), (.cst (.int 900))]), (.tup [(.cst (.str [98])), (.cst (.int 2))]), (.tup [(.cst (.str [100])), (.cst (.int 2))]), (.tup [(.cst (.str [105])), (.cst (.int 0))])])),
  (.asg false (.v 2) (.tup [(.tup [(.cst (.str [107])), (.cst (.int 218))]), (.tup [(.cst (.str [100])), (.cst (.int 2))]), (.tup [(.cst (.str [105])), (.cst (.int 0))]), (.tup [(.cst (.str [102])), (.cst (.int 73))])])),
  (.asg false (.v 3) (.tup [(.tup [(.cst (.str [102])), (.cst (.int 73))]), (.tup [(.cst (.str [100])), (.cst (.int 2))]), (.tup [(.cst (.str [121, 98])), (.cst (.int 902))]), (.tup [(.cst (.str [98])), (.cst (.int 3))])])),
  (.asg false (.v 4) (.comp [6] (.v 6) (.seq (.sub (.call true 31 [(.var 1), (.var 2), (.var 3)]) (.cst (.int 1)))) (some (.cmp .eq (.sub (.var 6) (.cst (.int 0))) (.cst (.str [114, 105, 110, 103])))) (.var 6))),
  (.asg false (.v 5) (.cst (.int 0))),
  (.fors (.v 6) (.seq (.var 4)) [(.tri [1, 3] [(.exp (.call true 58 [(.var 1), (.var 2), (.var 3), (.lst [(.bin .add (.var 6) (.tup [(.var 0)]))])]))] [(3, (.aug 5 .add (.cst (.int 1))))])]),
  (.ret (.and (.cmp .eq (.var 4) (.lst [(.tup [(.cst (.str [114, 105, 110, 103])), (.cst (.str [100]))]), (.tup [(.cst (.str [114, 105, 110, 103])), (.cst (.str [102]))])])) (.cmp .eq (.var 5) (.cst (.int 2)))))]⟩
/-- 76: elders, number, found, left, one -/
def c_law_elders : MP.Def := ⟨5, 2, [
  (.asg true (.v 2) (.lst [])),
  (.asg true (.v 3) (.lst [(.var 1)])),
  (.whl (.cmp .ne (.var 3) (.lst [])) [(.asg false (.v 4) (.mth .pop (.var 3) [])), (.ifs (.cmp .notin (.var 4) (.var 2)) [(.exp (.mth .append (.var 2) [(.var 4)])), (.asg true (.v 3) (.bin .add (.var 3) (.blt .list [(.sub (.var 0) (.var 4))])))] [])]),
  (.ret (.blt .sorted [(.var 2)]))]⟩
/-- 77: elders, one, other, some, number -/
def c_law_common : MP.Def := ⟨5, 3, [
  (.ifs (.cmp .ge (.blt .max2 [(.var 1), (.var 2)]) (.blt .len [(.var 0)])) [(.ret (.cst .non))] []),
  (.asg false (.v 3) (.comp [4] (.v 4) (.seq (.call true 76 [(.var 0), (.var 1)])) (some (.cmp .isin (.var 4) (.call true 76 [(.var 0), (.var 2)]))) (.var 4))),
  (.ret (.ife (.cmp .ne (.var 3) (.lst [])) (.sub (.var 3) (.neg (.cst (.int 1)))) (.cst .non)))]⟩
/-- 78: lists, seed, many, pick, one, near, some -/
def c_law_house_deed : MP.Def := ⟨7, 2, [
  (.asg false (.v 2) (.blt .len [(.var 0)])),
  (.asg false (.v 3) (.call true 14 [(.var 1), (.cst (.int 12))])),
  (.ifs (.or (.cmp .eq (.var 2) (.cst (.int 0))) (.cmp .eq (.var 3) (.cst (.int 0)))) [(.ret (.tup [(.cst (.str [98, 101, 103, 105, 110])), (.call true 16 [(.call true 13 [(.var 1), (.cst (.int 1))]), (.cst (.int 12))])]))] []),
  (.asg false (.v 4) (.bin .mod (.bin .fdv (.var 1) (.cst (.int 7))) (.bin .add (.var 2) (.blt .int [(.cmp .eq (.bin .mod (.bin .fdv (.var 1) (.cst (.int 11))) (.cst (.int 12))) (.cst (.int 0)))])))),
  (.asg false (.v 5) (.blt .max2 [(.cst (.int 0)), (.bin .sub (.bin .sub (.var 2) (.cst (.int 1))) (.bin .mod (.bin .fdv (.var 1) (.cst (.int 13))) (.cst (.int 5))))])),
  (.ifs (.cmp .lt (.var 3) (.cst (.int 7))) [(.asg false (.v 6) (.ife (.cmp .lt (.var 5) (.var 2)) (.sub (.var 0) (.var 5)) (.tup []))), (.ret (.tup [(.cst (.str [99, 104, 97, 110, 103, 101])), (.var 5), (.call true 17 [(.var 6), (.call true 13 [(.var 1), (.cst (.int 2))]), (.cst (.int 5))])]))] []),
  (.ret (.tup [(.cst (.str [108, 101, 97, 100])), (.var 4), (.var 5)]))]⟩
/-- 79: lists, elders, deed, base, clashes, some -/
def c_law_house_told : MP.Def := ⟨6, 3, [
  (.asg false (.v 3) (.cst .non)),
  (.asg false (.v 4) (.lst [])),
  (.ifs (.cmp .eq (.sub (.var 2) (.cst (.int 0))) (.cst (.str [108, 101, 97, 100]))) [(.asg false (.v 3) (.call true 77 [(.var 1), (.sub (.var 2) (.cst (.int 1))), (.sub (.var 2) (.cst (.int 2)))])), (.ifs (.or (.cmp .isn (.var 3) (.cst .non)) (.cmp .isin (.var 3) (.slc (.var 2) (some (.cst (.int 1))) none))) [(.ret (.cst (.str [114, 101, 102, 117, 115, 101, 100])))] []), (.asg false (.t [(.v 5), (.v 4)]) (.call true 37 [(.sub (.var 0) (.var 3)), (.sub (.var 0) (.sub (.var 2) (.cst (.int 1)))), (.sub (.var 0) (.sub (.var 2) (.cst (.int 2)))), .dnew]))] [(.asg false (.v 5) (.sub (.var 2) (.neg (.cst (.int 1)))))]),
  (.ifs (.or (.cmp .eq (.blt .len [(.var 0)]) (.cst (.int 40))) (.or (.cmp .gt (.blt .len [(.var 5)]) (.cst (.int 16))) (.and (.cmp .eq (.sub (.var 2) (.cst (.int 0))) (.cst (.str [99, 104, 97, 110, 103, 101]))) (.cmp .ge (.sub (.var 2) (.cst (.int 1))) (.blt .len [(.var 0)]))))) [(.ret (.cst (.str [114, 101, 102, 117, 115, 101, 100])))] []),
  (.exp (.mth .append (.var 0) [(.var 5)])),
  (.exp (.mth .append (.var 1) [(.sub (.dsp [.s [98, 101, 103, 105, 110], .s [99, 104, 97, 110, 103, 101], .s [108, 101, 97, 100]] [(.tup []), (.slc (.var 2) (some (.cst (.int 1))) (some (.cst (.int 2)))), (.slc (.var 2) (some (.cst (.int 1))) none)]) (.sub (.var 2) (.cst (.int 0))))])),
  (.ret (.ife (.cmp .isn (.var 3) (.cst .non)) (.bin .sub (.blt .len [(.var 0)]) (.cst (.int 1))) (.tup [(.bin .sub (.blt .len [(.var 0)]) (.cst (.int 1))), (.var 4)])))]⟩
/-- 80: k -/
def c_wall : MP.Def := ⟨1, 1, [
  (.whl (.cst (.bl true)) [.pas])]⟩
/-- 81: house, way, bad, some, caught -/
def c_law_refusing : MP.Def := ⟨5, 4, [
  (.asg false (.v 4) (.cst (.str []))),
  (.tri [1, 5, 6, 7, 8, 9] [(.ifs (.cmp .lt (.var 1) (.cst (.int 3))) [(.exp (.call false 82 [(.var 0), (.var 1), (.var 2)]))] [(.exp (.call false 83 [(.var 0), (.var 1), (.var 2), (.var 3)]))])] [(1, (.asg false (.v 4) (.cst (.str [108, 105, 115, 116])))), (5, (.asg false (.v 4) (.cst (.str [118, 101, 114, 115, 105, 111, 110])))), (7, (.asg false (.v 4) (.cst (.str [101, 108, 100, 101, 114])))), (6, (.asg false (.v 4) (.cst (.str [110, 101, 101, 100, 108, 101, 115, 115])))), (8, (.asg false (.v 4) (.cst (.str [102, 117, 108, 108]))))]),
  (.ret (.var 4))]⟩
/-- 82: house, way, bad -/
def c_law_refused_early : MP.Def := ⟨3, 3, [
  (.ifs (.cmp .eq (.var 1) (.cst (.int 0))) [(.ret (.meth true 2 70 (.var 0) [(.var 2)]))] []),
  (.ret (.ife (.cmp .eq (.var 1) (.cst (.int 1))) (.meth true 2 65 (.var 0) [(.var 2)]) (.meth true 2 67 (.var 0) [(.cst (.int 0)), (.var 2)])))]⟩
/-- 83: house, way, bad, some -/
def c_law_refused_late : MP.Def := ⟨4, 4, [
  (.ifs (.cmp .eq (.var 1) (.cst (.int 3))) [(.ret (.meth false 2 63 (.var 0) [(.var 2), (.cst .non)]))] []),
  (.ifs (.cmp .eq (.var 1) (.cst (.int 4))) [(.ret (.meth false 2 63 (.var 0) [(.cst (.int 0)), (.var 3)]))] []),
  (.ifs (.cmp .eq (.var 1) (.cst (.int 5))) [(.ret (.meth false 2 62 (.var 0) [(.var 3)]))] []),
  (.ifs (.cmp .eq (.var 1) (.cst (.int 6))) [(.ret (.meth false 2 68 (.var 0) [(.cst (.int 0)), (.var 2)]))] []),
  (.ifs (.cmp .eq (.var 1) (.cst (.int 7))) [(.ret (.meth false 2 68 (.var 0) [(.cst (.int 0)), (.cst (.int 1))]))] []),
  (.ret (.ife (.cmp .eq (.var 1) (.cst (.int 8))) (.meth true 2 67 (.var 0) [(.cst (.int 1)), (.cst (.int 0))]) (.meth false 2 68 (.var 0) [(.cst (.int 0)), (.cst (.int 0))])))]⟩
/-- 84: house, one, two, caught -/
def c_law_too_many : MP.Def := ⟨4, 3, [
  (.asg false (.v 3) (.cst (.str []))),
  (.tri [1, 5, 6, 7, 8, 9] [(.exp (.meth false 2 68 (.var 0) [(.var 1), (.var 2)]))] [(1, (.asg false (.v 3) (.cst (.str [108, 105, 115, 116])))), (8, (.asg false (.v 3) (.cst (.str [102, 117, 108, 108]))))]),
  (.ret (.var 3))]⟩
/-- 85: house, two -/
def c_law_grow : MP.Def := ⟨2, 2, [
  (.ret (.cmp .ne (.call false 72 [(.var 0), (.tup [(.cst (.str [99, 104, 97, 110, 103, 101])), (.var 1), (.tup [])])]) (.cst (.str [114, 101, 102, 117, 115, 101, 100]))))]⟩
/-- 86: deeds, house, deed -/
def c_play : MP.Def := ⟨3, 1, [
  (.ifs (.or (.not (.blt (.isi .list) [(.var 0)])) (.comp [2] (.v 2) (.seq (.var 0)) (some (.not (.call true 71 [(.var 2)]))) (.var 2))) [(.rai 9)] []),
  (.asg false (.v 1) (.mk 2 59 [])),
  (.ret (.tup [(.var 1), (.comp [2] (.v 2) (.seq (.var 0)) none (.call false 72 [(.var 1), (.var 2)]))]))]⟩
/-- 87: cell, k -/
def c_law_mark : MP.Def := ⟨2, 2, [
  (.ret (.sub (.cst (.str [97, 98, 99, 100, 101, 102, 103, 104, 105, 106, 107, 108, 109, 110, 111, 112, 113, 114, 115, 116, 117, 118, 119, 120, 121, 122])) (.bin .mod (.bin .add (.var 0) (.bin .mul (.cst (.int 7)) (.var 1))) (.cst (.int 26)))))]⟩
/-- 88: some, key, value -/
def c_law_short : MP.Def := ⟨3, 1, [
  (.ret (.blt .tuple [(.comp [1, 2] (.t [(.v 1), (.v 2)]) (.seq (.var 0)) (some (.cmp .lt (.blt .len [(.var 1)]) (.cst (.int 3)))) (.tup [(.var 1), (.bin .mod (.var 2) (.cst (.int 600)))]))]))]⟩
/-- 89: some, head, more, key, value -/
def c_law_named : MP.Def := ⟨5, 3, [
  (.ret (.blt .tuple [(.comp [3, 4] (.t [(.v 3), (.v 4)]) (.seq (.var 0)) none (.tup [(.bin .add (.var 1) (.var 3)), (.bin .add (.var 4) (.var 2))]))]))]⟩
/-- 90: some, deed -/
def c_look_deeds : MP.Def := ⟨2, 1, [
  (.ifs (.or (.not (.blt (.isi .list) [(.var 0)])) (.comp [1] (.v 1) (.seq (.var 0)) (some (.not (.call true 41 [(.var 1)]))) (.var 1))) [(.rai 2)] [])]⟩
/-- 91: deed, part -/
def c_line_of_AT_deedtexts : MP.Def := ⟨2, 1, [
  (.ret (.bin .add (.mth .join (.cst (.str [32])) [(.comp [1] (.v 1) (.seq (.var 0)) none (.ife (.cmp .isn (.var 1) (.cst .non)) (.cst (.str [45])) (.blt .str [(.var 1)])))]) (.cst (.str [10]))))]⟩
/-- 92: some, deed -/
def c_lines_of : MP.Def := ⟨2, 1, [
  (.ret (.mth .join (.cst (.str [])) [(.comp [1] (.v 1) (.seq (.var 0)) none (.call true 91 [(.var 1)]))]))]⟩
/-- 93: some -/
def c_deeds_text : MP.Def := ⟨1, 1, [
  (.exp (.call true 90 [(.var 0)])),
  (.ret (.call true 92 [(.var 0)]))]⟩
/-- 94: word, sign -/
def c_part_of : MP.Def := ⟨2, 1, [
  (.ifs (.cmp .eq (.var 0) (.cst (.str [45]))) [(.ret (.cst .non))] []),
  (.ifs (.and (.chn .le .le (.cst (.int 1)) (.blt .len [(.var 0)]) (.cst (.int 3))) (.not (.comp [1] (.v 1) (.seq (.var 0)) (some (.cmp .notin (.var 1) (.glb 3 (.str [48, 49, 50, 51, 52, 53, 54, 55, 56, 57])))) (.var 1)))) [(.ret (.blt .int [(.var 0)]))] []),
  (.ret (.var 0))]⟩
/-- 95: text, found, line, word, deed -/
def c_read_deeds : MP.Def := ⟨5, 1, [
  (.ifs (.not (.blt (.isi .str) [(.var 0)])) [(.rai 4)] []),
  (.asg false (.v 1) (.comp [2] (.v 2) (.seq (.slc (.mth .split (.var 0) [(.cst (.str [10]))]) none (some (.neg (.cst (.int 1)))))) none (.blt .tuple [(.comp [3] (.v 3) (.seq (.mth .split (.var 2) [(.cst (.str [32]))])) none (.call true 94 [(.var 3)]))]))),
  (.ifs (.or (.comp [4] (.v 4) (.seq (.var 1)) (some (.not (.call true 41 [(.var 4)]))) (.var 4)) (.cmp .ne (.call true 92 [(.var 1)]) (.var 0))) [(.rai 4)] []),
  (.ret (.var 1))]⟩
/-- 96: house, number, elders -/
def c_first_list : MP.Def := ⟨3, 2, [
  (.asg false (.v 2) (.sub (.meth true 2 70 (.var 0) [(.var 1)]) (.cst (.int 1)))),
  (.ret (.ife (.var 2) (.blt .dict [(.sub (.meth true 2 70 (.var 0) [(.sub (.var 2) (.cst (.int 0)))]) (.cst (.int 0)))]) .dnew))]⟩
/-- 97: house, number, found, elders -/
def c_line : MP.Def := ⟨4, 2, [
  (.asg true (.v 2) (.lst [(.var 1)])),
  (.asg false (.v 3) (.sub (.meth true 2 70 (.var 0) [(.var 1)]) (.cst (.int 1)))),
  (.whl (.var 3) [(.exp (.mth .insert (.var 2) [(.cst (.int 0)), (.sub (.var 3) (.cst (.int 0)))])), (.asg false (.v 3) (.sub (.meth true 2 70 (.var 0) [(.sub (.var 3) (.cst (.int 0)))]) (.cst (.int 1))))]),
  (.ret (.var 2))]⟩
/-- 98: house, number, old, new, key -/
def c_keys_changed : MP.Def := ⟨5, 2, [
  (.par false [2, 3] [(.call true 96 [(.var 0), (.var 1)]), (.blt .dict [(.sub (.meth true 2 70 (.var 0) [(.var 1)]) (.cst (.int 0)))])]),
  (.ret (.comp [4] (.v 4) (.seq (.blt .setSorted [(.bin .add (.blt .list [(.var 2)]) (.blt .list [(.var 3)]))])) (some (.cmp .ne (.mth .get (.var 2) [(.var 4), (.cst .non)]) (.mth .get (.var 3) [(.var 4), (.cst .non)]))) (.var 4)))]⟩
/-- 99: house, number -/
def c_changed_keys : MP.Def := ⟨2, 2, [
  (.exp (.meth true 2 70 (.var 0) [(.var 1)])),
  (.ret (.call true 98 [(.var 0), (.var 1)]))]⟩
/-- 100: house, key, found, number -/
def c_history : MP.Def := ⟨4, 2, [
  (.ifs (.not (.call true 2 [(.var 1)])) [(.rai 1)] []),
  (.asg true (.v 2) (.lst [])),
  (.fors (.v 3) (.rng1 (.blt .len [(.att (.var 0) 9)])) [(.ifs (.cmp .isin (.var 1) (.call true 98 [(.var 0), (.var 3)])) [(.exp (.mth .append (.var 2) [(.tup [(.var 3), (.mth .get (.blt .dict [(.sub (.meth true 2 70 (.var 0) [(.var 3)]) (.cst (.int 0)))]) [(.var 1), (.cst .non)])])]))] [])]),
  (.ret (.var 2))]⟩
/-- 101: house, one, other, mine, number -/
def c_news : MP.Def := ⟨5, 3, [
  (.asg false (.v 3) (.bin .add (.meth true 2 65 (.var 0) [(.var 1)]) (.lst [(.var 1)]))),
  (.ret (.comp [4] (.v 4) (.seq (.bin .add (.meth true 2 65 (.var 0) [(.var 2)]) (.lst [(.var 2)]))) (some (.cmp .notin (.var 4) (.var 3))) (.var 4)))]⟩
/-- 102: some, elders, elder -/
def c_line_of_AT_housetexts : MP.Def := ⟨3, 2, [
  (.ret (.bin .add (.bin .add (.bin .add (.mth .join (.cst (.str [32])) [(.bin .add (.lst [(.sub (.glb 6 (.ctp [(.str [98, 101, 103, 105, 110]), (.str [99, 104, 97, 110, 103, 101]), (.str [108, 101, 97, 100])])) (.blt .len [(.var 1)]))]) (.comp [2] (.v 2) (.seq (.var 1)) none (.blt .str [(.var 2)])))]) (.cst (.str [58, 32]))) (.call true 38 [(.var 0)])) (.cst (.str [10]))))]⟩
/-- 103: house, rows, number, some, elders -/
def c_house_text : MP.Def := ⟨5, 1, [
  (.asg false (.v 1) (.comp [2] (.v 2) (.rng1 (.blt .len [(.att (.var 0) 9)])) none (.meth true 2 70 (.var 0) [(.var 2)]))),
  (.ret (.mth .join (.cst (.str [])) [(.comp [3, 4] (.t [(.v 3), (.v 4)]) (.seq (.var 1)) none (.call true 102 [(.var 3), (.var 4)]))]))]⟩
/-- 104: word, sign -/
def c_number_of : MP.Def := ⟨2, 1, [
  (.ifs (.or (.not (.chn .le .le (.cst (.int 1)) (.blt .len [(.var 0)]) (.cst (.int 2)))) (.comp [1] (.v 1) (.seq (.var 0)) (some (.cmp .notin (.var 1) (.glb 3 (.str [48, 49, 50, 51, 52, 53, 54, 55, 56, 57])))) (.var 1))) [(.rai 4)] []),
  (.ret (.blt .int [(.var 0)]))]⟩
/-- 105: house, line, head, colon, rest, words, elders, some, word -/
def c_add_line : MP.Def := ⟨9, 2, [
  (.asg false (.t [(.v 2), (.v 3), (.v 4)]) (.mth .partition (.var 1) [(.cst (.str [58, 32]))])),
  (.asg false (.v 5) (.mth .split (.var 2) [(.cst (.str [32]))])),
  (.asg false (.v 6) (.blt .tuple [(.comp [8] (.v 8) (.seq (.slc (.var 5) (some (.cst (.int 1))) none)) none (.call true 104 [(.var 8)]))])),
  (.asg false (.v 7) (.call true 40 [(.var 4)])),
  (.ifs (.or (.cmp .gt (.blt .len [(.var 6)]) (.cst (.int 2))) (.cmp .ne (.sub (.var 5) (.cst (.int 0))) (.sub (.glb 6 (.ctp [(.str [98, 101, 103, 105, 110]), (.str [99, 104, 97, 110, 103, 101]), (.str [108, 101, 97, 100])])) (.blt .len [(.var 6)])))) [(.rai 4)] []),
  (.ifs (.not (.var 6)) [(.exp (.meth false 2 62 (.var 0) [(.var 7)]))] [(.ifs (.cmp .eq (.blt .len [(.var 6)]) (.cst (.int 1))) [(.exp (.meth false 2 63 (.var 0) [(.sub (.var 6) (.cst (.int 0))), (.var 7)]))] [(.exp (.meth false 2 68 (.var 0) [(.sub (.var 6) (.cst (.int 0))), (.sub (.var 6) (.cst (.int 1)))]))])])]⟩
/-- 106: text, house, line -/
def c_read_house : MP.Def := ⟨3, 1, [
  (.ifs (.not (.blt (.isi .str) [(.var 0)])) [(.rai 4)] []),
  (.asg false (.v 1) (.mk 2 59 [])),
  (.tri [1, 2, 4, 5, 6, 7, 8] [(.fors (.v 2) (.seq (.slc (.mth .split (.var 0) [(.cst (.str [10]))]) none (some (.neg (.cst (.int 1)))))) [(.exp (.call false 105 [(.var 1), (.var 2)]))])] [(0, (.rai 4))]),
  (.ifs (.cmp .ne (.call true 103 [(.var 1)]) (.var 0)) [(.rai 4)] []),
  (.ret (.var 1))]⟩
/-- 107: base, some -/
def c_turned_about : MP.Def := ⟨2, 2, [
  (.ret (.call true 10 [(.call true 44 [(.var 0), (.var 1)]), (.var 0)]))]⟩
/-- 108: base, some, found, deed -/
def c_steps : MP.Def := ⟨4, 2, [
  (.exp (.call true 44 [(.var 0), (.var 1)])),
  (.asg true (.v 2) (.lst [(.var 0)])),
  (.fors (.v 3) (.seq (.var 1)) [(.exp (.mth .append (.var 2) [(.call true 44 [(.sub (.var 2) (.neg (.cst (.int 1)))), (.lst [(.var 3)])])]))]),
  (.ret (.var 2))]⟩
/-- 109: base, some, goal, found -/
def c_leads : MP.Def := ⟨4, 3, [
  (.tri [1, 2] [(.asg false (.v 3) (.call true 44 [(.var 0), (.var 1)]))] [(2, (.asg false (.v 3) (.cst .non)))]),
  (.ret (.cmp .eq (.var 3) (.var 2)))]⟩
/-- 110: base, some, goal, at -/
def c_needless_deeds : MP.Def := ⟨4, 2, [
  (.asg false (.v 2) (.call true 44 [(.var 0), (.var 1)])),
  (.ret (.comp [3] (.v 3) (.rng1 (.blt .len [(.var 1)])) (some (.call true 109 [(.var 0), (.bin .add (.slc (.var 1) none (some (.var 3))) (.slc (.var 1) (some (.bin .add (.var 3) (.cst (.int 1)))) none)), (.var 2)])) (.var 3)))]⟩
/-- 111: base, some, goal, found, at, deed -/
def c_lean : MP.Def := ⟨6, 2, [
  (.asg false (.v 2) (.call true 44 [(.var 0), (.var 1)])),
  (.asg true (.v 3) (.lst [])),
  (.fors (.t [(.v 4), (.v 5)]) (.enm (.var 1)) [(.ifs (.not (.call true 109 [(.var 0), (.bin .add (.var 3) (.slc (.var 1) (some (.bin .add (.var 4) (.cst (.int 1)))) none)), (.var 2)])) [(.exp (.mth .append (.var 3) [(.var 5)]))] [])]),
  (.ret (.var 3))]⟩
/-- 112: row, deed, keys, rest, thing, left, at, key, value -/
def c_law_apply : MP.Def := ⟨9, 2, [
  (.asg false (.v 2) (.comp [7, 8] (.t [(.v 7), (.v 8)]) (.seq (.var 0)) none (.var 7))),
  (.ifs (.cmp .eq (.cmp .eq (.sub (.var 1) (.cst (.int 0))) (.cst (.str [112, 117, 116]))) (.cmp .isin (.sub (.var 1) (.cst (.int 1))) (.var 2))) [(.ret (.cst .non))] []),
  (.ifs (.cmp .eq (.sub (.var 1) (.cst (.int 0))) (.cst (.str [99, 104, 97, 110, 103, 101]))) [(.ret (.blt .tuple [(.comp [7, 8] (.t [(.v 7), (.v 8)]) (.seq (.var 0)) none (.ife (.cmp .eq (.var 7) (.sub (.var 1) (.cst (.int 1)))) (.tup [(.var 7), (.sub (.var 1) (.cst (.int 2)))]) (.tup [(.var 7), (.var 8)])))]))] []),
  (.asg false (.v 3) (.blt .tuple [(.comp [4] (.v 4) (.seq (.var 0)) (some (.cmp .ne (.sub (.var 4) (.cst (.int 0))) (.sub (.var 1) (.cst (.int 1))))) (.var 4))])),
  (.ifs (.cmp .eq (.sub (.var 1) (.cst (.int 0))) (.cst (.str [115, 116, 114, 105, 107, 101]))) [(.ret (.var 3))] []),
  (.asg false (.v 4) (.ife (.cmp .eq (.sub (.var 1) (.cst (.int 0))) (.cst (.str [112, 117, 116]))) (.tup [(.sub (.var 1) (.cst (.int 1))), (.sub (.var 1) (.cst (.int 2)))]) (.sub (.var 0) (.mth .index (.var 2) [(.sub (.var 1) (.cst (.int 1)))])))),
  (.asg false (.v 5) (.comp [7, 8] (.t [(.v 7), (.v 8)]) (.seq (.var 3)) none (.var 7))),
  (.ifs (.cmp .isn (.sub (.var 1) (.neg (.cst (.int 1)))) (.cst .non)) [(.ret (.bin .add (.tup [(.var 4)]) (.var 3)))] []),
  (.ifs (.cmp .notin (.sub (.var 1) (.neg (.cst (.int 1)))) (.var 5)) [(.ret (.cst .non))] []),
  (.asg false (.v 6) (.bin .add (.mth .index (.var 5) [(.sub (.var 1) (.neg (.cst (.int 1))))]) (.cst (.int 1)))),
  (.ret (.bin .add (.bin .add (.slc (.var 3) none (some (.var 6))) (.tup [(.var 4)])) (.slc (.var 3) (some (.var 6)) none)))]⟩
/-- 113: base, seed, row, found, k, one, keys, key, behind, value, ways, deed, new -/
def c_law_some_deeds : MP.Def := ⟨13, 2, [
  (.asg false (.v 2) (.var 0)),
  (.asg true (.v 3) (.lst [])),
  (.fors (.v 4) (.rng1 (.bin .mod (.bin .fdv (.var 1) (.cst (.int 7))) (.cst (.int 7)))) [(.asg false (.v 5) (.call true 13 [(.var 1), (.var 4)])), (.asg false (.v 6) (.comp [7, 9] (.t [(.v 7), (.v 9)]) (.seq (.var 2)) none (.var 7))), (.asg false (.v 7) (.ife (.and (.cmp .ne (.var 6) (.lst [])) (.cmp .gt (.bin .mod (.bin .fdv (.var 5) (.cst (.int 5))) (.cst (.int 4))) (.cst (.int 0)))) (.sub (.var 6) (.bin .mod (.bin .fdv (.var 5) (.cst (.int 11))) (.blt .len [(.var 6)]))) (.call true 15 [(.call true 13 [(.var 5), (.cst (.int 1))])]))), (.asg false (.v 8) (.ife (.or (.cmp .eq (.bin .mod (.bin .fdv (.var 5) (.cst (.int 13))) (.cst (.int 4))) (.cst (.int 0))) (.cmp .eq (.var 6) (.lst []))) (.cst .non) (.sub (.var 6) (.bin .mod (.bin .fdv (.var 5) (.cst (.int 17))) (.blt .len [(.var 6)]))))), (.asg false (.v 9) (.bin .mod (.bin .fdv (.var 5) (.cst (.int 19))) (.sub (.lst [(.cst (.int 1000)), (.cst (.int 3))]) (.bin .mod (.bin .fdv (.var 5) (.cst (.int 23))) (.cst (.int 2)))))), (.asg false (.v 10) (.lst [(.tup [(.cst (.str [115, 116, 114, 105, 107, 101])), (.var 7)]), (.tup [(.cst (.str [112, 117, 116])), (.var 7), (.var 9), (.var 8)]), (.tup [(.cst (.str [109, 111, 118, 101])), (.var 7), (.var 8)]), (.tup [(.cst (.str [99, 104, 97, 110, 103, 101])), (.var 7), (.var 9)])])), (.asg false (.v 11) (.sub (.var 10) (.bin .mod (.bin .fdv (.var 5) (.cst (.int 29))) (.cst (.int 4))))), (.asg false (.v 12) (.call true 112 [(.var 2), (.var 11)])), (.ifs (.and (.cmp .notn (.var 12) (.cst .non)) (.cmp .le (.blt .len [(.var 12)]) (.cst (.int 16)))) [(.asg false (.v 2) (.var 12)), (.exp (.mth .append (.var 3) [(.var 11)]))] [])]),
  (.ret (.var 3))]⟩
/-- 114: some, found, deed, part -/
def c_law_deed_lines : MP.Def := ⟨4, 1, [
  (.asg false (.v 1) (.cst (.str []))),
  (.fors (.v 2) (.seq (.var 0)) [(.asg false (.v 1) (.bin .add (.bin .add (.var 1) (.mth .join (.cst (.str [32])) [(.comp [3] (.v 3) (.seq (.var 2)) none (.ife (.cmp .isn (.var 3) (.cst .non)) (.cst (.str [45])) (.blt .str [(.var 3)])))])) (.cst (.str [10]))))]),
  (.ret (.var 1))]⟩
/-- 115: text, found -/
def c_law_reads_deeds : MP.Def := ⟨2, 1, [
  (.tri [1, 2, 4, 5, 6, 7, 8] [(.asg false (.v 1) (.call true 114 [(.call true 95 [(.var 0)])]))] [(4, (.asg false (.v 1) (.cst (.str [110, 111, 110, 101]))))]),
  (.ret (.var 1))]⟩
/-- 116: way, one, two, three, caught -/
def c_law_later_caught : MP.Def := ⟨5, 4, [
  (.asg false (.v 4) (.cst (.str []))),
  (.tri [1, 2, 4, 5] [(.exp (.call false 117 [(.var 0), (.var 1), (.var 2), (.var 3)]))] [(1, (.asg false (.v 4) (.cst (.str [108, 105, 115, 116])))), (2, (.asg false (.v 4) (.cst (.str [100, 101, 101, 100, 115])))), (4, (.asg false (.v 4) (.cst (.str [116, 101, 120, 116])))), (5, (.asg false (.v 4) (.cst (.str [118, 101, 114, 115, 105, 111, 110]))))]),
  (.ret (.var 4))]⟩
/-- 117: way, one, two, three -/
def c_law_later_asked : MP.Def := ⟨4, 4, [
  (.ifs (.cmp .eq (.var 0) (.cst (.int 0))) [(.ret (.call true 107 [(.var 1), (.var 2)]))] []),
  (.ifs (.cmp .eq (.var 0) (.cst (.int 1))) [(.ret (.call true 108 [(.var 1), (.var 2)]))] []),
  (.ifs (.cmp .eq (.var 0) (.cst (.int 2))) [(.ret (.call true 110 [(.var 1), (.var 2)]))] []),
  (.ifs (.cmp .eq (.var 0) (.cst (.int 3))) [(.ret (.call true 111 [(.var 1), (.var 2)]))] []),
  (.ifs (.cmp .eq (.var 0) (.cst (.int 4))) [(.ret (.call true 52 [(.var 1), (.var 2)]))] []),
  (.ifs (.cmp .eq (.var 0) (.cst (.int 5))) [(.ret (.call true 53 [(.var 1), (.var 2)]))] []),
  (.ifs (.cmp .eq (.var 0) (.cst (.int 6))) [(.ret (.call true 54 [(.var 1), (.var 2)]))] []),
  (.ret (.call false 118 [(.var 0), (.var 1), (.var 2), (.var 3)]))]⟩
/-- 118: way, one, two, three -/
def c_law_later_more : MP.Def := ⟨4, 4, [
  (.ifs (.cmp .eq (.var 0) (.cst (.int 7))) [(.ret (.call true 55 [(.var 1), (.var 2)]))] []),
  (.ifs (.cmp .eq (.var 0) (.cst (.int 8))) [(.ret (.call true 93 [(.var 1)]))] []),
  (.ifs (.cmp .eq (.var 0) (.cst (.int 9))) [(.ret (.call true 95 [(.var 1)]))] []),
  (.ifs (.cmp .eq (.var 0) (.cst (.int 10))) [(.ret (.call false 106 [(.var 1)]))] []),
  (.ifs (.cmp .eq (.var 0) (.cst (.int 11))) [(.ret (.call true 97 [(.var 1), (.var 2)]))] []),
  (.ifs (.cmp .eq (.var 0) (.cst (.int 12))) [(.ret (.call true 99 [(.var 1), (.var 2)]))] []),
  (.ret (.ife (.cmp .eq (.var 0) (.cst (.int 13))) (.call true 100 [(.var 1), (.var 2)]) (.call true 101 [(.var 1), (.var 2), (.var 3)])))]⟩
/-- 119: base, some, row, deed -/
def c_law_behind_all : MP.Def := ⟨4, 2, [
  (.asg false (.v 2) (.var 0)),
  (.fors (.v 3) (.seq (.var 1)) [(.asg false (.v 2) (.ife (.cmp .isn (.var 2) (.cst .non)) (.cst .non) (.call true 112 [(.var 2), (.var 3)])))]),
  (.ret (.ife (.or (.cmp .isn (.var 2) (.cst .non)) (.cmp .gt (.blt .len [(.var 2)]) (.cst (.int 16)))) (.cst .non) (.var 2)))]⟩
/-- 120: seed, many, house, lists, elders, k, deed -/
def c_law_grown_house : MP.Def := ⟨7, 2, [
  (.asg false (.v 2) (.mk 2 59 [])),
  (.par true [3, 4] [(.lst []), (.lst [])]),
  (.fors (.v 5) (.rng1 (.var 1)) [(.asg false (.v 6) (.call true 78 [(.var 3), (.call true 13 [(.var 0), (.var 5)])])), (.exp (.call false 79 [(.var 3), (.var 4), (.var 6)])), (.exp (.call false 72 [(.var 2), (.var 6)]))]),
  (.ret (.tup [(.var 2), (.var 3), (.var 4)]))]⟩
/-- 121: lists, elders, number, old, new, every, key -/
def c_law_changed : MP.Def := ⟨7, 3, [
  (.asg false (.v 3) (.ife (.cmp .ne (.sub (.var 1) (.var 2)) (.tup [])) (.blt .dict [(.sub (.var 0) (.sub (.sub (.var 1) (.var 2)) (.cst (.int 0))))]) .dnew)),
  (.asg false (.v 4) (.blt .dict [(.sub (.var 0) (.var 2))])),
  (.asg false (.v 5) (.blt .setSorted [(.bin .add (.blt .list [(.var 3)]) (.blt .list [(.var 4)]))])),
  (.ret (.comp [6] (.v 6) (.seq (.var 5)) (some (.cmp .ne (.mth .get (.var 3) [(.var 6), (.cst .non)]) (.mth .get (.var 4) [(.var 6), (.cst .non)]))) (.tup [(.var 6), (.mth .get (.var 4) [(.var 6), (.cst .non)])])))]⟩
/-- 122: elders, number, found -/
def c_law_line_of : MP.Def := ⟨3, 2, [
  (.asg false (.v 2) (.lst [(.var 1)])),
  (.whl (.cmp .ne (.sub (.var 0) (.sub (.var 2) (.cst (.int 0)))) (.tup [])) [(.asg false (.v 2) (.bin .add (.lst [(.sub (.sub (.var 0) (.sub (.var 2) (.cst (.int 0)))) (.cst (.int 0)))]) (.var 2)))]),
  (.ret (.var 2))]⟩
/-- 123: some, key, value -/
def c_law_list_text : MP.Def := ⟨3, 1, [
  (.ret (.mth .join (.cst (.str [32])) [(.comp [1, 2] (.t [(.v 1), (.v 2)]) (.seq (.var 0)) none (.bin .add (.bin .add (.var 1) (.cst (.str [61]))) (.blt .str [(.var 2)])))]))]⟩
/-- 124: lists, elders, found, some, ahead, word, one -/
def c_law_house_lines : MP.Def := ⟨7, 2, [
  (.asg false (.v 2) (.cst (.str []))),
  (.fors (.t [(.v 3), (.v 4)]) (.zip (.var 0) (.var 1)) [(.asg false (.v 5) (.sub (.lst [(.cst (.str [98, 101, 103, 105, 110])), (.cst (.str [99, 104, 97, 110, 103, 101])), (.cst (.str [108, 101, 97, 100]))]) (.blt .len [(.var 4)]))), (.asg false (.v 2) (.bin .add (.bin .add (.bin .add (.bin .add (.var 2) (.mth .join (.cst (.str [32])) [(.bin .add (.lst [(.var 5)]) (.comp [6] (.v 6) (.seq (.var 4)) none (.blt .str [(.var 6)])))])) (.cst (.str [58, 32]))) (.call true 123 [(.var 3)])) (.cst (.str [10]))))]),
  (.ret (.var 2))]⟩
/-- 125: text, found -/
def c_law_reads_house : MP.Def := ⟨2, 1, [
  (.tri [1, 2, 4, 5, 6, 7, 8, 9] [(.asg false (.v 1) (.call true 103 [(.call false 106 [(.var 0)])]))] [(4, (.asg false (.v 1) (.cst (.str [110, 111, 110, 101]))))]),
  (.ret (.var 1))]⟩
/-- 126: thing, sign -/
def c_is_name : MP.Def := ⟨2, 1, [
  (.ret (.and (.blt (.isi .str) [(.var 0)]) (.and (.chn .le .le (.cst (.int 1)) (.blt .len [(.var 0)]) (.cst (.int 6))) (.not (.comp [1] (.v 1) (.seq (.var 0)) (some (.cmp .notin (.var 1) (.glb 0 (.str [97, 98, 99, 100, 101, 102, 103, 104, 105, 106, 107, 108, 109, 110, 111, 112, 113, 114, 115, 116, 117, 118, 119, 120, 121, 122])))) (.var 1))))))]⟩
/-- 127: self -/
def c_Branches_DOT___init : MP.Def := ⟨1, 1, [
  (.setA true (.var 0) 11 (.tup [(.tup []), (.tup []), (.tup [])])),
  (.setA true (.var 0) 12 (.lst [])),
  (.setA true (.var 0) 13 (.lst []))]⟩
/-- 128: self, found -/
def c_Branches_DOT_house : MP.Def := ⟨2, 1, [
  (.asg false (.v 1) (.mk 2 59 [])),
  (.setA true (.var 1) 9 (.blt .list [(.sub (.att (.var 0) 11) (.cst (.int 0)))])),
  (.setA true (.var 1) 10 (.blt .list [(.sub (.att (.var 0) 11) (.cst (.int 1)))])),
  (.ret (.var 1))]⟩
/-- 129: self -/
def c_Branches_DOT_tips : MP.Def := ⟨1, 1, [
  (.ret (.blt .dict [(.sub (.att (.var 0) 11) (.cst (.int 2)))]))]⟩
/-- 130: self, name, tips -/
def c_Branches_DOT_need : MP.Def := ⟨3, 2, [
  (.asg false (.v 2) (.meth true 3 129 (.var 0) [])),
  (.ifs (.or (.not (.call true 126 [(.var 1)])) (.cmp .notin (.var 1) (.var 2))) [(.rai 10)] []),
  (.ret (.sub (.var 2) (.var 1)))]⟩
/-- 131: self, name -/
def c_Branches_DOT_need_new : MP.Def := ⟨2, 2, [
  (.ifs (.or (.not (.call true 126 [(.var 1)])) (.cmp .isin (.var 1) (.meth true 3 129 (.var 0) []))) [(.rai 10)] [])]⟩
/-- 132: self, house, tips -/
def c_Branches_DOT_go : MP.Def := ⟨3, 3, [
  (.exp (.mth .append (.att (.var 0) 12) [(.att (.var 0) 11)])),
  (.setA true (.var 0) 11 (.tup [(.blt .tuple [(.att (.var 1) 9)]), (.blt .tuple [(.att (.var 1) 10)]), (.blt .tuple [(.blt .sorted [(.mth .items (.var 2) [])])])])),
  (.setA true (.var 0) 13 (.lst []))]⟩
/-- 133: self, house, name, number, tips -/
def c_Branches_DOT_set_tip : MP.Def := ⟨5, 4, [
  (.asg true (.v 4) (.meth true 3 129 (.var 0) [])),
  (.setI (.var 4) (.var 2) (.var 3)),
  (.exp (.meth false 3 132 (.var 0) [(.var 1), (.var 4)])),
  (.ret (.var 3))]⟩
/-- 134: self, name, some, house -/
def c_Branches_DOT_begin : MP.Def := ⟨4, 3, [
  (.exp (.meth true 3 131 (.var 0) [(.var 1)])),
  (.asg false (.v 3) (.meth false 3 128 (.var 0) [])),
  (.ret (.meth false 3 133 (.var 0) [(.var 3), (.var 1), (.meth false 2 62 (.var 3) [(.var 2)])]))]⟩
/-- 135: self, name, other -/
def c_Branches_DOT_fork : MP.Def := ⟨3, 3, [
  (.exp (.meth true 3 131 (.var 0) [(.var 1)])),
  (.ret (.meth false 3 133 (.var 0) [(.meth false 3 128 (.var 0) []), (.var 1), (.meth true 3 130 (.var 0) [(.var 2)])]))]⟩
/-- 136: self, name, some, number, house -/
def c_Branches_DOT_keep : MP.Def := ⟨5, 3, [
  (.asg false (.v 3) (.meth true 3 130 (.var 0) [(.var 1)])),
  (.asg false (.v 4) (.meth false 3 128 (.var 0) [])),
  (.ret (.meth false 3 133 (.var 0) [(.var 4), (.var 1), (.meth false 2 63 (.var 4) [(.var 3), (.var 2)])]))]⟩
/-- 137: self, name, other, mine, its, house, base, clashes, number -/
def c_Branches_DOT_join : MP.Def := ⟨9, 3, [
  (.par false [3, 4] [(.meth true 3 130 (.var 0) [(.var 1)]), (.meth true 3 130 (.var 0) [(.var 2)])]),
  (.asg false (.v 5) (.meth false 3 128 (.var 0) [])),
  (.asg false (.v 6) (.meth true 2 67 (.var 5) [(.var 3), (.var 4)])),
  (.asg false (.v 7) (.lst [])),
  (.ifs (.cmp .eq (.var 6) (.var 3)) [(.asg false (.v 8) (.var 4))] [(.ifs (.cmp .eq (.var 6) (.var 4)) [(.asg false (.v 8) (.var 3))] [(.asg false (.t [(.v 8), (.v 7)]) (.meth false 2 68 (.var 5) [(.var 3), (.var 4)]))])]),
  (.ifs (.cmp .ne (.var 8) (.var 3)) [(.exp (.meth false 3 133 (.var 0) [(.var 5), (.var 1), (.var 8)]))] []),
  (.ret (.tup [(.var 8), (.var 7)]))]⟩
/-- 138: self, name, number, tips -/
def c_Branches_DOT_drop : MP.Def := ⟨4, 2, [
  (.asg false (.v 2) (.meth true 3 130 (.var 0) [(.var 1)])),
  (.asg true (.v 3) (.meth true 3 129 (.var 0) [])),
  (.exp (.mth .dpop (.var 3) [(.var 1)])),
  (.exp (.meth false 3 132 (.var 0) [(.meth false 3 128 (.var 0) []), (.var 3)])),
  (.ret (.var 2))]⟩
/-- 139: self -/
def c_Branches_DOT_undo : MP.Def := ⟨1, 1, [
  (.ifs (.not (.att (.var 0) 12)) [(.rai 11)] []),
  (.exp (.mth .append (.att (.var 0) 13) [(.att (.var 0) 11)])),
  (.setA true (.var 0) 11 (.mth .pop (.att (.var 0) 12) []))]⟩
/-- 140: self -/
def c_Branches_DOT_redo : MP.Def := ⟨1, 1, [
  (.ifs (.not (.att (.var 0) 13)) [(.rai 11)] []),
  (.exp (.mth .append (.att (.var 0) 12) [(.att (.var 0) 11)])),
  (.setA true (.var 0) 11 (.mth .pop (.att (.var 0) 13) []))]⟩
/-- 141: self, name -/
def c_Branches_DOT_tip : MP.Def := ⟨2, 2, [
  (.ret (.meth true 3 130 (.var 0) [(.var 1)]))]⟩
/-- 142: self, name -/
def c_Branches_DOT_content : MP.Def := ⟨2, 2, [
  (.ret (.sub (.sub (.att (.var 0) 11) (.cst (.int 0))) (.meth true 3 130 (.var 0) [(.var 1)])))]⟩
/-- 143: self -/
def c_Branches_DOT_names : MP.Def := ⟨1, 1, [
  (.ret (.blt .sorted [(.meth true 3 129 (.var 0) [])]))]⟩
/-- 144: tree, deed, found -/
def c_law_tree_deed : MP.Def := ⟨3, 2, [
  (.tri [1, 5, 6, 7, 8, 10, 11] [(.ifs (.cmp .eq (.sub (.var 1) (.cst (.int 0))) (.cst (.str [98, 101, 103, 105, 110]))) [(.asg false (.v 2) (.meth false 3 134 (.var 0) [(.sub (.var 1) (.cst (.int 1))), (.sub (.var 1) (.cst (.int 2)))]))] [(.ifs (.cmp .eq (.sub (.var 1) (.cst (.int 0))) (.cst (.str [102, 111, 114, 107]))) [(.asg false (.v 2) (.meth false 3 135 (.var 0) [(.sub (.var 1) (.cst (.int 1))), (.sub (.var 1) (.cst (.int 2)))]))] [(.ifs (.cmp .eq (.sub (.var 1) (.cst (.int 0))) (.cst (.str [107, 101, 101, 112]))) [(.asg false (.v 2) (.meth false 3 136 (.var 0) [(.sub (.var 1) (.cst (.int 1))), (.sub (.var 1) (.cst (.int 2)))]))] [(.ifs (.cmp .eq (.sub (.var 1) (.cst (.int 0))) (.cst (.str [106, 111, 105, 110]))) [(.asg false (.v 2) (.mth .join (.var 0) [(.sub (.var 1) (.cst (.int 1))), (.sub (.var 1) (.cst (.int 2)))]))] [(.ifs (.cmp .eq (.sub (.var 1) (.cst (.int 0))) (.cst (.str [100, 114, 111, 112]))) [(.asg false (.v 2) (.meth false 3 138 (.var 0) [(.sub (.var 1) (.cst (.int 1)))]))] [(.asg false (.v 2) (.ife (.cmp .eq (.sub (.var 1) (.cst (.int 0))) (.cst (.str [117, 110, 100, 111]))) (.meth false 3 139 (.var 0) []) (.meth false 3 140 (.var 0) [])))])])])])])] [(10, (.asg false (.v 2) (.cst (.str [78, 65, 77, 69])))), (1, (.asg false (.v 2) (.cst (.str [76, 73, 83, 84])))), (7, (.asg false (.v 2) (.cst (.str [69, 76, 68, 69, 82])))), (8, (.asg false (.v 2) (.cst (.str [70, 85, 76, 76])))), (11, (.asg false (.v 2) (.cst (.str [83, 84, 69, 80]))))]),
  (.ret (.var 2))]⟩
/-- 145: state, seed, lists, elders, tips, names, words, word, name, there, other, old, some -/
def c_law_tree_drawn : MP.Def := ⟨13, 2, [
  (.asg false (.t [(.v 2), (.v 3), (.v 4)]) (.sub (.var 0) (.cst (.str [110, 111, 119])))),
  (.asg false (.v 5) (.lst [(.cst (.str [97])), (.cst (.str [98])), (.cst (.str [109, 97, 105, 110])), (.cst (.str [120])), (.cst (.str [122, 122]))])),
  (.asg false (.v 6) (.lst [(.cst (.str [98, 101, 103, 105, 110])), (.cst (.str [102, 111, 114, 107])), (.cst (.str [107, 101, 101, 112])), (.cst (.str [107, 101, 101, 112])), (.cst (.str [107, 101, 101, 112])), (.cst (.str [106, 111, 105, 110])), (.cst (.str [106, 111, 105, 110])), (.cst (.str [100, 114, 111, 112])), (.cst (.str [117, 110, 100, 111])), (.cst (.str [114, 101, 100, 111])), (.cst (.str [107, 101, 101, 112])), (.cst (.str [106, 111, 105, 110]))])),
  (.asg false (.v 7) (.sub (.var 6) (.bin .mod (.bin .fdv (.var 1) (.cst (.int 5))) (.cst (.int 12))))),
  (.asg false (.v 8) (.sub (.var 5) (.call true 14 [(.call true 13 [(.var 1), (.cst (.int 1))]), (.cst (.int 5))]))),
  (.asg false (.v 9) (.blt .sorted [(.var 4)])),
  (.ifs (.and (.cmp .notin (.var 7) (.tup [(.cst (.str [98, 101, 103, 105, 110])), (.cst (.str [102, 111, 114, 107]))])) (.and (.cmp .ne (.var 9) (.lst [])) (.cmp .gt (.bin .mod (.bin .fdv (.var 1) (.cst (.int 41))) (.cst (.int 5))) (.cst (.int 0))))) [(.asg false (.v 8) (.sub (.var 9) (.call true 14 [(.call true 13 [(.var 1), (.cst (.int 2))]), (.blt .len [(.var 9)])])))] []),
  (.asg false (.v 10) (.ife (.cmp .ne (.var 9) (.lst [])) (.sub (.var 9) (.call true 14 [(.call true 13 [(.var 1), (.cst (.int 3))]), (.blt .len [(.var 9)])])) (.cst (.str [97])))),
  (.ifs (.cmp .eq (.bin .mod (.bin .fdv (.var 1) (.cst (.int 211))) (.cst (.int 13))) (.cst (.int 0))) [(.asg false (.v 8) (.sub (.lst [(.cst .non), (.cst (.str [])), (.cst (.str [65, 98])), (.cst (.str [116, 111, 111, 108, 111, 110, 103])), (.cst (.int 1)), (.tup [(.cst (.str [97]))])]) (.bin .mod (.bin .fdv (.var 1) (.cst (.int 1009))) (.cst (.int 6)))))] []),
  (.ifs (.cmp .isin (.var 7) (.tup [(.cst (.str [98, 101, 103, 105, 110])), (.cst (.str [107, 101, 101, 112]))])) [(.asg false (.v 11) (.ife (.and (.blt (.isi .str) [(.var 8)]) (.cmp .isin (.var 8) (.var 4))) (.sub (.var 2) (.sub (.var 4) (.var 8))) (.tup []))), (.asg false (.v 12) (.ife (.cmp .ne (.var 11) (.tup [])) (.call true 17 [(.var 11), (.call true 13 [(.var 1), (.cst (.int 4))]), (.cst (.int 4))]) (.call true 16 [(.call true 13 [(.var 1), (.cst (.int 4))]), (.cst (.int 9))]))), (.ret (.tup [(.var 7), (.var 8), (.ife (.cmp .eq (.bin .mod (.bin .fdv (.var 1) (.cst (.int 9973))) (.cst (.int 13))) (.cst (.int 0))) (.cst .non) (.var 12))]))] []),
  (.ret (.ife (.cmp .isin (.var 7) (.tup [(.cst (.str [102, 111, 114, 107])), (.cst (.str [106, 111, 105, 110]))])) (.tup [(.var 7), (.var 8), (.var 10)]) (.tup [(.var 7), (.var 8)])))]⟩
/-- 146: thing, one -/
def c_law_is_name : MP.Def := ⟨2, 1, [
  (.ifs (.or (.not (.blt (.isi .str) [(.var 0)])) (.not (.chn .le .le (.cst (.int 1)) (.blt .len [(.var 0)]) (.cst (.int 6))))) [(.ret (.cst (.bl false)))] []),
  (.ret (.cmp .eq (.comp [1] (.v 1) (.seq (.var 0)) (some (.cmp .notin (.var 1) (.cst (.str [97, 98, 99, 100, 101, 102, 103, 104, 105, 106, 107, 108, 109, 110, 111, 112, 113, 114, 115, 116, 117, 118, 119, 120, 121, 122])))) (.var 1)) (.lst [])))]⟩
/-- 147: state, deed, word, lists, elders, tips, name, ahead -/
def c_law_tree_due : MP.Def := ⟨8, 2, [
  (.asg false (.v 2) (.sub (.var 1) (.cst (.int 0)))),
  (.ifs (.cmp .isin (.var 2) (.tup [(.cst (.str [117, 110, 100, 111])), (.cst (.str [114, 101, 100, 111]))])) [(.ret (.call false 148 [(.var 0), (.var 2)]))] []),
  (.asg false (.t [(.v 3), (.v 4), (.v 5)]) (.sub (.var 0) (.cst (.str [110, 111, 119])))),
  (.asg false (.v 6) (.sub (.var 1) (.cst (.int 1)))),
  (.ifs (.or (.not (.call true 146 [(.var 6)])) (.cmp .eq (.cmp .isin (.var 6) (.var 5)) (.cmp .isin (.var 2) (.tup [(.cst (.str [98, 101, 103, 105, 110])), (.cst (.str [102, 111, 114, 107]))])))) [(.ret (.cst (.str [78, 65, 77, 69])))] []),
  (.ifs (.and (.cmp .isin (.var 2) (.tup [(.cst (.str [102, 111, 114, 107])), (.cst (.str [106, 111, 105, 110]))])) (.cmp .notin (.sub (.var 1) (.cst (.int 2))) (.var 5))) [(.ret (.cst (.str [78, 65, 77, 69])))] []),
  (.ifs (.cmp .eq (.var 2) (.cst (.str [100, 114, 111, 112]))) [(.exp (.call false 149 [(.var 0), (.var 3), (.var 4), (.var 6), (.cst .non)])), (.ret (.sub (.var 5) (.var 6)))] []),
  (.ifs (.cmp .eq (.var 2) (.cst (.str [102, 111, 114, 107]))) [(.exp (.call false 149 [(.var 0), (.var 3), (.var 4), (.var 6), (.sub (.var 5) (.sub (.var 1) (.cst (.int 2))))])), (.ret (.sub (.var 5) (.sub (.var 1) (.cst (.int 2)))))] []),
  (.ifs (.cmp .eq (.var 2) (.cst (.str [106, 111, 105, 110]))) [(.ret (.call false 150 [(.var 0), (.var 6), (.sub (.var 5) (.var 6)), (.sub (.var 5) (.sub (.var 1) (.cst (.int 2))))]))] []),
  (.ifs (.or (.cmp .isn (.sub (.var 1) (.cst (.int 2))) (.cst .non)) (.cmp .eq (.blt .len [(.var 3)]) (.cst (.int 40)))) [(.ret (.ife (.cmp .isn (.sub (.var 1) (.cst (.int 2))) (.cst .non)) (.cst (.str [76, 73, 83, 84])) (.cst (.str [70, 85, 76, 76]))))] []),
  (.asg false (.v 7) (.ife (.cmp .eq (.var 2) (.cst (.str [98, 101, 103, 105, 110]))) (.tup []) (.tup [(.sub (.var 5) (.var 6))]))),
  (.exp (.call false 149 [(.var 0), (.bin .add (.var 3) (.lst [(.sub (.var 1) (.cst (.int 2)))])), (.bin .add (.var 4) (.lst [(.var 7)])), (.var 6), (.blt .len [(.var 3)])])),
  (.ret (.blt .len [(.var 3)]))]⟩
/-- 148: state, word, ahead, behind -/
def c_law_tree_back : MP.Def := ⟨4, 2, [
  (.asg false (.t [(.v 2), (.v 3)]) (.ife (.cmp .eq (.var 1) (.cst (.str [117, 110, 100, 111]))) (.tup [(.cst (.str [112, 97, 115, 116])), (.cst (.str [108, 97, 116, 101, 114]))]) (.tup [(.cst (.str [108, 97, 116, 101, 114])), (.cst (.str [112, 97, 115, 116]))]))),
  (.ifs (.cmp .eq (.sub (.var 0) (.var 2)) (.lst [])) [(.ret (.cst (.str [83, 84, 69, 80])))] []),
  (.setI (.var 0) (.var 3) (.bin .add (.sub (.var 0) (.var 3)) (.lst [(.sub (.var 0) (.cst (.str [110, 111, 119])))]))),
  (.setI (.var 0) (.cst (.str [110, 111, 119])) (.sub (.sub (.var 0) (.var 2)) (.neg (.cst (.int 1))))),
  (.setI (.var 0) (.var 2) (.slc (.sub (.var 0) (.var 2)) none (some (.neg (.cst (.int 1)))))),
  (.ret (.cst .non))]⟩
/-- 149: state, lists, elders, name, number, tips -/
def c_law_tree_on : MP.Def := ⟨6, 5, [
  (.asg true (.v 5) (.blt .dict [(.sub (.sub (.var 0) (.cst (.str [110, 111, 119]))) (.cst (.int 2)))])),
  (.ifs (.cmp .isn (.var 4) (.cst .non)) [(.exp (.mth .dpop (.var 5) [(.var 3)]))] [(.setI (.var 5) (.var 3) (.var 4))]),
  (.setI (.var 0) (.cst (.str [112, 97, 115, 116])) (.bin .add (.sub (.var 0) (.cst (.str [112, 97, 115, 116]))) (.lst [(.sub (.var 0) (.cst (.str [110, 111, 119])))]))),
  (.setI (.var 0) (.cst (.str [110, 111, 119])) (.tup [(.var 1), (.var 2), (.var 5)])),
  (.setI (.var 0) (.cst (.str [108, 97, 116, 101, 114])) (.lst []))]⟩
/-- 150: state, name, mine, its, lists, elders, tips, base, some, clashes -/
def c_law_tree_join : MP.Def := ⟨10, 4, [
  (.asg false (.t [(.v 4), (.v 5), (.v 6)]) (.sub (.var 0) (.cst (.str [110, 111, 119])))),
  (.asg false (.v 7) (.call true 77 [(.var 5), (.var 2), (.var 3)])),
  (.ifs (.cmp .isn (.var 7) (.cst .non)) [(.ret (.cst (.str [69, 76, 68, 69, 82])))] []),
  (.ifs (.cmp .eq (.var 7) (.var 3)) [(.ret (.tup [(.var 2), (.lst [])]))] []),
  (.ifs (.cmp .eq (.var 7) (.var 2)) [(.exp (.call false 149 [(.var 0), (.var 4), (.var 5), (.var 1), (.var 3)])), (.ret (.tup [(.var 3), (.lst [])]))] []),
  (.asg false (.t [(.v 8), (.v 9)]) (.call true 31 [(.sub (.var 4) (.var 7)), (.sub (.var 4) (.var 2)), (.sub (.var 4) (.var 3))])),
  (.ifs (.or (.cmp .gt (.blt .len [(.var 8)]) (.cst (.int 16))) (.cmp .eq (.blt .len [(.var 4)]) (.cst (.int 40)))) [(.ret (.ife (.cmp .gt (.blt .len [(.var 8)]) (.cst (.int 16))) (.cst (.str [76, 73, 83, 84])) (.cst (.str [70, 85, 76, 76]))))] []),
  (.exp (.call false 149 [(.var 0), (.bin .add (.var 4) (.lst [(.var 8)])), (.bin .add (.var 5) (.lst [(.tup [(.var 2), (.var 3)])])), (.var 1), (.blt .len [(.var 4)])])),
  (.ret (.tup [(.blt .len [(.var 4)]), (.var 9)]))]⟩
/-- 151: tree, state, lists, elders, tips, name -/
def c_law_tree_like : MP.Def := ⟨6, 2, [
  (.asg false (.t [(.v 2), (.v 3), (.v 4)]) (.sub (.var 1) (.cst (.str [110, 111, 119])))),
  (.ifs (.or (.cmp .ne (.meth true 3 143 (.var 0) []) (.blt .sorted [(.var 4)])) (.cmp .ne (.call true 103 [(.meth false 3 128 (.var 0) [])]) (.call true 124 [(.var 2), (.var 3)]))) [(.ret (.cst (.bl false)))] []),
  (.fors (.v 5) (.seq (.var 4)) [(.ifs (.or (.cmp .ne (.meth true 3 141 (.var 0) [(.var 5)]) (.sub (.var 4) (.var 5))) (.cmp .ne (.meth true 3 142 (.var 0) [(.var 5)]) (.sub (.var 2) (.sub (.var 4) (.var 5))))) [(.ret (.cst (.bl false)))] [])]),
  (.ret (.cst (.bl true)))]⟩
def prog : Nat → Option MP.Def
  | 1 => some c_is_within
  | 2 => some c_is_key
  | 3 => some c_is_list
  | 4 => some c_look
  | 5 => some c_keys_of
  | 6 => some c_stays_of
  | 7 => some c_stays
  | 8 => some c_moved_of
  | 9 => some c_ahead_of
  | 10 => some c_deeds_of
  | 11 => some c_deeds
  | 12 => some c_law_cell
  | 13 => some c_law_seed
  | 14 => some c_law_pick
  | 15 => some c_law_key
  | 16 => some c_law_list
  | 17 => some c_law_other
  | 18 => some c_law_three
  | 19 => some c_law_stays
  | 20 => some c_law_keys
  | 21 => some c_Merging_DOT_value
  | 22 => some c_Merging_DOT_float
  | 23 => some c_Merging_DOT_open_rings
  | 24 => some c_Merging_DOT___init
  | 25 => some c_Merging_DOT_picked
  | 26 => some c_Merging_DOT_ahead
  | 27 => some c_Merging_DOT_ring_of
  | 28 => some c_Merging_DOT_behind
  | 29 => some c_Merging_DOT_result
  | 30 => some c_look_all
  | 31 => some c_merged
  | 32 => some c_law_value
  | 33 => some c_law_leader
  | 34 => some c_law_leaders
  | 35 => some c_law_rings
  | 36 => some c_law_path
  | 37 => some c_law_merged
  | 38 => some c_shown
  | 39 => some c_thing_of
  | 40 => some c_read
  | 41 => some c_is_deed_AT_changes
  | 42 => some c_put_behind
  | 43 => some c_done
  | 44 => some c_led
  | 45 => some c_law_mix
  | 46 => some c_law_of_list
  | 47 => some c_law_texts
  | 48 => some c_law_deed
  | 49 => some c_law_done
  | 50 => some c_law_no_deeds
  | 51 => some c_look_two
  | 52 => some c_far
  | 53 => some c_kept_keys
  | 54 => some c_runs
  | 55 => some c_nearest_list
  | 56 => some c_law_far
  | 57 => some c_are_picks
  | 58 => some c_settled
  | 59 => some c_House_DOT___init
  | 60 => some c_House_DOT_look_version
  | 61 => some c_House_DOT_put
  | 62 => some c_House_DOT_begin
  | 63 => some c_House_DOT_change
  | 64 => some c_House_DOT_all_elders
  | 65 => some c_House_DOT_forebears
  | 66 => some c_House_DOT_common
  | 67 => some c_House_DOT_base
  | 68 => some c_House_DOT_lead
  | 69 => some c_House_DOT_heads
  | 70 => some c_House_DOT_version
  | 71 => some c_is_deed_AT_house
  | 72 => some c_do
  | 73 => some c_law_deeds_of
  | 75 => some c_law_rings_refused
  | 76 => some c_law_elders
  | 77 => some c_law_common
  | 78 => some c_law_house_deed
  | 79 => some c_law_house_told
  | 80 => some c_wall
  | 81 => some c_law_refusing
  | 82 => some c_law_refused_early
  | 83 => some c_law_refused_late
  | 84 => some c_law_too_many
  | 85 => some c_law_grow
  | 86 => some c_play
  | 87 => some c_law_mark
  | 88 => some c_law_short
  | 89 => some c_law_named
  | 90 => some c_look_deeds
  | 91 => some c_line_of_AT_deedtexts
  | 92 => some c_lines_of
  | 93 => some c_deeds_text
  | 94 => some c_part_of
  | 95 => some c_read_deeds
  | 96 => some c_first_list
  | 97 => some c_line
  | 98 => some c_keys_changed
  | 99 => some c_changed_keys
  | 100 => some c_history
  | 101 => some c_news
  | 102 => some c_line_of_AT_housetexts
  | 103 => some c_house_text
  | 104 => some c_number_of
  | 105 => some c_add_line
  | 106 => some c_read_house
  | 107 => some c_turned_about
  | 108 => some c_steps
  | 109 => some c_leads
  | 110 => some c_needless_deeds
  | 111 => some c_lean
  | 112 => some c_law_apply
  | 113 => some c_law_some_deeds
  | 114 => some c_law_deed_lines
  | 115 => some c_law_reads_deeds
  | 116 => some c_law_later_caught
  | 117 => some c_law_later_asked
  | 118 => some c_law_later_more
  | 119 => some c_law_behind_all
  | 120 => some c_law_grown_house
  | 121 => some c_law_changed
  | 122 => some c_law_line_of
  | 123 => some c_law_list_text
  | 124 => some c_law_house_lines
  | 125 => some c_law_reads_house
  | 126 => some c_is_name
  | 127 => some c_Branches_DOT___init
  | 128 => some c_Branches_DOT_house
  | 129 => some c_Branches_DOT_tips
  | 130 => some c_Branches_DOT_need
  | 131 => some c_Branches_DOT_need_new
  | 132 => some c_Branches_DOT_go
  | 133 => some c_Branches_DOT_set_tip
  | 134 => some c_Branches_DOT_begin
  | 135 => some c_Branches_DOT_fork
  | 136 => some c_Branches_DOT_keep
  | 137 => some c_Branches_DOT_join
  | 138 => some c_Branches_DOT_drop
  | 139 => some c_Branches_DOT_undo
  | 140 => some c_Branches_DOT_redo
  | 141 => some c_Branches_DOT_tip
  | 142 => some c_Branches_DOT_content
  | 143 => some c_Branches_DOT_names
  | 144 => some c_law_tree_deed
  | 145 => some c_law_tree_drawn
  | 146 => some c_law_is_name
  | 147 => some c_law_tree_due
  | 148 => some c_law_tree_back
  | 149 => some c_law_tree_on
  | 150 => some c_law_tree_join
  | 151 => some c_law_tree_like
  | _ => none
/-- a program that has these defs -/
class Ext (P : Nat → Option MP.Def) : Prop where
  ext : ∀ f d, prog f = some d → P f = some d
theorem callM_of {P : Nat → Option Def} [X : Ext P] {n f : Nat} {d : Def} {as : List D} {fl : Nat} {h h' : Hp} {v w : Vl} (hP : prog f = some d) (hr : runDef (lev P n) d as h.length h = .ok v h') (ho : outV h.length h' v = some w) : callA (lev P (n + 1)) true f as fl h = .ok w h := callA_of (X.ext f d hP) hr ho
theorem callI_of {P : Nat → Option Def} [X : Ext P] {n f : Nat} {d : Def} {as : List D} {fl : Nat} {h h' : Hp} {v : Vl} (hP : prog f = some d) (hr : runDef (lev P n) d as fl h = .ok v h') : callA (lev P (n + 1)) false f as fl h = .ok v h' := by
  unfold callA
  rw [if_neg (by decide), lev_call (X.ext f d hP), hr]
end Cd
end
section
set_option linter.all false
set_option maxRecDepth 100000
set_option maxHeartbeats 4000000
namespace Cd
open MP
variable {P : Nat → Option Def} [Ext P]
def goodKey (t : Txt) : Prop := 1 ≤ t.length ∧ t.length ≤ 3 ∧ ∀ c ∈ t, 97 ≤ c ∧ c ≤ 122
theorem r_is_within (i lo hi : Int) (G : Fns) (fl : Nat) (h : Hp) : runDef G c_is_within [.int i, .int lo, .int hi] fl h = .ok (.d (.bl (decide (lo ≤ i) && decide (i ≤ hi)))) h := by
  simp [runDef, c_is_within, start, bltOp, bIsi, isiV, truth, cmpOp, leV]
  by_cases h1 : lo ≤ i <;> simp [h1]
theorem r_is_key {t : Txt} (hg : goodKey t) (G : Fns) (fl : Nat) (h : Hp) : runDef G c_is_key [.str t] fl h = .ok (.d (.bl true)) h := by
  obtain ⟨h1, h2, h3⟩ := hg
  have hm : t.length ≤ most := by unfold most; omega
  have hc := ev_comp (G := G) (fl := fl) (ρ := [some (.str t), none]) (h := h) (own := [1]) (tg := .v 1) (it := .seq (.var 0)) (cond := some (.cmp .notin (.var 1) (.glb 0 (.str [97, 98, 99, 100, 101, 102, 103, 104, 105, 106, 107, 108, 109, 110, 111, 112, 113, 114, 115, 116, 117, 118, 119, 120, 121, 122])))) (elt := .var 1) (l := t.map fun c => .str [c]) (h1 := h)
    (fun _ => none) (by simp [srcOf, hm]) (fun x hx => by
      obtain ⟨c, hc, rfl⟩ := List.mem_map.mp hx
      have := h3 c hc
      simp [turn, bindT, wipe, cmpOp, inOp]
      omega)
  have d1 : (1 : Int) ≤ (t.length : Int) := by omega
  have d2 : (t.length : Int) ≤ 3 := by omega
  have hz : (t.map fun c => D.str [c]).filterMap (fun _ => (none : Option D)) = [] := by simp
  rw [hz] at hc
  have d3 : truth h (.nls []) = some false := rfl
  simp [runDef, c_is_key, start, bltOp, bIsi, isiV, cmpOp, leV, bLen, hm, hc, d1, d2, d3]
theorem p_is_within (i lo hi : Int) (n fl : Nat) (h : Hp) : callA (lev P (n + 1)) true 1 [.int i, .int lo, .int hi] fl h = .ok (.d (.bl (decide (lo ≤ i) && decide (i ≤ hi)))) h := callM_of rfl (r_is_within i lo hi _ _ h) rfl
theorem p_is_key {t : Txt} (hg : goodKey t) (n fl : Nat) (h : Hp) : callA (lev P (n + 1)) true 2 [.str t] fl h = .ok (.d (.bl true)) h := callM_of rfl (r_is_key hg _ _ h) rfl
def ks (l : List (Txt × Int)) : List Txt := l.map (·.1)
theorem ks_len (l : List (Txt × Int)) : (ks l).length = l.length := by simp [ks]
structure Good (l : List (Txt × Int)) : Prop where
  len : l.length ≤ 16
  key : ∀ p ∈ l, goodKey p.1
  val : ∀ p ∈ l, 0 ≤ p.2 ∧ p.2 ≤ 999
  nd : (ks l).Nodup
theorem strsOf_map (l : List Txt) : strsOf (l.map .str) = some l := by
  induction l with
  | nil => rfl
  | cons x l ih => simp [strsOf, ih]
theorem distinct_nodup : ∀ {l : List Txt}, l.Nodup → (distinct l).length = l.length
  | [], _ => rfl
  | x :: l, h => by
    have h' := List.nodup_cons.mp h
    unfold distinct
    rw [if_neg (by simpa using h'.1)]
    simp [distinct_nodup h'.2]
theorem r_is_list {l : List (Txt × Int)} (g : Good l) (n fl : Nat) (h : Hp) : runDef (lev P (n + 1)) c_is_list [.tup (l.map tD)] fl h = .ok (.d (.bl true)) h := by
  obtain ⟨ρ', h', e, e1, x, e2⟩ := for_ok (t := .v 1) (body := fun ρ h => exs (lev P (n + 1)) fl [(.ifs (.or (.not (.blt (.isi .tuple) [(.var 1)])) (.or (.cmp .ne (.blt .len [(.var 1)]) (.cst (.int 2))) (.or (.not (.call true 2 [(.sub (.var 1) (.cst (.int 0)))])) (.not (.call true 1 [(.sub (.var 1) (.cst (.int 1))), (.cst (.int 0)), (.glb 2 (.int 999))]))))) [(.ret (.cst (.bl false)))] [])] ρ h)
    (fun (_ : List D) ρ hh => hh = h ∧ ∃ x, ρ = [some (.tup (l.map tD)), x, none, none]) (l.map tD) [] [some (.tup (l.map tD)), none, none, none] h ⟨rfl, none, rfl⟩ fun x d' r ρ hh e ⟨e1, y, e2⟩ => by
      subst e1 e2
      have hx : x ∈ l.map tD := by
        have : x ∈ [] ++ l.map tD := by rw [e]; simp
        simpa using this
      obtain ⟨p, hp, rfl⟩ := List.mem_map.mp hx
      refine ⟨[some (.tup (l.map tD)), some (tD p), none, none], by simp [bindT], [some (.tup (l.map tD)), some (tD p), none, none], hh, .inl ?_, rfl, _, rfl⟩
      have hk := g.key p hp
      have hv := g.val p hp
      simp [tD, bltOp, bIsi, isiV, truth, bLen, seqOf, cmpOp, eqVl, dataOf, eqD, subOp, atIx, keep, p_is_key hk, p_is_within, hv.1, hv.2, nrN]
  subst e1 e2
  have hc := ev_comp (G := lev P (n + 1)) (fl := fl) (ρ := [some (.tup (l.map tD)), x, none, none]) (own := [2, 3]) (tg := .t [.v 2, .v 3]) (it := .seq (.var 0)) (cond := none) (elt := .var 2) (l := l.map tD) (h1 := h') (h := h') (fun d => match d with | .tup (x :: _) => some x | _ => none) (by simp [srcOf]) (fun d hd => by
    obtain ⟨p, hp, rfl⟩ := List.mem_map.mp hd
    simp [turn, tD, bindT, bindTs, seqOf, wipe, keep])
  have hm : (l.map tD).filterMap (fun d => match d with | .tup (x :: _) => some x | _ => none) = (ks l).map .str := by
    unfold ks
    rw [List.filterMap_map, List.map_map]
    exact List.filterMap_eq_map ▸ rfl
  rw [hm] at hc
  have hlen := g.len
  have hd := distinct_nodup g.nd
  rw [ks_len] at hd
  refine run_rt rfl rfl (exs_to (ρ1 := [some (.tup (l.map tD)), none, none, none]) (h1 := h') ?_ (exs_to ((ex_for (l := l.map tD) (h1 := h') (by simp [srcOf])).trans e) ?_))
  · have h5 : ¬ (16 : Int) < (l.length : Int) := by omega
    simp [start, bltOp, bIsi, isiV, truth, bLen, seqOf, cmpOp, ltV, h5]
    rfl
  · have h4 : (ks l).length ≤ 4000 := by rw [ks_len]; omega
    simp [bltOp, bSetLen, lstOf, hc, strsOf_map, bLen, seqOf, cmpOp, eqVl, dataOf, eqD, nrN, h4, hd]
theorem p_is_list {l : List (Txt × Int)} (g : Good l) (n fl : Nat) (h : Hp) : callA (lev P (n + 2)) true 3 [.tup (l.map tD)] fl h = .ok (.d (.bl true)) h := callM_of rfl (r_is_list g n _ h) rfl
theorem p_look {l : List (Txt × Int)} (g : Good l) (n fl : Nat) (h : Hp) : callA (lev P (n + 3)) true 4 [.tup (l.map tD)] fl h = .ok (.d .non) h := by
  refine callM_of (d := c_look) rfl (run_nx rfl rfl (exs_to (ρ1 := [some (.tup (l.map tD))]) (h1 := h) ?_ rfl)) rfl
  simp [start, p_is_list g, truth, keep]
  rfl
theorem p_keys_of (l : List (Txt × Int)) (n fl : Nat) (h : Hp) : callA (lev P (n + 1)) true 5 [.tup (l.map tD)] fl h = .ok (.nls ((ks l).map .str)) h := by
  have hc := ev_comp (G := lev P n) (fl := h.length) (ρ := [some (.tup (l.map tD)), none, none]) (own := [1, 2]) (tg := .t [.v 1, .v 2]) (it := .seq (.var 0)) (cond := none) (elt := .var 1) (l := l.map tD) (h1 := h) (h := h) (fun d => match d with | .tup (x :: _) => some x | _ => none) (by simp [srcOf]) (fun d hd => by
    obtain ⟨p, hp, rfl⟩ := List.mem_map.mp hd
    simp [turn, tD, bindT, bindTs, seqOf, wipe, keep])
  have hm : (l.map tD).filterMap (fun d => match d with | .tup (x :: _) => some x | _ => none) = (ks l).map .str := by
    unfold ks
    rw [List.filterMap_map, List.map_map]
    exact List.filterMap_eq_map ▸ rfl
  rw [hm] at hc
  refine callM_of (d := c_keys_of) (v := .nls ((ks l).map .str)) (h' := h) rfl (run_rt rfl rfl ?_) ?_
  · simp [c_keys_of, start, hc]
  · simp [outV, nrN]
end Cd
end
section
set_option linter.all false
set_option maxRecDepth 100000
set_option maxHeartbeats 4000000
namespace MP
theorem eqD_str (x y : Txt) : eqD (.str x) (.str y) = (x == y) := by rw [eqD]
theorem hasD_strs (x : Txt) (l : List Txt) : hasD (.str x) (l.map .str) = l.contains x := by
  unfold hasD
  rw [List.any_map]
  induction l with
  | nil => rfl
  | cons y l ih =>
    simp only [List.any_cons, List.contains_cons, Function.comp, eqD_str] at ih ⊢
    rw [ih]
    congr 1
    by_cases h : y = x
    · subst h; simp
    · rw [beq_eq_false_iff_ne.mpr h, beq_eq_false_iff_ne.mpr (Ne.symm h)]
theorem in_strs (h : Hp) (x : Txt) (l : List Txt) : inOp h (.d (.str x)) (.d (.lst (l.map .str))) = some (l.contains x) := by
  simp [inOp, seqOf, dataOf, nrN, hasD_strs]
theorem in_strsN (h : Hp) (x : Txt) (l : List Txt) : inOp h (.d (.str x)) (.nls (l.map .str)) = some (l.contains x) := by
  simp [inOp, seqOf, dataOf, nrN, hasD_strs]
theorem indexD_strs (x : Txt) : ∀ l : List Txt, x ∈ l → indexD (.str x) (l.map .str) = some (l.idxOf x)
  | y :: l, h => by
    simp only [List.map_cons, indexD, eqD_str]
    by_cases e : y = x
    · subst e; simp
    · have h' : x ∈ l := by
        rcases List.mem_cons.mp h with q | q
        · exact absurd q.symm e
        · exact q
      rw [beq_eq_false_iff_ne.mpr e, indexD_strs x l h', List.idxOf_cons, beq_eq_false_iff_ne.mpr e]
      simp
theorem flat_strs (l : List Txt) : (l.map D.str).all flat = true := by
  rw [List.all_map]
  exact List.all_eq_true.mpr fun _ _ => rfl
theorem bIndex_strs {fl : Nat} {h : Hp} {x : Txt} {l : List Txt} (hx : x ∈ l) : bIndex fl h [.d (.lst (l.map .str)), .d (.str x)] = some ((.d (.int (l.idxOf x))), h) := by
  simp [bIndex, lstOf, dataOf, nrN, flat_strs, indexD_strs x l hx, flat]
end MP
namespace Cd
open MP
variable {P : Nat → Option Def} [Ext P]
/-- the keys of b that are in o -/
def both (b o : List Txt) : List Txt := b.filter fun x => o.contains x
theorem p_ahead (row : List Txt) (i : Nat) (hi : i ≤ row.length) (n fl : Nat) (h : Hp) : callA (lev P (n + 1)) true 9 [.lst (row.map .str), .int i] fl h = .ok (.d (match i with | 0 => .non | j + 1 => .str (row.getD j []))) h := by
  refine callM_of (d := c_ahead_of) (v := .d (match i with | 0 => .non | j + 1 => .str (row.getD j []))) (h' := h) rfl (run_rt (ρ := [some (.lst (row.map .str)), some (.int i)]) rfl rfl ?_) ?_
  · cases i with
    | zero => simp [c_ahead_of, cmpOp, ltV]
    | succ j =>
      have hj : j < row.length := by omega
      simp [c_ahead_of, cmpOp, ltV, binOp, subV, subOp, seqOf, atIx, hj]
  · cases i <;> simp [outV, nrN]
/-! ### stays_of: how long a row can be from each place on -/
def lonAt (p : Int) (l : List (Int × Int)) : Int := l.foldl (fun m q => if p < q.1 then (if m < q.2 + 1 then q.2 + 1 else m) else m) 1
def lon : List Int → List Int
  | [] => []
  | p :: ps => lonAt p (ps.zip (lon ps)) :: lon ps
theorem lon_len : ∀ ps, (lon ps).length = ps.length
  | [] => rfl
  | p :: ps => by simp [lon, lon_len ps]
end Cd
end
section
set_option linter.all false
set_option maxRecDepth 100000
set_option maxHeartbeats 4000000
namespace Cd
open MP
variable {P : Nat → Option Def} [Ext P]
/-- the environment of stays_of in its loops -/
abbrev sE (b o : List Txt) (bt : List Txt) (pl : List Int) (r : Nat) (x5 x6 : Option D) : Env :=
  [some (.lst (b.map .str)), some (.lst (o.map .str)), some (.lst (bt.map .str)), some (.lst (pl.map .int)), some (.ref r), x5, x6, none, none, none, none]
abbrev sInner : List Stm := [(.ifs (.cmp .gt (.sub (.var 3) (.var 6)) (.sub (.var 3) (.var 5))) [(.setI (.var 4) (.var 5) (.blt .max2 [(.sub (.var 4) (.var 5)), (.bin .add (.sub (.var 4) (.var 6)) (.cst (.int 1)))]))] [])]
theorem at_int (l : List Int) (i : Nat) (v : Int) (h : l[i]? = some v) : (l.map D.int)[i]? = some (.int v) := by rw [List.getElem?_map, h]; rfl
theorem sub_ints {h : Hp} {a : Vl} {l : List Int} {i : Nat} {v : Int} (hs : seqOf h a = some (l.map .int)) (e : l[i]? = some v) : subOp h a (.d (.int i)) = some (.d (.int v)) := by
  have hi : i < l.length := (List.getElem?_eq_some_iff.mp e).1
  have e2 : (l.map D.int)[i]? = some (.int v) := at_int l i v e
  cases a with
  | d x =>
    cases x with
    | str t => simp [seqOf] at hs
    | _ => simp only [subOp, hs, List.length_map, atIx_nat hi, e2]
  | _ => simp only [subOp, hs, List.length_map, atIx_nat hi, e2]
/-- one turn of the inner loop: longest is L -/
theorem inner_turn {b o bt : List Txt} {pl L : List Int} {r at_ bh : Nat} {G : Fns} {fl : Nat} {h : Hp} {pa pb la lb : Int} (hr : h[r]? = some (.lst (L.map .int))) (hf : ¬ r < fl) (h1 : pl[at_]? = some pa) (h2 : pl[bh]? = some pb) (h3 : L[at_]? = some la) (h4 : L[bh]? = some lb) (hl : L.length = pl.length) :
    exs G fl sInner (sE b o bt pl r (some (.int at_)) (some (.int bh))) h = .nx (sE b o bt pl r (some (.int at_)) (some (.int bh))) (if pa < pb then h.set r (.lst ((L.set at_ (if la < lb + 1 then lb + 1 else la)).map .int)) else h) := by
  have i1 : at_ < pl.length := (List.getElem?_eq_some_iff.mp h1).1
  have i2 : bh < pl.length := (List.getElem?_eq_some_iff.mp h2).1
  have i3 : at_ < L.length := by omega
  have i4 : bh < L.length := by omega
  have s1 : subOp h (.d (.lst (pl.map .int))) (.d (.int at_)) = some (.d (.int pa)) := sub_ints rfl h1
  have s2 : subOp h (.d (.lst (pl.map .int))) (.d (.int bh)) = some (.d (.int pb)) := sub_ints rfl h2
  have s3 : subOp h (.d (.ref r)) (.d (.int at_)) = some (.d (.int la)) := sub_ints (by simp [seqOf, hr]) h3
  have s4 : subOp h (.d (.ref r)) (.d (.int bh)) = some (.d (.int lb)) := sub_ints (by simp [seqOf, hr]) h4
  by_cases hp : pa < pb
  · simp [s1, s2, s3, s4, cmpOp, ltV, hp, bltOp, bMax2, binOp, addV, hf, hr, atIx_nat, i3, keep, List.map_set]
  · simp [s1, s2, cmpOp, ltV, hp]
end Cd
end
section
set_option linter.all false
set_option maxRecDepth 100000
set_option maxHeartbeats 4000000
namespace Cd
open MP
variable {P : Nat → Option Def} [Ext P]
theorem lonAt_take {p : Int} {z : List (Int × Int)} {k : Nat} {q : Int × Int} (e : z[k]? = some q) : lonAt p (z.take (k + 1)) = (if p < q.1 then (if lonAt p (z.take k) < q.2 + 1 then q.2 + 1 else lonAt p (z.take k)) else lonAt p (z.take k)) := by
  unfold lonAt
  rw [List.take_add_one, e]
  simp
/-- longest, at_ ones ahead, m at at_, then r -/
def lL (at_ : Nat) (m : Int) (r : List Int) : List Int := List.replicate at_ 1 ++ m :: r
theorem lL_at (at_ : Nat) (m : Int) (r : List Int) : (lL at_ m r)[at_]? = some m := by simp [lL]
theorem lL_behind (at_ k : Nat) (m : Int) (r : List Int) : (lL at_ m r)[at_ + 1 + k]? = r[k]? := by
  unfold lL
  rw [List.getElem?_append_right (by simp; omega)]
  simp only [List.length_replicate]
  rw [show at_ + 1 + k - at_ = k + 1 by omega]
  simp
theorem lL_set (at_ : Nat) (m v : Int) (r : List Int) : (lL at_ m r).set at_ v = lL at_ v r := by
  unfold lL
  rw [List.set_append_right _ _ (by simp)]
  simp
theorem inner_loop {b o bt : List Txt} {pre ps : List Int} {p : Int} {r at_ : Nat} {G : Fns} {fl : Nat} {h : Hp} (hf : ¬ r < fl) (ha : pre.length = at_) (hr : h[r]? = some (.lst ((lL at_ 1 (lon ps)).map .int))) (x6 : Option D) :
    ∃ y, forFix (.v 6) (fun ρ h => exs G fl sInner ρ h) (rngD ((at_ : Int) + 1) ps.length) (sE b o bt (pre ++ p :: ps) r (some (.int at_)) x6) h = .nx (sE b o bt (pre ++ p :: ps) r (some (.int at_)) y) (h.set r (.lst ((lL at_ (lonAt p (ps.zip (lon ps))) (lon ps)).map .int))) := by
  have hlt : r < h.length := (List.getElem?_eq_some_iff.mp hr).1
  have zl : (ps.zip (lon ps)).length = ps.length := by simp [lon_len]
  obtain ⟨ρ', h', e, ⟨y, e1⟩, e2⟩ := for_ok (t := .v 6) (body := fun ρ h => exs G fl sInner ρ h)
    (fun done ρ hh => (∃ y, ρ = sE b o bt (pre ++ p :: ps) r (some (.int at_)) y) ∧ hh = h.set r (.lst ((lL at_ (lonAt p ((ps.zip (lon ps)).take done.length)) (lon ps)).map .int)))
    (rngD ((at_ : Int) + 1) ps.length) [] (sE b o bt (pre ++ p :: ps) r (some (.int at_)) x6) h ⟨⟨x6, rfl⟩, by
      obtain ⟨hl, he⟩ := List.getElem?_eq_some_iff.mp hr
      show h = h.set r (.lst ((lL at_ 1 (lon ps)).map .int))
      rw [← he]; simp⟩ fun x d' rr ρ hh ee ⟨⟨y, e1⟩, e2⟩ => by
      have hk : d'.length < ps.length := by
        have := congrArg List.length ee
        simp [rngD] at this
        omega
      have hx : x = .int ((at_ : Int) + 1 + (d'.length : Int)) := by
        have q : ([] ++ rngD ((at_ : Int) + 1) ps.length)[d'.length]? = some x := by rw [ee]; simp
        simp [rngD, hk] at q
        exact q.symm
      subst hx e1
      have hx2 : ((at_ : Int) + 1 + (d'.length : Int)) = ((at_ + 1 + d'.length : Nat) : Int) := by omega
      rw [hx2]
      refine ⟨sE b o bt (pre ++ p :: ps) r (some (.int at_)) (some (.int ((at_ + 1 + d'.length : Nat) : Int))), by simp [bindT], _, _, .inl (inner_turn (L := lL at_ (lonAt p ((ps.zip (lon ps)).take d'.length)) (lon ps)) (pa := p) (pb := ps[d'.length]) (la := lonAt p ((ps.zip (lon ps)).take d'.length)) (lb := (lon ps)[d'.length]'(by rw [lon_len]; exact hk)) (by rw [e2]; simp [hlt]) hf ?_ ?_ (lL_at _ _ _) ?_ ?_), ⟨_, rfl⟩, ?_⟩
      · simp [← ha]
      · rw [List.getElem?_append_right (by omega)]
        rw [show at_ + 1 + d'.length - pre.length = d'.length + 1 by omega]
        simp [hk]
      · rw [lL_behind]; simp [lon_len, hk]
      · simp [lL, lon_len, ha]
      · have ez : (ps.zip (lon ps))[d'.length]? = some (ps[d'.length], (lon ps)[d'.length]'(by rw [lon_len]; exact hk)) := by
          simp [List.getElem?_zip_eq_some, hk, lon_len]
        rw [List.length_append, List.length_singleton, lonAt_take ez, lL_set, e2]
        simp only []
        by_cases hp : p < ps[d'.length]
        · simp [hp, List.set_set]
        · simp [hp]
  refine ⟨y, ?_⟩
  have el : ([] ++ rngD ((at_ : Int) + 1) ps.length).length = (ps.zip (lon ps)).length := by rw [zl]; simp [rngD]
  rw [e, e1, e2, el, List.take_length]
end Cd
end
section
set_option linter.all false
set_option maxRecDepth 100000
set_option maxHeartbeats 4000000
namespace Cd
open MP
variable {P : Nat → Option Def} [Ext P]
abbrev sOuter : List Stm := [(.fors (.v 6) (.rng2 (.bin .add (.var 5) (.cst (.int 1))) (.blt .len [(.var 2)])) sInner)]
theorem evI_rng2 {G : Fns} {fl : Nat} {ρ : Env} {h : Hp} {a b : Ex} {i j : Int} (ha : ev G fl a ρ h = .ok (.d (.int i)) h) (hb : ev G fl b ρ h = .ok (.d (.int j)) h) (hz : i ≤ 16777216 ∧ -16777216 ≤ i ∧ j ≤ 16777216 ∧ -16777216 ≤ j ∧ j - i ≤ 16777216) : evI G fl (.rng2 a b) ρ h = .ok (.fix (rngD i (j - i).toNat)) h := by
  rw [evI, ha]
  simp only [R.bind_ok]
  rw [hb]
  simp only [R.bind_ok, if_pos hz]
theorem outer_turn {b o bt : List Txt} {pre ps : List Int} {p : Int} {r at_ : Nat} {G : Fns} {fl : Nat} {h : Hp} (hf : ¬ r < fl) (ha : pre.length = at_) (hn : bt.length = (pre ++ p :: ps).length) (hz : bt.length ≤ 1000) (hr : h[r]? = some (.lst ((lL at_ 1 (lon ps)).map .int))) (x6 : Option D) :
    ∃ y, exs G fl sOuter (sE b o bt (pre ++ p :: ps) r (some (.int at_)) x6) h = .nx (sE b o bt (pre ++ p :: ps) r (some (.int at_)) y) (h.set r (.lst ((lL at_ (lonAt p (ps.zip (lon ps))) (lon ps)).map .int))) := by
  obtain ⟨y, e⟩ := inner_loop (b := b) (o := o) (bt := bt) (p := p) (G := G) hf ha hr x6
  refine ⟨y, exs_to ((ex_for ?_).trans e) rfl⟩
  have hl : bt.length = at_ + 1 + ps.length := by rw [hn]; simp; omega
  have q := evI_rng2 (G := G) (fl := fl) (ρ := sE b o bt (pre ++ p :: ps) r (some (.int at_)) x6) (h := h) (a := .bin .add (.var 5) (.cst (.int 1))) (b := .blt .len [(.var 2)]) (i := (at_ : Int) + 1) (j := (bt.length : Int)) (by simp [binOp, addV]) (by simp [bltOp, bLen, seqOf]) (by omega)
  rw [q]
  have : ((bt.length : Int) - ((at_ : Int) + 1)).toNat = ps.length := by omega
  rw [this]
theorem outer_loop {b o bt : List Txt} {pl : List Int} {r : Nat} {G : Fns} {fl : Nat} {h : Hp} (hf : ¬ r < fl) (hn : bt.length = pl.length) (hz : bt.length ≤ 1000) (hr : h[r]? = some (.lst ((List.replicate pl.length (1 : Int)).map .int))) :
    ∃ x5 x6, forFix (.v 5) (fun ρ h => exs G fl sOuter ρ h) (((List.range pl.length).map fun (i : Nat) => D.int i).reverse) (sE b o bt pl r none none) h = .nx (sE b o bt pl r x5 x6) (h.set r (.lst ((lon pl).map .int))) := by
  have hlt : r < h.length := (List.getElem?_eq_some_iff.mp hr).1
  obtain ⟨ρ', h', e, ⟨x5, x6, e1⟩, e2⟩ := for_ok (t := .v 5) (body := fun ρ h => exs G fl sOuter ρ h)
    (fun done ρ hh => (∃ x5 x6, ρ = sE b o bt pl r x5 x6) ∧ hh = h.set r (.lst ((List.replicate (pl.length - done.length) 1 ++ lon (pl.drop (pl.length - done.length))).map .int)))
    (((List.range pl.length).map fun (i : Nat) => D.int i).reverse) [] (sE b o bt pl r none none) h ⟨⟨none, none, rfl⟩, by
      obtain ⟨hl, he⟩ := List.getElem?_eq_some_iff.mp hr
      show h = h.set r _
      simp only [List.length_nil, Nat.sub_zero, List.drop_length, lon, List.append_nil]
      rw [← he]; simp⟩ fun x d' rr ρ hh ee ⟨⟨x5, x6, e1⟩, e2⟩ => by
      have hk : d'.length < pl.length := by
        have := congrArg List.length ee
        simp at this
        omega
      obtain ⟨at_, hat⟩ : ∃ at_, at_ + 1 + d'.length = pl.length := ⟨pl.length - d'.length - 1, by omega⟩
      have hx : x = .int (at_ : Int) := by
        have q : ([] ++ ((List.range pl.length).map fun (i : Nat) => D.int i).reverse)[d'.length]? = some x := by rw [ee]; simp
        rw [List.nil_append, List.getElem?_reverse (by simpa using hk)] at q
        simp at q
        obtain ⟨a, q1, q2⟩ := q
        rw [List.getElem?_range (by omega)] at q1
        cases q1
        rw [← q2, show pl.length - 1 - d'.length = at_ by omega]
      subst hx e1
      have hsp : pl = pl.take at_ ++ pl[at_]'(by omega) :: pl.drop (at_ + 1) := by
        rw [List.getElem_cons_drop]; simp
      have k1 : pl.length - d'.length = at_ + 1 := by omega
      have k2 : pl.length - (d' ++ [D.int (at_ : Int)]).length = at_ := by simp; omega
      rw [k1] at e2
      have hL : List.replicate (at_ + 1) (1 : Int) ++ lon (pl.drop (at_ + 1)) = lL at_ 1 (lon (pl.drop (at_ + 1))) := by
        unfold lL
        rw [List.replicate_succ']
        simp
      rw [hL] at e2
      obtain ⟨y, ey⟩ := outer_turn (b := b) (o := o) (bt := bt) (pre := pl.take at_) (p := pl[at_]'(by omega)) (ps := pl.drop (at_ + 1)) (r := r) (at_ := at_) (G := G) (fl := fl) (h := hh) hf (by simp; omega) (by rw [← hsp]; exact hn) hz (by rw [e2]; simp [hlt]) x6
      rw [← hsp] at ey
      refine ⟨sE b o bt pl r (some (.int at_)) x6, by simp [bindT], _, _, .inl ey, ⟨_, _, rfl⟩, ?_⟩
      have fin : lL at_ (lonAt (pl[at_]'(by omega)) ((pl.drop (at_ + 1)).zip (lon (pl.drop (at_ + 1))))) (lon (pl.drop (at_ + 1))) = List.replicate at_ 1 ++ lon (pl.drop at_) := by
        rw [show pl.drop at_ = pl[at_]'(by omega) :: pl.drop (at_ + 1) from List.drop_eq_getElem_cons (by omega)]
        rfl
      rw [k2, e2, List.set_set, fin]
  refine ⟨x5, x6, ?_⟩
  rw [e, e1, e2]
  simp
end Cd
end
section
set_option linter.all false
set_option maxRecDepth 100000
set_option maxHeartbeats 4000000
namespace Cd
open MP
variable {P : Nat → Option Def} [Ext P]
/-- found, want, last -/
abbrev St3 := List Txt × Int × Int
def gs (s : St3) (q : Txt × Int × Int) : St3 := if 0 < s.2.1 ∧ q.2.2 = s.2.1 ∧ s.2.2 < q.2.1 then (s.1 ++ [q.1], s.2.1 - 1, q.2.1) else s
abbrev fE (b o bt : List Txt) (pl : List Int) (r f : Nat) (x5 x6 x10 : Option D) (w la : Int) : Env :=
  [some (.lst (b.map .str)), some (.lst (o.map .str)), some (.lst (bt.map .str)), some (.lst (pl.map .int)), some (.ref r), x5, x6, some (.ref f), some (.int w), some (.int la), x10]
abbrev sFound : List Stm := [(.ifs (.and (.cmp .gt (.var 8) (.cst (.int 0))) (.and (.cmp .eq (.sub (.var 4) (.var 5)) (.var 8)) (.cmp .gt (.sub (.var 3) (.var 5)) (.var 9)))) [(.exp (.mth .append (.var 7) [(.var 10)])), (.asg false (.v 9) (.sub (.var 3) (.var 5))), (.aug 8 .sub (.cst (.int 1)))] [])]
theorem found_turn {b o bt : List Txt} {pl L : List Int} {r f i : Nat} {x6 : Option D} {G : Fns} {fl : Nat} {h : Hp} {s : St3} {key : Txt} {p m : Int} (hr : h[r]? = some (.lst (L.map .int))) (hfo : h[f]? = some (.lst (s.1.map .str))) (hf : ¬ f < fl) (h1 : pl[i]? = some p) (h2 : L[i]? = some m) (hz : s.1.length < 1000) :
    exs G fl sFound (fE b o bt pl r f (some (.int i)) x6 (some (.str key)) s.2.1 s.2.2) h = .nx (fE b o bt pl r f (some (.int i)) x6 (some (.str key)) (gs s (key, p, m)).2.1 (gs s (key, p, m)).2.2) (h.set f (.lst ((gs s (key, p, m)).1.map .str))) := by
  have s1 : ∀ k : Hp, subOp k (.d (.lst (pl.map .int))) (.d (.int i)) = some (.d (.int p)) := fun k => sub_ints rfl h1
  have s3 : subOp h (.d (.ref r)) (.d (.int i)) = some (.d (.int m)) := sub_ints (by simp [seqOf, hr]) h2
  have hm : s.1.length < most := by unfold most; omega
  have same : h.set f (.lst (s.1.map .str)) = h := by
    obtain ⟨hl, he⟩ := List.getElem?_eq_some_iff.mp hfo
    rw [← he]; simp
  have ecmp : ∀ x y : Int, eqVl h (.d (.int x)) (.d (.int y)) = some (x == y) := fun x y => by simp [eqVl, dataOf, nrN, eqD]
  unfold gs
  by_cases c1 : 0 < s.2.1
  · by_cases c2 : m = s.2.1
    · by_cases c3 : s.2.2 < p
      · have aug : ∀ (ρ : Env) (k : Hp) (w : Int), ρ[8]? = some (some (.int w)) → ex G fl (.aug 8 .sub (.cst (.int 1))) ρ k = .nx (ρ.set 8 (some (.int (w - 1)))) k := fun ρ k w e => by
          rw [ex, e]
          simp
        simp [c1, c2, c3, s1, s3, cmpOp, ltV, ecmp, rcv, lstOf, hfo, bltOp, bAppend, hf, hm, keep, keepA, aug]
      · simp [c1, c2, c3, s1, s3, cmpOp, ltV, ecmp, same]
    · simp [c1, c2, s1, s3, cmpOp, ltV, ecmp, same]
  · simp [c1, cmpOp, ltV, same]
end Cd
end
section
set_option linter.all false
set_option maxRecDepth 100000
set_option maxHeartbeats 4000000
namespace Cd
open MP
variable {P : Nat → Option Def} [Ext P]
theorem gs_len (z : List (Txt × Int × Int)) (s : St3) : (z.foldl gs s).1.length ≤ s.1.length + z.length := by
  induction z generalizing s with
  | nil => simp
  | cons q z ih =>
    refine Nat.le_trans (ih (gs s q)) ?_
    have : (gs s q).1.length ≤ s.1.length + 1 := by
      unfold gs
      split <;> simp
    simp
    omega
theorem found_loop {b o bt : List Txt} {pl L : List Int} {r f : Nat} {x5 x6 x10 : Option D} {G : Fns} {fl : Nat} {h : Hp} {w : Int} (hne : r ≠ f) (hr : h[r]? = some (.lst (L.map .int))) (hfo : h[f]? = some (.lst [])) (hf : ¬ f < fl) (e1 : pl.length = bt.length) (e2 : L.length = bt.length) (hz : bt.length < 1000) :
    ∃ y5 y10, forFix (.t [.v 5, .v 10]) (fun ρ h => exs G fl sFound ρ h) (enumD (bt.map .str)) (fE b o bt pl r f x5 x6 x10 w (-1)) h =
      .nx (fE b o bt pl r f y5 x6 y10 ((bt.zip (pl.zip L)).foldl gs ([], w, -1)).2.1 ((bt.zip (pl.zip L)).foldl gs ([], w, -1)).2.2) (h.set f (.lst (((bt.zip (pl.zip L)).foldl gs ([], w, -1)).1.map .str))) := by
  have hlt : f < h.length := (List.getElem?_eq_some_iff.mp hfo).1
  have zl : (bt.zip (pl.zip L)).length = bt.length := by simp [e1, e2]
  have el : (enumD (bt.map .str)).length = bt.length := by simp [enumD]
  obtain ⟨ρ', h', e, ⟨y5, y10, q1⟩, q2⟩ := for_ok (t := .t [.v 5, .v 10]) (body := fun ρ h => exs G fl sFound ρ h)
    (fun done ρ hh => (∃ y5 y10, ρ = fE b o bt pl r f y5 x6 y10 (((bt.zip (pl.zip L)).take done.length).foldl gs ([], w, -1)).2.1 (((bt.zip (pl.zip L)).take done.length).foldl gs ([], w, -1)).2.2) ∧ hh = h.set f (.lst ((((bt.zip (pl.zip L)).take done.length).foldl gs ([], w, -1)).1.map .str)))
    (enumD (bt.map .str)) [] (fE b o bt pl r f x5 x6 x10 w (-1)) h ⟨⟨x5, x10, by simp⟩, by
      obtain ⟨hl, he⟩ := List.getElem?_eq_some_iff.mp hfo
      show h = h.set f _
      simp
      rw [← he]; simp⟩ fun x d' rr ρ hh ee ⟨⟨y5, y10, q1⟩, q2⟩ => by
      have hk : d'.length < bt.length := by
        have := congrArg List.length ee
        simp [enumD] at this
        omega
      have hx : x = .ltp [.int (d'.length : Int), .str bt[d'.length]] := by
        have q : ([] ++ enumD (bt.map .str))[d'.length]? = some x := by rw [ee]; simp
        simp [enumD, hk] at q
        exact q.symm
      subst hx q1
      have hp : d'.length < pl.length := by omega
      have hL : d'.length < L.length := by omega
      have ez : (bt.zip (pl.zip L))[d'.length]? = some (bt[d'.length], pl[d'.length], L[d'.length]) := by
        simp [List.getElem?_zip_eq_some, hk, hp, hL]
      have et : ((bt.zip (pl.zip L)).take (d'.length + 1)).foldl gs ([], w, -1) = gs (((bt.zip (pl.zip L)).take d'.length).foldl gs ([], w, -1)) (bt[d'.length], pl[d'.length], L[d'.length]) := by
        rw [List.take_add_one, ez]
        simp
      have small : (((bt.zip (pl.zip L)).take d'.length).foldl gs ([], w, -1)).1.length < 1000 := by
        have := gs_len ((bt.zip (pl.zip L)).take d'.length) ([], w, -1)
        simp at this
        omega
      have turn := found_turn (b := b) (o := o) (bt := bt) (pl := pl) (L := L) (r := r) (f := f) (i := d'.length) (x6 := x6) (G := G) (fl := fl) (h := hh) (s := ((bt.zip (pl.zip L)).take d'.length).foldl gs ([], w, -1)) (key := bt[d'.length]) (p := pl[d'.length]) (m := L[d'.length])
        (by rw [q2, List.getElem?_set_ne (Ne.symm hne)]; exact hr) (by rw [q2, List.getElem?_set_self hlt]) hf (by simp [hp]) (by simp [hL]) small
      refine ⟨fE b o bt pl r f (some (.int (d'.length : Int))) x6 (some (.str bt[d'.length])) _ _, (by simp [bindT, bindTs, seqOf]), _, _, .inl turn, ⟨some (.int (d'.length : Int)), some (.str bt[d'.length]), ?_⟩, ?_⟩
      · rw [List.length_append, List.length_singleton, et]
      · rw [List.length_append, List.length_singleton, et, q2, List.set_set]
  refine ⟨y5, y10, ?_⟩
  have ef : ([] ++ enumD (bt.map .str)).length = (bt.zip (pl.zip L)).length := by rw [List.nil_append, el, zl]
  rw [ef, List.take_length] at q1 q2
  rw [e, q1, q2]
end Cd
end
section
set_option linter.all false
set_option maxRecDepth 100000
set_option maxHeartbeats 4000000
namespace Cd
open MP
variable {P : Nat → Option Def} [Ext P]
def placesF (b o : List Txt) : List Int := (both b o).map fun x => (o.idxOf x : Int)
def wantF (l : List Int) : Int := match l with
  | [] => 0
  | i :: r => maxI i r
def staysF (b o : List Txt) : List Txt := (((both b o).zip ((placesF b o).zip (lon (placesF b o)))).foldl gs ([], wantF (lon (placesF b o)), -1)).1
theorem intsOf_map (l : List Int) : intsOf (l.map .int) = some l := by
  induction l with
  | nil => rfl
  | cons x l ih => simp [intsOf, ih]
theorem places_len (b o : List Txt) : (placesF b o).length = (both b o).length := by simp [placesF]
theorem both_len (b o : List Txt) : (both b o).length ≤ b.length := List.length_filter_le _ _
theorem ev_both (G : Fns) (fl : Nat) (b o : List Txt) (h : Hp) : ev G fl (.comp [10] (.v 10) (.seq (.var 0)) (some (.cmp .isin (.var 10) (.var 1))) (.var 10)) [some (.lst (b.map .str)), some (.lst (o.map .str)), none, none, none, none, none, none, none, none, none] h = .ok (.nls ((both b o).map .str)) h := by
  rw [ev_comp (l := b.map .str) (h1 := h) (fun d => match d with | .str x => if o.contains x then some (.str x) else none | _ => none) (by simp [srcOf]) (fun d hd => by
    obtain ⟨x, hx, rfl⟩ := List.mem_map.mp hd
    have q := in_strs h x o
    by_cases e : x ∈ o <;> simp [turn, bindT, wipe, cmpOp, q, e, keep])]
  congr 2
  unfold both
  induction b with
  | nil => rfl
  | cons x b ih => cases e : o.contains x <;> simp_all
theorem ev_places (G : Fns) (fl : Nat) (b o : List Txt) (h : Hp) : ev G fl (.comp [10] (.v 10) (.seq (.var 2)) none (.mth .index (.var 1) [(.var 10)])) [some (.lst (b.map .str)), some (.lst (o.map .str)), some (.lst ((both b o).map .str)), none, none, none, none, none, none, none, none] h = .ok (.nls ((placesF b o).map .int)) h := by
  rw [ev_comp (l := (both b o).map .str) (h1 := h) (fun d => match d with | .str x => some (.int (o.idxOf x : Int)) | _ => none) (by simp [srcOf]) (fun d hd => by
    obtain ⟨x, hx, rfl⟩ := List.mem_map.mp hd
    have hm : x ∈ o := by
      have := (List.mem_filter.mp hx).2
      simpa using this
    simp [turn, bindT, wipe, keep, rcv, lstOf, bltOp, bIndex_strs hm])]
  congr 2
  unfold placesF
  induction both b o with
  | nil => rfl
  | cons x l ih => simp_all
theorem p_stays_of (b o : List Txt) (hz : b.length < 1000) (n fl : Nat) (h : Hp) : callA (lev P (n + 1)) true 6 [.lst (b.map .str), .lst (o.map .str)] fl h = .ok (.nls ((staysF b o).map .str)) h := by
  have hb : (both b o).length < 1000 := Nat.lt_of_le_of_lt (both_len b o) hz
  have pll := places_len b o
  obtain ⟨x5, x6, ol⟩ := outer_loop (b := b) (o := o) (bt := both b o) (pl := placesF b o) (r := h.length) (G := lev P n) (fl := h.length) (h := h ++ [.lst ((List.replicate (placesF b o).length (1 : Int)).map .int)]) (Nat.lt_irrefl _) pll.symm (by omega) (by simp)
  obtain ⟨y5, y10, fl2⟩ := found_loop (b := b) (o := o) (bt := both b o) (pl := placesF b o) (L := lon (placesF b o)) (r := h.length) (f := h.length + 1) (x5 := x5) (x6 := x6) (x10 := none) (G := lev P n) (fl := h.length) (h := h ++ [.lst ((lon (placesF b o)).map .int), .lst []]) (w := wantF (lon (placesF b o))) (by omega) (by simp) (by simp) (by omega) pll (by rw [lon_len, pll]) hb
  refine callM_of (d := c_stays_of) (v := .d (.ref (h.length + 1))) (h' := h ++ [.lst ((lon (placesF b o)).map .int), .lst ((staysF b o).map .str)]) rfl (run_rt (ρ := [some (.lst (b.map .str)), some (.lst (o.map .str)), none, none, none, none, none, none, none, none, none]) rfl rfl ?_) (by simp [outV, nrN])
  refine exs_to (ρ1 := [some (.lst (b.map .str)), some (.lst (o.map .str)), some (.lst ((both b o).map .str)), none, none, none, none, none, none, none, none]) (h1 := h) (by simp [ev_both, keepA, keep]) ?_
  refine exs_to (ρ1 := [some (.lst (b.map .str)), some (.lst (o.map .str)), some (.lst ((both b o).map .str)), some (.lst ((placesF b o).map .int)), none, none, none, none, none, none, none]) (h1 := h) (by simp [ev_places, keepA, keep]) ?_
  refine exs_to (ρ1 := sE b o (both b o) (placesF b o) h.length none none) (h1 := h ++ [.lst ((List.replicate (placesF b o).length (1 : Int)).map .int)]) ?_ ?_
  · have h1 : ((both b o).length : Int) ≤ 16777216 := by omega
    have h2 : (both b o).length ≤ most := by unfold most; omega
    simp [bltOp, bLen, seqOf, binOp, mulV, lstOf, h1, h2, keepA, alloc, keep, pll]
  refine exs_to ((ex_for (l := ((List.range (placesF b o).length).map fun (i : Nat) => D.int i).reverse) (h1 := h ++ [.lst ((List.replicate (placesF b o).length (1 : Int)).map .int)]) ?_).trans ol) ?_
  · have h1 : ((both b o).length : Int) ≤ 16777216 := by omega
    have h2 : (-16777216 : Int) ≤ ((both b o).length : Int) := by omega
    simp [bltOp, bLen, seqOf, bListRange, h1, h2, lstOf, srcOf, pll]
  refine exs_to (ρ1 := [some (.lst (b.map .str)), some (.lst (o.map .str)), some (.lst ((both b o).map .str)), some (.lst ((placesF b o).map .int)), some (.ref h.length), x5, x6, some (.ref (h.length + 1)), none, none, none]) (h1 := h ++ [.lst ((lon (placesF b o)).map .int), .lst []]) (by simp [keepA, alloc, keep]) ?_
  refine exs_to (ρ1 := [some (.lst (b.map .str)), some (.lst (o.map .str)), some (.lst ((both b o).map .str)), some (.lst ((placesF b o).map .int)), some (.ref h.length), x5, x6, some (.ref (h.length + 1)), some (.int (wantF (lon (placesF b o)))), none, none]) (h1 := h ++ [.lst ((lon (placesF b o)).map .int), .lst []]) ?_ ?_
  · simp [bltOp, bMaxD, lstOf, intsOf_map, keepA, keep]
    cases lon (placesF b o) <;> simp [wantF, keep]
  refine exs_to (ρ1 := fE b o (both b o) (placesF b o) h.length (h.length + 1) x5 x6 none (wantF (lon (placesF b o))) (-1)) (h1 := h ++ [.lst ((lon (placesF b o)).map .int), .lst []]) (by simp [keepA, keep]) ?_
  refine exs_to ((ex_for (l := enumD ((both b o).map .str)) (h1 := h ++ [.lst ((lon (placesF b o)).map .int), .lst []]) (by rw [evI]; simp [seqOf])).trans fl2) ?_
  simp [staysF]
end Cd
end
section
set_option linter.all false
set_option maxRecDepth 100000
set_option maxHeartbeats 4000000
namespace Cd
open MP
variable {P : Nat → Option Def} [Ext P]
theorem p_stays {l r : List (Txt × Int)} (gl : Good l) (gr : Good r) (n fl : Nat) (h : Hp) : callA (lev P (n + 4)) true 7 [.tup (l.map tD), .tup (r.map tD)] fl h = .ok (.nls ((staysF (ks l) (ks r)).map .str)) h := by
  have hz : (ks l).length < 1000 := by rw [ks_len]; have := gl.len; omega
  refine callM_of (d := c_stays) (v := .nls ((staysF (ks l) (ks r)).map .str)) (h' := h) rfl (run_rt (ρ := [some (.tup (l.map tD)), some (.tup (r.map tD))]) rfl rfl ?_) (by simp [outV, nrN])
  simp [c_stays, p_look gl, p_look gr, p_keys_of, p_stays_of _ _ hz, keep]
def filt (c : Txt → Bool) (f : Txt → D) : D → Option D
  | .str x => if c x then some (f x) else none
  | _ => none
theorem filt_map (c : Txt → Bool) (f : Txt → D) (o : List Txt) : (o.map D.str).filterMap (filt c f) = (o.filter c).map f := by
  induction o with
  | nil => rfl
  | cons x o ih =>
    by_cases e : c x = true
    · simp [filt, e, ih, List.filter_cons_of_pos]
    · simp [filt, e, ih]
def movedF (b o : List Txt) : List Txt := o.filter fun x => b.contains x && !(staysF b o).contains x
theorem p_moved_of (b o : List Txt) (hz : b.length < 1000) (n fl : Nat) (h : Hp) : callA (lev P (n + 2)) true 8 [.lst (b.map .str), .lst (o.map .str)] fl h = .ok (.nls ((movedF b o).map .str)) h := by
  have hc := ev_comp (G := lev P (n + 1)) (fl := h.length) (ρ := [some (.lst (b.map .str)), some (.lst (o.map .str)), some (.lst ((staysF b o).map .str)), none]) (own := [3]) (tg := .v 3) (it := .seq (.var 1)) (cond := some (.and (.cmp .isin (.var 3) (.var 0)) (.cmp .notin (.var 3) (.var 2)))) (elt := .var 3) (l := o.map .str) (h1 := h) (h := h)
    (filt (fun x => b.contains x && !(staysF b o).contains x) .str) (by simp [srcOf]) (fun d hd => by
      obtain ⟨x, hx, rfl⟩ := List.mem_map.mp hd
      have q1 := in_strs h x b
      have q2 := in_strs h x (staysF b o)
      by_cases e1 : x ∈ b <;> by_cases e2 : x ∈ staysF b o <;> simp [turn, bindT, wipe, cmpOp, q1, q2, e1, e2, keep, filt])
  rw [filt_map] at hc
  refine callM_of (d := c_moved_of) (v := .nls ((movedF b o).map .str)) (h' := h) rfl (run_rt (ρ := [some (.lst (b.map .str)), some (.lst (o.map .str)), none, none]) rfl rfl ?_) (by simp [outV, nrN])
  simp [c_moved_of, p_stays_of _ _ hz, keep, keepA, hc, movedF]
end Cd
end
section
set_option linter.all false
set_option maxRecDepth 100000
set_option maxHeartbeats 4000000
namespace Cd
open MP
variable {P : Nat → Option Def} [Ext P]
/-- a list's things, as a dict has them -/
def dK (l : List (Txt × Int)) : List (Ky × D) := l.map fun p => (.s p.1, .int p.2)
theorem pairs_things (l : List (Txt × Int)) : pairsOf (l.map tD) = some (dK l) := by
  induction l with
  | nil => rfl
  | cons p l ih =>
    show pairsOf (.tup [.str p.1, .int p.2] :: l.map tD) = _
    simp [pairsOf, kyOf, ih, dK]
theorem any_dK (x : Txt) (l : List (Txt × Int)) : ((dK l).any fun p => decide (p.1 = Ky.s x)) = (ks l).contains x := by
  unfold dK ks
  induction l with
  | nil => rfl
  | cons p l ih =>
    simp only [List.map_cons, List.any_cons, List.contains_cons, ih]
    congr 1
    by_cases h : p.1 = x
    · subst h; simp
    · have : ¬ x = p.1 := fun e => h e.symm
      simp [h, this]
theorem merge_things : ∀ (l acc : List (Txt × Int)), (ks (acc ++ l)).Nodup → mergeK (dK acc) (dK l) = dK (acc ++ l)
  | [], acc, _ => by simp [dK, mergeK]
  | p :: l, acc, h => by
    have hn : ¬ (ks acc).contains p.1 = true := by
      intro q
      have q' : p.1 ∈ ks acc := by simpa using q
      have : ks (acc ++ p :: l) = ks acc ++ p.1 :: ks l := by simp [ks]
      rw [this] at h
      exact (List.nodup_append.mp h).2.2 p.1 q' p.1 (by simp) rfl
    show mergeK (putK (.s p.1) (.int p.2) (dK acc)) (dK l) = _
    have e : putK (Ky.s p.1) (.int p.2) (dK acc) = dK (acc ++ [p]) := by
      unfold putK
      rw [any_dK, if_neg hn]
      simp [dK]
    rw [e, merge_things l (acc ++ [p]) (by simpa using h)]
    simp
theorem merge0 {l : List (Txt × Int)} (h : (ks l).Nodup) : mergeK [] (dK l) = dK l := merge_things l [] (by simpa using h)
theorem look_dK (x : Txt) : ∀ l : List (Txt × Int), lookK (Ky.s x) (dK l) = (l.lookup x).map .int
  | [] => rfl
  | (k, v) :: l => by
    have ih := look_dK x l
    unfold dK at ih ⊢
    simp only [List.map_cons, lookK, List.lookup_cons]
    by_cases h : k = x
    · subst h; simp
    · have : (x == k) = false := beq_eq_false_iff_ne.mpr (Ne.symm h)
      simp [h, this, ih]
theorem in_dK {h : Hp} {n : Nat} {l : List (Txt × Int)} (e : h[n]? = some (.dic (dK l))) (x : Txt) : inOp h (.d (.str x)) (.d (.ref n)) = some ((ks l).contains x) := by
  simp only [inOp, seqOf, e, dicOf, kyOf, Option.map_some, any_dK]
theorem sub_dK {h : Hp} {n : Nat} {l : List (Txt × Int)} (e : h[n]? = some (.dic (dK l))) {x : Txt} {v : Int} (hv : l.lookup x = some v) : subOp h (.d (.ref n)) (.d (.str x)) = some (.d (.int v)) := by
  simp only [subOp, seqOf, e, dicOf, kyOf, look_dK, hv, Option.map_some]
def aheadD (row : List Txt) (i : Nat) : D := match i with
  | 0 => .non
  | j + 1 => .str (row.getD j [])
def putT : Txt := [112, 117, 116]
def moveT : Txt := [109, 111, 118, 101]
def strikeT : Txt := [115, 116, 114, 105, 107, 101]
def changeT : Txt := [99, 104, 97, 110, 103, 101]
/-- what deeds_of tells of the thing p at place i of r -/
def midF (l r : List (Txt × Int)) (moved : List Txt) (i : Nat) (p : Txt × Int) : List D :=
  if (ks l).contains p.1 then (if moved.contains p.1 then [.tup [.str moveT, .str p.1, aheadD (ks r) i]] else []) else [.tup [.str putT, .str p.1, .int p.2, aheadD (ks r) i]]
def midAll (l r : List (Txt × Int)) (moved : List Txt) : Nat → List (Txt × Int) → List D
  | _, [] => []
  | i, p :: t => midF l r moved i p ++ midAll l r moved (i + 1) t
def strikesF (l r : List (Txt × Int)) : List D := ((ks l).filter fun x => !(ks r).contains x).map fun x => D.tup [.str strikeT, .str x]
def chB (l : List (Txt × Int)) (p : Txt × Int) : Bool := match l.lookup p.1 with | some v => v != p.2 | none => false
def changesF (l r : List (Txt × Int)) : List D := (r.filter (chB l)).map fun p => D.tup [.str changeT, .str p.1, .int p.2]
def deedsF (l r : List (Txt × Int)) : List D := strikesF l r ++ midAll l r (movedF (ks l) (ks r)) 0 r ++ changesF l r
end Cd
end
section
set_option linter.all false
set_option maxRecDepth 100000
set_option maxHeartbeats 4000000
namespace Cd
open MP
variable {P : Nat → Option Def} [Ext P]
abbrev dE (l r : List (Txt × Int)) (mv : List Txt) (d f : Nat) (x7 x8 x9 : Option D) : Env :=
  [some (.tup (l.map tD)), some (.tup (r.map tD)), some (.lst ((ks l).map .str)), some (.lst ((ks r).map .str)), some (.lst (mv.map .str)), some (.ref d), some (.ref f), x7, x8, x9]
abbrev sMid : List Stm := [(.ifs (.cmp .notin (.var 8) (.var 5)) [(.exp (.mth .append (.var 6) [(.tup [(.cst (.str [112, 117, 116])), (.var 8), (.var 9), (.call true 9 [(.var 3), (.var 7)])])]))] [(.ifs (.cmp .isin (.var 8) (.var 4)) [(.exp (.mth .append (.var 6) [(.tup [(.cst (.str [109, 111, 118, 101])), (.var 8), (.call true 9 [(.var 3), (.var 7)])])]))] [])])]
theorem mid_turn {l r : List (Txt × Int)} {mv : List Txt} {d f i n fl : Nat} {h : Hp} {p : Txt × Int} {acc : List D} (hd : h[d]? = some (.dic (dK l))) (hfo : h[f]? = some (.lst acc)) (hf : ¬ f < fl) (hi : i ≤ (ks r).length) (hz : acc.length < 1000) :
    exs (lev P (n + 1)) fl sMid (dE l r mv d f (some (.int i)) (some (.str p.1)) (some (.int p.2))) h = .nx (dE l r mv d f (some (.int i)) (some (.str p.1)) (some (.int p.2))) (h.set f (.lst (acc ++ midF l r mv i p))) := by
  have hm : acc.length < most := by unfold most; omega
  have q1 := in_dK hd p.1
  have q2 := in_strs h p.1 mv
  have same : h.set f (.lst acc) = h := by
    obtain ⟨hl, he⟩ := List.getElem?_eq_some_iff.mp hfo
    rw [← he]; simp
  have ah : callA (lev P (n + 1)) true 9 [.lst ((ks r).map .str), .int i] fl h = .ok (.d (aheadD (ks r) i)) h := by
    rw [p_ahead (ks r) i hi n fl h]
    cases i <;> rfl
  unfold midF
  by_cases c1 : p.1 ∈ ks l
  · by_cases c2 : p.1 ∈ mv
    · simp [cmpOp, q1, q2, c1, c2, rcv, lstOf, hfo, keep, ah, bltOp, bAppend, hf, hm, moveT]
    · simp [cmpOp, q1, q2, c1, c2, same]
  · simp [cmpOp, q1, q2, c1, rcv, lstOf, hfo, keep, ah, bltOp, bAppend, hf, hm, putT]
end Cd
end
section
set_option linter.all false
set_option maxRecDepth 100000
set_option maxHeartbeats 4000000
namespace Cd
open MP
variable {P : Nat → Option Def} [Ext P]
theorem midF_len (l r : List (Txt × Int)) (mv : List Txt) (i : Nat) (p : Txt × Int) : (midF l r mv i p).length ≤ 1 := by
  unfold midF
  split
  · split <;> simp
  · simp
theorem midAll_len (l r : List (Txt × Int)) (mv : List Txt) : ∀ (t : List (Txt × Int)) (i : Nat), (midAll l r mv i t).length ≤ t.length
  | [], _ => by simp [midAll]
  | p :: t, i => by
    have := midAll_len l r mv t (i + 1)
    have := midF_len l r mv i p
    simp [midAll]; omega
theorem midAll_snoc (l r : List (Txt × Int)) (mv : List Txt) (p : Txt × Int) : ∀ (t : List (Txt × Int)) (i : Nat), midAll l r mv i (t ++ [p]) = midAll l r mv i t ++ midF l r mv (i + t.length) p
  | [], i => by simp [midAll]
  | q :: t, i => by
    simp only [List.cons_append, midAll, midAll_snoc l r mv p t (i + 1), List.append_assoc, List.length_cons]
    rw [show i + 1 + t.length = i + (t.length + 1) by omega]
theorem mid_loop {l r : List (Txt × Int)} {mv : List Txt} {d f n fl : Nat} {h : Hp} {acc : List D} (hne : d ≠ f) (hd : h[d]? = some (.dic (dK l))) (hfo : h[f]? = some (.lst acc)) (hf : ¬ f < fl) (hz : acc.length + r.length < 1000) (x7 x8 x9 : Option D) :
    ∃ y7 y8 y9, forFix (.t [.v 7, .t [.v 8, .v 9]]) (fun ρ h => exs (lev P (n + 1)) fl sMid ρ h) (enumD (r.map tD)) (dE l r mv d f x7 x8 x9) h = .nx (dE l r mv d f y7 y8 y9) (h.set f (.lst (acc ++ midAll l r mv 0 r))) := by
  have hlt : f < h.length := (List.getElem?_eq_some_iff.mp hfo).1
  have el : (enumD (r.map tD)).length = r.length := by simp [enumD]
  obtain ⟨ρ', h', e, ⟨y7, y8, y9, q1⟩, q2⟩ := for_ok (t := .t [.v 7, .t [.v 8, .v 9]]) (body := fun ρ h => exs (lev P (n + 1)) fl sMid ρ h)
    (fun done ρ hh => (∃ y7 y8 y9, ρ = dE l r mv d f y7 y8 y9) ∧ hh = h.set f (.lst (acc ++ midAll l r mv 0 (r.take done.length))))
    (enumD (r.map tD)) [] (dE l r mv d f x7 x8 x9) h ⟨⟨x7, x8, x9, rfl⟩, by
      obtain ⟨hl, he⟩ := List.getElem?_eq_some_iff.mp hfo
      show h = h.set f _
      simp [midAll]
      rw [← he]; simp⟩ fun x d' rr ρ hh ee ⟨⟨y7, y8, y9, q1⟩, q2⟩ => by
      have hk : d'.length < r.length := by
        have := congrArg List.length ee
        simp [enumD] at this
        omega
      have hx : x = .ltp [.int (d'.length : Int), tD r[d'.length]] := by
        have q : ([] ++ enumD (r.map tD))[d'.length]? = some x := by rw [ee]; simp
        simp [enumD, hk] at q
        exact q.symm
      subst hx q1
      have small : (acc ++ midAll l r mv 0 (r.take d'.length)).length < 1000 := by
        have := midAll_len l r mv (r.take d'.length) 0
        simp at this ⊢
        omega
      have turn := mid_turn (P := P) (l := l) (r := r) (mv := mv) (d := d) (f := f) (i := d'.length) (n := n) (fl := fl) (h := hh) (p := r[d'.length]) (acc := acc ++ midAll l r mv 0 (r.take d'.length)) (by rw [q2, List.getElem?_set_ne (Ne.symm hne)]; exact hd) (by rw [q2, List.getElem?_set_self hlt]) hf (by rw [ks_len]; omega) small
      refine ⟨dE l r mv d f (some (.int (d'.length : Int))) (some (.str r[d'.length].1)) (some (.int r[d'.length].2)), (by simp [bindT, bindTs, seqOf, tD]), _, _, .inl turn, ⟨_, _, _, rfl⟩, ?_⟩
      rw [List.length_append, List.length_singleton, List.take_add_one, List.getElem?_eq_getElem hk, q2, List.set_set]
      simp only [Option.toList_some, midAll_snoc, List.append_assoc]
      simp [Nat.min_eq_left (Nat.le_of_lt hk)]
  refine ⟨y7, y8, y9, ?_⟩
  rw [List.nil_append, el, List.take_length] at q2
  rw [e, q1, q2]
end Cd
end
section
set_option linter.all false
set_option maxRecDepth 100000
set_option maxHeartbeats 4000000
namespace Cd
open MP
variable {P : Nat → Option Def} [Ext P]
theorem midF_nr (l r : List (Txt × Int)) (mv : List Txt) (i : Nat) (p : Txt × Int) : ∀ d ∈ midF l r mv i p, nrN 63 d = true := by
  intro d hd
  have ha : nrN 62 (aheadD (ks r) i) = true := by cases i <;> rfl
  unfold midF at hd
  split at hd
  · split at hd
    · simp at hd; subst hd; simp [nrN, nrL, ha]
    · cases hd
  · simp at hd; subst hd; simp [nrN, nrL, ha]
theorem midAll_nr (l r : List (Txt × Int)) (mv : List Txt) : ∀ (t : List (Txt × Int)) (i : Nat), ∀ d ∈ midAll l r mv i t, nrN 63 d = true
  | [], _, d, h => by cases h
  | p :: t, i, d, h => by
    rcases List.mem_append.mp h with h | h
    · exact midF_nr l r mv i p d h
    · exact midAll_nr l r mv t (i + 1) d h
theorem deeds_nr (l r : List (Txt × Int)) : nrL 63 (deedsF l r) = true := nrL_all fun d hd => by
  unfold deedsF at hd
  rcases List.mem_append.mp hd with hd | hd
  · rcases List.mem_append.mp hd with hd | hd
    · obtain ⟨x, _, rfl⟩ := List.mem_map.mp hd
      rfl
    · exact midAll_nr _ _ _ _ _ d hd
  · obtain ⟨x, _, rfl⟩ := List.mem_map.mp hd
    rfl
theorem ev_strikes (G : Fns) (fl : Nat) (l r : List (Txt × Int)) (mv : List Txt) (dn : Nat) (h : Hp) : ev G fl (.comp [8] (.v 8) (.seq (.var 2)) (some (.cmp .notin (.var 8) (.var 3))) (.tup [(.cst (.str [115, 116, 114, 105, 107, 101])), (.var 8)])) [some (.tup (l.map tD)), some (.tup (r.map tD)), some (.lst ((ks l).map .str)), some (.lst ((ks r).map .str)), some (.lst (mv.map .str)), some (.ref dn), none, none, none, none] h =
    .ok (.nls (strikesF l r)) h := by
  rw [ev_comp (l := (ks l).map .str) (h1 := h) (filt (fun x => !(ks r).contains x) fun x => D.tup [.str strikeT, .str x]) (by simp [srcOf]) (fun d hd => by
    obtain ⟨x, hx, rfl⟩ := List.mem_map.mp hd
    have q := in_strs h x (ks r)
    by_cases e : x ∈ ks r <;> simp [turn, bindT, wipe, cmpOp, q, e, keep, filt, strikeT]), filt_map]
  rfl
end Cd
end
section
set_option linter.all false
set_option maxRecDepth 100000
set_option maxHeartbeats 4000000
namespace Cd
open MP
variable {P : Nat → Option Def} [Ext P]
def filtT (c : Txt × Int → Bool) (f : Txt × Int → D) : D → Option D
  | .tup [.str x, .int v] => if c (x, v) then some (f (x, v)) else none
  | _ => none
theorem filtT_map (c : Txt × Int → Bool) (f : Txt × Int → D) (o : List (Txt × Int)) : (o.map tD).filterMap (filtT c f) = (o.filter c).map f := by
  induction o with
  | nil => rfl
  | cons x o ih =>
    by_cases e : c x = true
    · simp [filtT, tD, e, ih, List.filter_cons_of_pos]
    · simp [filtT, tD, e, ih]
theorem lookup_in : ∀ (l : List (Txt × Int)) (x : Txt), x ∈ ks l → ∃ v, l.lookup x = some v
  | (k, v) :: l, x, h => by
    by_cases e : x = k
    · subst e; exact ⟨v, by simp⟩
    · have : x ∈ ks l := by
        rcases List.mem_cons.mp (show x ∈ k :: ks l from h) with q | q
        · exact absurd q e
        · exact q
      obtain ⟨w, hw⟩ := lookup_in l x this
      exact ⟨w, by rw [List.lookup_cons, beq_eq_false_iff_ne.mpr e]; exact hw⟩
theorem lookup_out : ∀ (l : List (Txt × Int)) (x : Txt), x ∉ ks l → l.lookup x = none
  | [], _, _ => rfl
  | (k, v) :: l, x, h => by
    have h' : x ≠ k ∧ x ∉ ks l := by
      have : x ∉ k :: ks l := h
      simpa using this
    rw [List.lookup_cons, beq_eq_false_iff_ne.mpr h'.1]
    exact lookup_out l x h'.2
theorem ev_changes (G : Fns) (fl : Nat) (l r : List (Txt × Int)) (mv : List Txt) (dn f : Nat) (y7 y8 y9 : Option D) (h : Hp) (hd : h[dn]? = some (.dic (dK l))) : ev G fl (.comp [8, 9] (.t [(.v 8), (.v 9)]) (.seq (.var 1)) (some (.and (.cmp .isin (.var 8) (.var 5)) (.cmp .ne (.sub (.var 5) (.var 8)) (.var 9)))) (.tup [(.cst (.str [99, 104, 97, 110, 103, 101])), (.var 8), (.var 9)])) (dE l r mv dn f y7 y8 y9) h =
    .ok (.nls (changesF l r)) h := by
  rw [ev_comp (l := r.map tD) (h1 := h) (filtT (chB l) fun p => D.tup [.str changeT, .str p.1, .int p.2]) (by simp [srcOf]) (fun d hx => by
    obtain ⟨⟨k, v⟩, hp, rfl⟩ := List.mem_map.mp hx
    have q := in_dK hd k
    by_cases e : k ∈ ks l
    · obtain ⟨w, hw⟩ := lookup_in l k e
      have s := sub_dK hd hw
      have ec : ∀ a b : Int, eqVl h (.d (.int a)) (.d (.int b)) = some (a == b) := fun a b => by simp [eqVl, dataOf, nrN, eqD]
      by_cases c : w = v <;> simp [turn, tD, bindT, bindTs, seqOf, wipe, cmpOp, q, e, s, ec, c, keep, filtT, chB, hw, changeT]
    · have hw := lookup_out l k e
      simp [turn, tD, bindT, bindTs, seqOf, wipe, cmpOp, q, e, keep, filtT, chB, hw]), filtT_map]
  rfl
end Cd
end
section
set_option linter.all false
set_option maxRecDepth 100000
set_option maxHeartbeats 4000000
namespace Cd
open MP
variable {P : Nat → Option Def} [Ext P]
theorem p_deeds_of {l r : List (Txt × Int)} (gl : Good l) (gr : Good r) (n fl : Nat) (h : Hp) : callA (lev P (n + 3)) true 10 [.tup (l.map tD), .tup (r.map tD)] fl h = .ok (.nls (deedsF l r)) h := by
  have hz : (ks l).length < 1000 := by rw [ks_len]; have := gl.len; omega
  have l16 := gl.len
  have r16 := gr.len
  have hs : (strikesF l r).length ≤ 16 := by
    unfold strikesF
    rw [List.length_map]
    exact Nat.le_trans (List.length_filter_le _ _) (by rw [ks_len]; exact l16)
  obtain ⟨y7, y8, y9, ml⟩ := mid_loop (P := P) (l := l) (r := r) (mv := movedF (ks l) (ks r)) (d := h.length) (f := h.length + 1) (n := n + 1) (fl := h.length) (h := h ++ [.dic (dK l), .lst (strikesF l r)]) (acc := strikesF l r) (by omega) (by simp) (by simp) (by omega) (by omega) none none none
  have ch := fun h' hh => ev_changes (lev P (n + 2)) h.length l r (movedF (ks l) (ks r)) h.length (h.length + 1) y7 y8 y9 h' hh
  have mlen := midAll_len l r (movedF (ks l) (ks r)) r 0
  have clen : (changesF l r).length ≤ r.length := by unfold changesF; rw [List.length_map]; exact List.length_filter_le _ _
  have mz : (strikesF l r).length + (midAll l r (movedF (ks l) (ks r)) 0 r).length + (changesF l r).length ≤ most := by unfold most; omega
  refine callM_of (d := c_deeds_of) (v := .d (.ref (h.length + 1))) (h' := h ++ [.dic (dK l), .lst (deedsF l r)]) rfl (run_rt (ρ := [some (.tup (l.map tD)), some (.tup (r.map tD)), none, none, none, none, none, none, none, none]) rfl rfl ?_) (by simp [outV, nrN, deeds_nr])
  refine exs_to (ρ1 := [some (.tup (l.map tD)), some (.tup (r.map tD)), some (.lst ((ks l).map .str)), none, none, none, none, none, none, none]) (h1 := h) (by simp [p_keys_of, keepA, keep]) ?_
  refine exs_to (ρ1 := [some (.tup (l.map tD)), some (.tup (r.map tD)), some (.lst ((ks l).map .str)), some (.lst ((ks r).map .str)), none, none, none, none, none, none]) (h1 := h) (by simp [p_keys_of, keepA, keep]) ?_
  refine exs_to (ρ1 := [some (.tup (l.map tD)), some (.tup (r.map tD)), some (.lst ((ks l).map .str)), some (.lst ((ks r).map .str)), some (.lst ((movedF (ks l) (ks r)).map .str)), none, none, none, none, none]) (h1 := h) (by simp [p_moved_of _ _ hz, keepA, keep]) ?_
  refine exs_to (ρ1 := [some (.tup (l.map tD)), some (.tup (r.map tD)), some (.lst ((ks l).map .str)), some (.lst ((ks r).map .str)), some (.lst ((movedF (ks l) (ks r)).map .str)), some (.ref h.length), none, none, none, none]) (h1 := h ++ [.dic (dK l)]) (by simp [bltOp, bDict, dcOf, pairs_things, merge0 gl.nd, keepA, keep]) ?_
  refine exs_to (ρ1 := dE l r (movedF (ks l) (ks r)) h.length (h.length + 1) none none none) (h1 := h ++ [.dic (dK l), .lst (strikesF l r)]) (by rw [ex_asgV, ev_strikes]; simp [keepA, alloc]) ?_
  refine exs_to ((ex_for (l := enumD (r.map tD)) (h1 := h ++ [.dic (dK l), .lst (strikesF l r)]) (by rw [evI]; simp [seqOf])).trans ml) ?_
  refine exs_to (ρ1 := dE l r (movedF (ks l) (ks r)) h.length (h.length + 1) y7 y8 y9) (h1 := h ++ [.dic (dK l), .lst (deedsF l r)]) ?_ (by simp)
  have c2 := ch (h ++ [.dic (dK l), .lst (strikesF l r ++ midAll l r (movedF (ks l) (ks r)) 0 r)]) (by simp)
  have nlt : ¬ h.length + 1 < h.length := by omega
  simp [rcv, lstOf, c2, bltOp, bExtend, mz, deedsF, nlt]
end Cd
end
section
set_option linter.all false
set_option maxRecDepth 100000
set_option maxHeartbeats 4000000
namespace Cd
open MP
variable {P : Nat → Option Def} [Ext P]
theorem p_deeds {l r : List (Txt × Int)} (gl : Good l) (gr : Good r) (n fl : Nat) (h : Hp) : callA (lev P (n + 4)) true 11 [.tup (l.map tD), .tup (r.map tD)] fl h = .ok (.nls (deedsF l r)) h := by
  refine callM_of (d := c_deeds) (v := .nls (deedsF l r)) (h' := h) rfl (run_rt (ρ := [some (.tup (l.map tD)), some (.tup (r.map tD))]) rfl rfl ?_) (by simp [outV, nrN, deeds_nr])
  simp [c_deeds, p_look gl, p_look gr, p_deeds_of gl gr, keep]
/-! ### the law's own small defs -/
def cellF (ns : List Int) (k : Nat) : Int := ns.getD k 0
theorem p_cell (ns : List Int) (k : Nat) (n fl : Nat) (h : Hp) : callA (lev P (n + 1)) true 12 [.ctp (ns.map .int), .int k] fl h = .ok (.d (.int (cellF ns k))) h := by
  refine callM_of (d := c_law_cell) (v := .d (.int (cellF ns k))) (h' := h) rfl (run_rt (ρ := [some (.ctp (ns.map .int)), some (.int k)]) rfl rfl ?_) rfl
  by_cases hk : k < ns.length
  · have s : subOp h (.d (.ctp (ns.map .int))) (.d (.int k)) = some (.d (.int (cellF ns k))) := sub_ints rfl (by simp [cellF, hk])
    simp [c_law_cell, bltOp, bLen, seqOf, cmpOp, ltV, hk, s]
  · have : cellF ns k = 0 := by unfold cellF; rw [List.getD_eq_getElem?_getD, List.getElem?_eq_none (by omega)]; rfl
    simp [c_law_cell, bltOp, bLen, seqOf, cmpOp, ltV, hk, this]
def seedF (s k : Int) : Int := ((s * 1103515245 + 7919 * k + 12345) % 2147483647) ^ 5 % 2147483647
def pickF (s m : Int) : Int := s / 97 % m
theorem p_pick (s m : Int) (hm : 0 < m) (n fl : Nat) (h : Hp) : callA (lev P (n + 1)) true 14 [.int s, .int m] fl h = .ok (.d (.int (pickF s m))) h := by
  refine callM_of (d := c_law_pick) (v := .d (.int (pickF s m))) (h' := h) rfl (run_rt (ρ := [some (.int s), some (.int m)]) rfl rfl ?_) rfl
  simp [c_law_pick, binOp, fdvV, modV, hm, pickF]
end Cd
end
section
set_option linter.all false
set_option maxRecDepth 100000
set_option maxHeartbeats 4000000
namespace Cd
open MP
variable {P : Nat → Option Def} [Ext P]
theorem p_seed (s k : Int) (n fl : Nat) (h : Hp) : callA (lev P (n + 1)) true 13 [.int s, .int k] fl h = .ok (.d (.int (seedF s k))) h := by
  refine callM_of (d := c_law_seed) (v := .d (.int (seedF s k))) (h' := h) rfl (run_rt (ρ := [some (.int s), some (.int k)]) rfl rfl ?_) rfl
  have hp : ∀ x : Int, powV (.d (.int (x % 2147483647))) (.d (.int 5)) = some (.d (.int ((x % 2147483647) ^ 5))) := fun x => by
    have h1 := Int.emod_nonneg x (by decide : (2147483647 : Int) ≠ 0)
    have h2 := Int.emod_lt_of_pos x (by decide : (0 : Int) < 2147483647)
    have h3 : (x % 2147483647).natAbs < 18446744073709551616 := by omega
    simp [powV, h3]
  have m1 : mulV h (.d (.int s)) (.d (.int 1103515245)) = some (.d (.int (s * 1103515245))) := by simp [mulV]
  have m2 : mulV h (.d (.int 7919)) (.d (.int k)) = some (.d (.int (7919 * k))) := by simp [mulV]
  simp [c_law_seed, binOp, m1, m2, addV, modV, hp, seedF]
theorem seed_lt (s k : Int) : 0 ≤ seedF s k ∧ seedF s k < 2147483647 := ⟨Int.emod_nonneg _ (by decide), Int.emod_lt_of_pos _ (by decide)⟩
end Cd
end
section
set_option linter.all false
set_option maxRecDepth 100000
set_option maxHeartbeats 4000000
namespace Cd
open MP
variable {P : Nat → Option Def} [Ext P]
abbrev few : List Txt := [[97], [98], [99], [100], [101], [102], [103], [104], [97, 98], [122, 122, 122], [105], [106], [107], [108], [109], [110], [111], [112], [113], [114]]
theorem few_good : ∀ t ∈ few, goodKey t := by
  intro t ht
  have : (few.all fun t => decide (1 ≤ t.length) && decide (t.length ≤ 3) && t.all fun c => decide (97 ≤ c) && decide (c ≤ 122)) = true := by decide
  have q := List.all_eq_true.mp this t ht
  simp only [Bool.and_eq_true, decide_eq_true_eq, List.all_eq_true] at q
  exact ⟨q.1.1, q.1.2, q.2⟩
theorem mod_nat (a m : Int) (hm : 0 < m) : ∃ k : Nat, a % m = (k : Int) ∧ (k : Int) < m := by
  have h1 := Int.emod_nonneg a (Int.ne_of_gt hm)
  have h2 := Int.emod_lt_of_pos a hm
  exact ⟨(a % m).toNat, by omega, by omega⟩
theorem three {k : Nat} (h : (k : Int) < 3) : k = 0 ∨ k = 1 ∨ k = 2 := by omega
end Cd
end
section
set_option linter.all false
set_option maxRecDepth 100000
set_option maxHeartbeats 4000000
namespace Cd
open MP
variable {P : Nat → Option Def} [Ext P]
abbrev abc : Txt := [97, 98, 99, 100, 101, 102, 103, 104, 105, 106, 107, 108, 109, 110, 111, 112, 113, 114, 115, 116, 117, 118, 119, 120, 121, 122]
theorem abc_at (k : Nat) (hk : k < 26) : abc.getD k 0 = 97 + k := by
  have : ∀ j : Fin 26, abc.getD j.val 0 = 97 + j.val := by decide
  exact this ⟨k, hk⟩
theorem join_ones : ∀ l : List Nat, joinT [] (l.map fun c => [c]) = l
  | [] => rfl
  | [x] => rfl
  | x :: y :: r => by
    have := join_ones (y :: r)
    simp only [List.map_cons, joinT, List.append_nil] at this ⊢
    rw [this]; rfl
def chrF (s : Int) (i : Nat) : Nat := 97 + (pickF (seedF s i) 26).toNat
def fewN (s : Int) : Int := if s / 7 % 3 = 0 then 6 else if s / 7 % 3 = 1 then 12 else 20
def keyF (s : Int) : Txt := if 0 < s / 5 % 9 then few.getD (pickF s (fewN s)).toNat [] else (List.range (1 + (s / 11 % 3).toNat)).map (chrF s)
theorem fewN_lt (s : Int) : 0 < fewN s ∧ fewN s ≤ 20 := by unfold fewN; split <;> (try split) <;> decide
theorem key_good (s : Int) : goodKey (keyF s) := by
  unfold keyF
  split
  · have h1 := fewN_lt s
    have h2 := mod_lo (s / 97) h1.1
    have h3 := mod_hi (s / 97) h1.1
    have h4 : (pickF s (fewN s)).toNat < few.length := by
      show _ < 20
      unfold pickF
      omega
    rw [List.getD_eq_getElem?_getD, List.getElem?_eq_getElem h4]
    exact few_good _ (List.getElem_mem _)
  · have h2 := mod_lo (s / 11) (by decide : (0 : Int) < 3)
    have h3 := mod_hi (s / 11) (by decide : (0 : Int) < 3)
    refine ⟨by simp, by simp; omega, fun c hc => ?_⟩
    obtain ⟨i, _, rfl⟩ := List.mem_map.mp hc
    have h5 := mod_hi (seedF s i / 97) (by decide : (0 : Int) < 26)
    have h6 := mod_lo (seedF s i / 97) (by decide : (0 : Int) < 26)
    unfold chrF pickF
    omega
theorem p_key (s : Int) (n fl : Nat) (h : Hp) : callA (lev P (n + 2)) true 15 [.int s] fl h = .ok (.d (.str (keyF s))) h := by
  refine callM_of (d := c_law_key) (v := .d (.str (keyF s))) (h' := h) rfl (run_rt (ρ := [some (.int s), none, none, none]) rfl rfl ?_) rfl
  refine exs_to (ρ1 := [some (.int s), some (.str abc), none, none]) (h1 := h) (by simp [keepA, keep]) ?_
  obtain ⟨fd, hfd⟩ : ∃ fd, fd = few.map D.str := ⟨_, rfl⟩
  refine exs_to (ρ1 := [some (.int s), some (.str abc), some (.lst fd), none]) (h1 := h) (by rw [hfd]; simp [keepA, keep]) ?_
  have h1 := fewN_lt s
  have h2 : 0 ≤ pickF s (fewN s) := mod_lo (s / 97) h1.1
  have h3 : pickF s (fewN s) < fewN s := mod_hi (s / 97) h1.1
  by_cases c : 0 < s / 5 % 9
  · have hs : subOp h (.nls [.int 6, .int 12, .int 20]) (.d (.int (s / 7 % 3))) = some (.d (.int (fewN s))) := by
      rw [sub_three]
      unfold fewN
      split <;> (try split) <;> rfl
    have pk := p_pick (P := P) s (fewN s) h1.1 n h.length h
    have sf : subOp h (.d (.lst fd)) (.d (.int (pickF s (fewN s)))) = some (.d (.str (few.getD (pickF s (fewN s)).toNat []))) := sub_strs (by rw [hfd]; rfl) h2 (by show _ < (20 : Int); omega)
    have e : keyF s = few.getD (pickF s (fewN s)).toNat [] := by unfold keyF; rw [if_pos c]
    rw [← e] at sf
    simp [binOp, fdvV, modV, cmpOp, ltV, c, hs, keep, pk, sf]
  · have h2 := mod_lo (s / 11) (by decide : (0 : Int) < 3)
    have h3 := mod_hi (s / 11) (by decide : (0 : Int) < 3)
    have hc := ev_compM (G := lev P (n + 1)) (fl := h.length) (ρ := [some (.int s), some (.str abc), some (.lst fd), none]) (own := [3]) (tg := .v 3) (it := .rng1 (.bin .add (.cst (.int 1)) (.bin .mod (.bin .fdv (.var 0) (.cst (.int 11))) (.cst (.int 3))))) (cond := none) (elt := .sub (.var 1) (.call true 14 [(.call true 13 [(.var 0), (.var 3)]), (.cst (.int 26))])) (h1 := h) (h := h)
      (fun i : Nat => .int (0 + (i : Int))) (fun i => .str [chrF s i]) (List.range (1 + (s / 11 % 3).toNat))
      (evI_rng1 (i := 1 + s / 11 % 3) (by simp [binOp, fdvV, modV, addV]) (by omega))
      (by show rngD 0 _ = _; unfold rngD; rw [show (1 + s / 11 % 3).toNat = 1 + (s / 11 % 3).toNat by omega])
      (fun i hd => by
        have e1 := p_seed (P := P) s (i : Int) n h.length h
        have e2 := p_pick (P := P) (seedF s (i : Int)) 26 (by decide) n h.length h
        have h5 : 0 ≤ pickF (seedF s i) 26 := mod_lo (seedF s i / 97) (by decide : (0 : Int) < 26)
        have h6 : pickF (seedF s i) 26 < 26 := mod_hi (seedF s i / 97) (by decide : (0 : Int) < 26)
        have sa : subOp h (.d (.str abc)) (.d (.int (pickF (seedF s i) 26))) = some (.d (.str [chrF s i])) := by
          rw [sub_chr (t := abc) (by decide) h5 h6, abc_at _ (by omega)]; rfl
        simp [turn, bindT, wipe, keep, e1, e2, sa])
    have e : keyF s = (List.range (1 + (s / 11 % 3).toNat)).map (chrF s) := by unfold keyF; rw [if_neg c]
    have j : strsOf ((List.range (1 + (s / 11 % 3).toNat)).map fun i => D.str [chrF s i]) = some ((keyF s).map fun c => [c]) := by
      rw [e, List.map_map, ← strsOf_map, List.map_map]; rfl
    have z : ((((keyF s).map fun c => [c]).map List.length).sum + ((keyF s).map fun c => [c]).length * ([] : Txt).length ≤ most) := by
      have : (keyF s).length ≤ 3 := (key_good s).2.1
      have e1 : ∀ l : List Nat, ((l.map fun c => [c]).map List.length).sum = l.length := fun l => by
        induction l with
        | nil => rfl
        | cons x l ih => simp_all; omega
      rw [e1]; simp [most]; omega
    have bj : bJoin h [.d (.str []), .nls ((List.range (1 + (s / 11 % 3).toNat)).map fun i => D.str [chrF s i])] = some ((.d (.str (keyF s))), h) := by
      simp only [bJoin, seqOf, Option.bind_some, j, if_pos z, join_ones]
    simp [binOp, fdvV, modV, cmpOp, ltV, c, hc, rcv, bltOp, bj]
end Cd
end
section
set_option linter.all false
set_option maxRecDepth 100000
set_option maxHeartbeats 4000000
namespace Cd
open MP
variable {P : Nat → Option Def} [Ext P]
abbrev Things := List (Txt × Int)
def valF (o m : Int) : Int := if o / 17 % 2 = 0 then o / 13 % 1000 else o / 13 % m
theorem val_ok (o m : Int) (h : 0 < m) (h2 : m ≤ 1000) : 0 ≤ valF o m ∧ valF o m ≤ 999 := by
  have a := mod_lo (o / 13) h
  have b := mod_hi (o / 13) h
  have c := mod_lo (o / 13) (by decide : (0 : Int) < 1000)
  have d := mod_hi (o / 13) (by decide : (0 : Int) < 1000)
  unfold valF
  split <;> omega
def listStep (s : Int) (l : Things) (k : Nat) : Things := if (ks l).contains (keyF (seedF s k)) then l else l ++ [(keyF (seedF s k), valF (seedF s k) 3)]
def listN (s m : Int) : Int := if pickF s 3 / 2 = 0 then s / 7 % (m + 1) else m
def listF (s m : Int) : Things := (List.range (listN s m).toNat).foldl (listStep s) []
/-- all but how many -/
structure GoodN (n : Nat) (l : Things) : Prop where
  len : l.length ≤ n
  key : ∀ p ∈ l, goodKey p.1
  val : ∀ p ∈ l, 0 ≤ p.2 ∧ p.2 ≤ 999
  nd : (ks l).Nodup
theorem GoodN.good {n : Nat} {l : Things} (g : GoodN n l) (h : n ≤ 16) : Good l := ⟨Nat.le_trans g.len h, g.key, g.val, g.nd⟩
theorem Good.goodN {l : Things} (g : Good l) : GoodN 16 l := ⟨g.len, g.key, g.val, g.nd⟩
theorem GoodN.nil (n : Nat) : GoodN n [] := ⟨Nat.zero_le _, (fun _ h => nomatch h), (fun _ h => nomatch h), List.nodup_nil⟩
theorem GoodN.snoc {n : Nat} {l : Things} (g : GoodN n l) {p : Txt × Int} (h1 : goodKey p.1) (h2 : 0 ≤ p.2 ∧ p.2 ≤ 999) (h3 : p.1 ∉ ks l) : GoodN (n + 1) (l ++ [p]) := by
  refine ⟨by simp; exact g.len, fun q hq => ?_, fun q hq => ?_, ?_⟩
  · rcases List.mem_append.mp hq with q1 | q1
    · exact g.key _ q1
    · cases List.mem_singleton.mp q1; exact h1
  · rcases List.mem_append.mp hq with q1 | q1
    · exact g.val _ q1
    · cases List.mem_singleton.mp q1; exact h2
  · have : ks (l ++ [p]) = ks l ++ [p.1] := by simp [ks]
    rw [this, List.nodup_append]
    refine ⟨g.nd, by simp, fun a ha b hb e => ?_⟩
    cases List.mem_singleton.mp hb
    exact h3 (e ▸ ha)
theorem GoodN.mono {n m : Nat} {l : Things} (g : GoodN n l) (h : n ≤ m) : GoodN m l := ⟨Nat.le_trans g.len h, g.key, g.val, g.nd⟩
theorem listStep_good {n : Nat} (s : Int) (l : Things) (k : Nat) (g : GoodN n l) : GoodN (n + 1) (listStep s l k) := by
  unfold listStep
  split
  · exact g.mono (Nat.le_succ n)
  · rename_i h
    exact g.snoc (key_good _) (val_ok _ 3 (by decide) (by decide)) (by simpa using h)
theorem fold_good (s : Int) : ∀ (r : List Nat) (n : Nat) (l : Things), GoodN n l → GoodN (n + r.length) (r.foldl (listStep s) l)
  | [], n, l, g => g
  | k :: r, n, l, g => by
    have := fold_good s r (n + 1) _ (listStep_good s l k g)
    rw [List.foldl_cons, List.length_cons]
    exact this.mono (by omega)
theorem listN_le (s m : Int) (h : 0 ≤ m) : 0 ≤ listN s m ∧ listN s m ≤ m := by
  have a := mod_lo (s / 7) (show (0 : Int) < m + 1 by omega)
  have b := mod_hi (s / 7) (show (0 : Int) < m + 1 by omega)
  unfold listN
  split <;> omega
theorem list_goodN (s : Int) (m : Nat) : GoodN m (listF s m) := by
  have := fold_good s (List.range (listN s m).toNat) 0 [] (GoodN.nil 0)
  refine this.mono ?_
  have := listN_le s m (by omega)
  simp; omega
/-- the first items of a row's things -/
theorem ev_firsts {G : Fns} {fl : Nat} {ρ : Env} {h : Hp} {i r : Nat} {j : Nat} (l : Things) (hv : ρ[i]? = some (some (.ref r))) (hr : h[r]? = some (.lst (l.map tD))) (hj : j < ρ.length) : ev G fl (.comp [j] (.v j) (.seq (.var i)) none (.sub (.var j) (.cst (.int 0)))) ρ h = .ok (.nls ((ks l).map .str)) h := by
  rw [ev_compM (h1 := h) (s := .live r (l.map tD).length) tD (fun p => .str p.1) l (by simp [hv, srcOf, hr]) ⟨hr, rfl⟩ (fun p hp => by
    simp [turn, bindT, wipe, hj, tD, subOp, seqOf, atIx, keep])]
  simp [ks]
abbrev lE (s m : Int) (r : Nat) (x3 x4 x5 : Option D) : Env := [some (.int s), some (.int m), some (.ref r), x3, x4, x5, none]
abbrev sList : List Stm := [(.asg false (.v 4) (.call true 13 [(.var 0), (.var 3)])), (.asg false (.v 5) (.call true 15 [(.var 4)])), (.ifs (.cmp .notin (.var 5) (.comp [6] (.v 6) (.seq (.var 2)) none (.sub (.var 6) (.cst (.int 0))))) [(.exp (.mth .append (.var 2) [(.tup [(.var 5), (.sub (.lst [(.bin .mod (.bin .fdv (.var 4) (.cst (.int 13))) (.cst (.int 1000))), (.bin .mod (.bin .fdv (.var 4) (.cst (.int 13))) (.cst (.int 3)))]) (.bin .mod (.bin .fdv (.var 4) (.cst (.int 17))) (.cst (.int 2))))])]))] [])]
theorem list_turn {s m : Int} {r k n fl : Nat} {h : Hp} {l : Things} {x4 x5 : Option D} (hr : h[r]? = some (.lst (l.map tD))) (hf : ¬ r < fl) (hz : l.length < 1000) :
    exs (lev P (n + 2)) fl sList (lE s m r (some (.int k)) x4 x5) h = .nx (lE s m r (some (.int k)) (some (.int (seedF s k))) (some (.str (keyF (seedF s k))))) (h.set r (.lst ((listStep s l k).map tD))) := by
  have hm : l.length < most := by unfold most; omega
  have e1 := fun ρ : Env => fun hv hj => ev_firsts (G := lev P (n + 2)) (fl := fl) (ρ := ρ) (i := 2) (j := 6) l hv hr hj
  have s2 : subOp h (.nls [.int (seedF s k / 13 % 1000), .int (seedF s k / 13 % 3)]) (.d (.int (seedF s k / 17 % 2))) = some (.d (.int (valF (seedF s k) 3))) := by
    rw [sub_two]; unfold valF; split <;> rfl
  refine exs_to (ρ1 := lE s m r (some (.int k)) (some (.int (seedF s k))) x5) (h1 := h) (by simp [p_seed, keepA, keep]) ?_
  refine exs_to (ρ1 := lE s m r (some (.int k)) (some (.int (seedF s k))) (some (.str (keyF (seedF s k))))) (h1 := h) (by simp [p_key, keepA, keep]) ?_
  have e2 := e1 (lE s m r (some (.int k)) (some (.int (seedF s k))) (some (.str (keyF (seedF s k))))) rfl (by simp)
  have same : h.set r (.lst (l.map tD)) = h := by
    obtain ⟨hl, he⟩ := List.getElem?_eq_some_iff.mp hr
    rw [← he]; simp
  unfold listStep
  by_cases c : keyF (seedF s k) ∈ ks l
  · simp [e2, cmpOp, in_strsN, c, same]
  · simp [e2, cmpOp, in_strsN, c, rcv, lstOf, hr, binOp, fdvV, modV, keep, s2, bltOp, bAppend, hf, hm, tD]
theorem p_list (s : Int) (m : Nat) (hm : m ≤ 900) (n fl : Nat) (h : Hp) : callA (lev P (n + 3)) true 16 [.int s, .int m] fl h = .ok (.d (.tup ((listF s m).map tD))) h := by
  have hN := listN_le s m (by omega)
  obtain ⟨ρ', h', e, ⟨x3, x4, x5, e1⟩, e2⟩ := for_fold (t := .v 3) (body := fun ρ hh => exs (lev P (n + 2)) h.length sList ρ hh) (fun k : Nat => .int (0 + (k : Int))) (listStep s)
    (fun l ρ hh => (∃ x3 x4 x5, ρ = lE s m h.length x3 x4 x5) ∧ hh = h ++ [.lst (l.map tD)]) (List.range (listN s m).toNat) [] (lE s m h.length none none none) (h ++ [.lst []]) ⟨⟨_, _, _, rfl⟩, rfl⟩ fun d k r ρ hh q ⟨⟨x3, x4, x5, e1⟩, e2⟩ => by
      subst e1 e2
      have hd : d.length ≤ 900 := by
        have := congrArg List.length q
        simp at this; omega
      have hl := (fold_good s d 0 [] (GoodN.nil 0)).len
      refine ⟨lE s m h.length (some (.int k)) x4 x5, by simp [bindT], _, _, .inl (list_turn (P := P) (l := d.foldl (listStep s) []) (by simp) (by omega) (by omega)), ⟨_, _, _, rfl⟩, by simp⟩
  subst e1 e2
  refine callM_of (d := c_law_list) (v := .d (.tup ((listF s m).map tD))) (h' := h ++ [.lst ((listF s m).map tD)]) rfl (run_rt (ρ := [some (.int s), some (.int m), none, none, none, none, none]) rfl rfl ?_) (by simp [outV, nrN])
  refine exs_to (ρ1 := lE s m h.length none none none) (h1 := h ++ [.lst []]) (by simp [keepA, alloc]) ?_
  have s2 : subOp (h ++ [.lst []]) (.nls [.int (s / 7 % (m + 1)), .int m]) (.d (.int (pickF s 3 / 2))) = some (.d (.int (listN s m))) := by
    have a : 0 ≤ pickF s 3 := mod_lo (s / 97) (by decide : (0 : Int) < 3)
    have b : pickF s 3 < 3 := mod_hi (s / 97) (by decide : (0 : Int) < 3)
    have : pickF s 3 / 2 = 0 ∨ pickF s 3 / 2 = 1 := by omega
    unfold listN
    rcases this with e | e <;> rw [e] <;> rfl
  have m0 : (0 : Int) < m + 1 := by omega
  refine exs_to ((ex_for (evI_rng1 (i := listN s m) (by simp [binOp, fdvV, modV, addV, keep, p_pick, m0, s2]) (by omega))).trans e) ?_
  simp [bltOp, bTuple, lstOf, listF]
end Cd
end
section
set_option linter.all false
set_option maxRecDepth 100000
set_option maxHeartbeats 4000000
/-! operators at values whose shape is known, as rewriting rules -/
namespace MP
section
variable {h : Hp} {fl : Nat}
@[simp] theorem binOp_add (x y : Vl) : binOp h .add x y = addV h x y := rfl
@[simp] theorem binOp_sub (x y : Vl) : binOp h .sub x y = subV x y := rfl
@[simp] theorem binOp_mul (x y : Vl) : binOp h .mul x y = mulV h x y := rfl
@[simp] theorem binOp_fdv (x y : Vl) : binOp h .fdv x y = fdvV x y := rfl
@[simp] theorem binOp_mod (x y : Vl) : binOp h .mod x y = modV x y := rfl
@[simp] theorem binOp_pow (x y : Vl) : binOp h .pow x y = powV x y := rfl
@[simp] theorem addV_int (i j : Int) : addV h (.d (.int i)) (.d (.int j)) = some (.d (.int (i + j))) := rfl
@[simp] theorem subV_int (i j : Int) : subV (.d (.int i)) (.d (.int j)) = some (.d (.int (i - j))) := rfl
@[simp] theorem fdvV_int (i j : Int) (h0 : 0 < j) (h1 : j < 1073741824) : fdvV (.d (.int i)) (.d (.int j)) = some (.d (.int (i / j))) := by simp [fdvV, h0, h1]
@[simp] theorem modV_int (i j : Int) (h0 : 0 < j) : modV (.d (.int i)) (.d (.int j)) = some (.d (.int (i % j))) := by simp [modV, h0]
@[simp] theorem modV_len (i : Int) (l : List α) (h0 : l ≠ []) : modV (.d (.int i)) (.d (.int (l.length : Int))) = some (.d (.int (i % (l.length : Int)))) := by
  have := List.length_pos_iff.mpr h0
  exact modV_int i _ (by omega)
@[simp] theorem modV_len1 (i : Int) (n : Nat) : modV (.d (.int i)) (.d (.int ((n : Int) + 1))) = some (.d (.int (i % ((n : Int) + 1)))) := modV_int i _ (by omega)
@[simp] theorem cmpOp_lt (a b : Vl) : cmpOp h .lt a b = ltV a b := rfl
@[simp] theorem cmpOp_le (a b : Vl) : cmpOp h .le a b = leV a b := rfl
@[simp] theorem cmpOp_gt (a b : Vl) : cmpOp h .gt a b = ltV b a := rfl
@[simp] theorem cmpOp_ge (a b : Vl) : cmpOp h .ge a b = leV b a := rfl
@[simp] theorem cmpOp_eq (a b : Vl) : cmpOp h .eq a b = eqVl h a b := rfl
@[simp] theorem cmpOp_ne (a b : Vl) : cmpOp h .ne a b = (eqVl h a b).map (!·) := rfl
@[simp] theorem cmpOp_isin (a b : Vl) : cmpOp h .isin a b = inOp h a b := rfl
@[simp] theorem cmpOp_notin (a b : Vl) : cmpOp h .notin a b = (inOp h a b).map (!·) := rfl
@[simp] theorem ltV_int (i j : Int) : ltV (.d (.int i)) (.d (.int j)) = some (decide (i < j)) := rfl
@[simp] theorem ltV_str (i j : Txt) : ltV (.d (.str i)) (.d (.str j)) = some (ltT i j) := rfl
@[simp] theorem leV_int (i j : Int) : leV (.d (.int i)) (.d (.int j)) = some (decide (i ≤ j)) := rfl
@[simp] theorem eqVl_int (i j : Int) : eqVl h (.d (.int i)) (.d (.int j)) = some (decide (i = j)) := by
  simp [eqVl, dataOf, nrN, eqD]
  by_cases e : i = j <;> simp [e]
@[simp] theorem eqVl_str (i j : Txt) : eqVl h (.d (.str i)) (.d (.str j)) = some (decide (i = j)) := by
  simp [eqVl, dataOf, nrN, eqD]
  by_cases e : i = j <;> simp [e]
@[simp] theorem seqOf_tup (l : List D) : seqOf h (.d (.tup l)) = some l := rfl
@[simp] theorem seqOf_ctp (l : List D) : seqOf h (.d (.ctp l)) = some l := rfl
@[simp] theorem seqOf_ltp (l : List D) : seqOf h (.d (.ltp l)) = some l := rfl
@[simp] theorem seqOf_lst (l : List D) : seqOf h (.d (.lst l)) = some l := rfl
@[simp] theorem seqOf_nls (l : List D) : seqOf h (.nls l) = some l := rfl
@[simp] theorem seqOf_ref {n : Nat} {l : List D} (e : h[n]? = some (.lst l)) : seqOf h (.d (.ref n)) = some l := by simp [seqOf, e]
@[simp] theorem lstOf_lst (l : List D) : lstOf h (.d (.lst l)) = some l := rfl
@[simp] theorem lstOf_nls (l : List D) : lstOf h (.nls l) = some l := rfl
@[simp] theorem lstOf_ref {n : Nat} {l : List D} (e : h[n]? = some (.lst l)) : lstOf h (.d (.ref n)) = some l := by simp [lstOf, e]
@[simp] theorem dicOf_ref {n : Nat} {l : List (Ky × D)} (e : h[n]? = some (.dic l)) : dicOf h (.d (.ref n)) = some l := by simp [dicOf, e]
@[simp] theorem srcOf_tup (l : List D) : srcOf h (.d (.tup l)) = some (.fix l) := rfl
@[simp] theorem srcOf_ltp (l : List D) : srcOf h (.d (.ltp l)) = some (.fix l) := rfl
@[simp] theorem srcOf_lst (l : List D) : srcOf h (.d (.lst l)) = some (.fix l) := rfl
@[simp] theorem srcOf_nls (l : List D) : srcOf h (.nls l) = some (.fix l) := rfl
@[simp] theorem srcOf_ref {n : Nat} {l : List D} (e : h[n]? = some (.lst l)) : srcOf h (.d (.ref n)) = some (.live n l.length) := by simp [srcOf, e]
@[simp] theorem keep_d (x : D) : keep h (.d x) = (x, h) := rfl
@[simp] theorem keep_nls (l : List D) : keep h (.nls l) = (.lst l, h) := rfl
@[simp] theorem keep_ndc (l : List (Ky × D)) : keep h (.ndc l) = (.ref h.length, h ++ [.dic l]) := rfl
@[simp] theorem keepA_f (v : Vl) : keepA false h v = keep h v := rfl
@[simp] theorem keepA_d (b : Bool) (x : D) : keepA b h (.d x) = (x, h) := by cases b <;> rfl
@[simp] theorem keepA_t (l : List D) : keepA true h (.nls l) = (.ref h.length, h ++ [.lst l]) := rfl
@[simp] theorem keepA_ndc (b : Bool) (l : List (Ky × D)) : keepA b h (.ndc l) = (.ref h.length, h ++ [.dic l]) := by cases b <;> rfl
@[simp] theorem truth_bl (b : Bool) : truth h (.d (.bl b)) = some b := rfl
@[simp] theorem truth_nls (l : List D) : truth h (.nls l) = some (!l.isEmpty) := rfl
@[simp] theorem truth_lst (l : List D) : truth h (.d (.lst l)) = some (!l.isEmpty) := rfl
@[simp] theorem truth_tup (l : List D) : truth h (.d (.tup l)) = some (!l.isEmpty) := rfl
@[simp] theorem truth_ltp (l : List D) : truth h (.d (.ltp l)) = some (!l.isEmpty) := rfl
@[simp] theorem truth_non : truth h (.d .non) = some false := rfl
@[simp] theorem truth_ref {n : Nat} {l : List D} (e : h[n]? = some (.lst l)) : truth h (.d (.ref n)) = some (!l.isEmpty) := by simp [truth, e]
@[simp] theorem bltOp_len (l : List Vl) : bltOp fl h .len l = bLen h l := rfl
@[simp] theorem bltOp_isi (t : Ty) (l : List Vl) : bltOp fl h (.isi t) l = bIsi t h l := rfl
@[simp] theorem bltOp_max2 (l : List Vl) : bltOp fl h .max2 l = bMax2 h l := rfl
@[simp] theorem bltOp_min2 (l : List Vl) : bltOp fl h .min2 l = bMin2 h l := rfl
@[simp] theorem bltOp_maxD (l : List Vl) : bltOp fl h .maxD l = bMaxD h l := rfl
@[simp] theorem bltOp_maxL (l : List Vl) : bltOp fl h .maxL l = bMaxL h l := rfl
@[simp] theorem bltOp_tuple (l : List Vl) : bltOp fl h .tuple l = bTuple h l := rfl
@[simp] theorem bltOp_list (l : List Vl) : bltOp fl h .list l = bList h l := rfl
@[simp] theorem bltOp_listRange (l : List Vl) : bltOp fl h .listRange l = bListRange h l := rfl
@[simp] theorem bltOp_dict (l : List Vl) : bltOp fl h .dict l = bDict h l := rfl
@[simp] theorem bltOp_setLen (l : List Vl) : bltOp fl h .setLen l = bSetLen h l := rfl
@[simp] theorem bltOp_append (l : List Vl) : bltOp fl h .append l = bAppend fl h l := rfl
@[simp] theorem bltOp_insert (l : List Vl) : bltOp fl h .insert l = bInsert fl h l := rfl
@[simp] theorem bltOp_popAt (l : List Vl) : bltOp fl h .popAt l = bPopAt fl h l := rfl
@[simp] theorem bltOp_extend (l : List Vl) : bltOp fl h .extend l = bExtend fl h l := rfl
@[simp] theorem bltOp_index (l : List Vl) : bltOp fl h .index l = bIndex fl h l := rfl
@[simp] theorem bltOp_get (l : List Vl) : bltOp fl h .get l = bGet h l := rfl
@[simp] theorem bltOp_join (l : List Vl) : bltOp fl h .join l = bJoin h l := rfl
@[simp] theorem bltOp_tab (k : List (Txt × Int)) (l : List Vl) : bltOp fl h (.tab k) l = bTab k h l := rfl
@[simp] theorem rcv_append (x : Vl) : rcv h .append x = (lstOf h x).isSome := rfl
@[simp] theorem rcv_extend (x : Vl) : rcv h .extend x = (lstOf h x).isSome := rfl
@[simp] theorem rcv_insert (x : Vl) : rcv h .insert x = (lstOf h x).isSome := rfl
@[simp] theorem rcv_popAt (x : Vl) : rcv h .popAt x = (lstOf h x).isSome := rfl
@[simp] theorem rcv_index (x : Vl) : rcv h .index x = (lstOf h x).isSome := rfl
@[simp] theorem rcv_get (x : Vl) : rcv h .get x = (dicOf h x).isSome := rfl
@[simp] theorem rcv_join (s : Txt) : rcv h .join (.d (.str s)) = true := rfl
@[simp] theorem bLen_str (s : Txt) (hz : s.length ≤ most) : bLen h [.d (.str s)] = some (.d (.int s.length), h) := by simp [bLen, hz]
@[simp] theorem bLen_nls (l : List D) : bLen h [.nls l] = some (.d (.int l.length), h) := rfl
@[simp] theorem bLen_lst (l : List D) : bLen h [.d (.lst l)] = some (.d (.int l.length), h) := rfl
@[simp] theorem bLen_tup (l : List D) : bLen h [.d (.tup l)] = some (.d (.int l.length), h) := rfl
@[simp] theorem bLen_ltp (l : List D) : bLen h [.d (.ltp l)] = some (.d (.int l.length), h) := rfl
@[simp] theorem bLen_ctp (l : List D) : bLen h [.d (.ctp l)] = some (.d (.int l.length), h) := rfl
@[simp] theorem bLen_ref {n : Nat} {l : List D} (e : h[n]? = some (.lst l)) : bLen h [.d (.ref n)] = some (.d (.int l.length), h) := by simp [bLen, seqOf, e]
@[simp] theorem bTuple_ref {n : Nat} {l : List D} (e : h[n]? = some (.lst l)) : bTuple h [.d (.ref n)] = some (.d (.tup l), h) := by simp [bTuple, lstOf, e]
@[simp] theorem bTuple_tup (l : List D) : bTuple h [.d (.tup l)] = some (.d (.tup l), h) := rfl
@[simp] theorem bTuple_nls (l : List D) : bTuple h [.nls l] = some (.d (.tup l), h) := rfl
@[simp] theorem bTuple_lst (l : List D) : bTuple h [.d (.lst l)] = some (.d (.tup l), h) := rfl
@[simp] theorem bAppend_d {n : Nat} {l : List D} {x : D} (e : h[n]? = some (.lst l)) (hf : ¬ n < fl) (hz : l.length < most) : bAppend fl h [.d (.ref n), .d x] = some (.d .non, h.set n (.lst (l ++ [x]))) := by simp [bAppend, hf, e, hz, keep]
@[simp] theorem bAppend_n {n : Nat} {l r : List D} (e : h[n]? = some (.lst l)) (hf : ¬ n < fl) (hz : l.length < most) : bAppend fl h [.d (.ref n), .nls r] = some (.d .non, h.set n (.lst (l ++ [.lst r]))) := by simp [bAppend, hf, e, hz, keep]
@[simp] theorem bMax2_int (i j : Int) : bMax2 h [.d (.int i), .d (.int j)] = some (.d (.int (if i < j then j else i)), h) := rfl
@[simp] theorem bIsi_d (t : Ty) (v : Vl) {b : Bool} (e : isiV h t v = some b) : bIsi t h [v] = some (.d (.bl b), h) := by simp [bIsi, e]
end
end MP
namespace MP
theorem RS.seq_id (r : RS) : (r.seq fun ρ h => .nx ρ h) = r := by cases r <;> rfl
theorem exs_if {G : Fns} {fl : Nat} {c : Ex} {a b : List Stm} {ρ : Env} {h h1 : Hp} {k : Bool} (hc : evT G fl c ρ h = .ok k h1) : exs G fl [.ifs c a b] ρ h = exs G fl (if k then a else b) ρ h1 := by
  rw [exs_cons, ex_ifs, hc]
  simp only [R.st_ok, exs_nil, RS.seq_id]
  cases k <;> rfl
end MP
namespace MP
section
variable {h : Hp}
@[simp] theorem sub_tup0 (a : D) (l : List D) : subOp h (.d (.tup (a :: l))) (.d (.int 0)) = some (.d a) := by simp [subOp, atIx]
@[simp] theorem sub_tup1 (a b : D) (l : List D) : subOp h (.d (.tup (a :: b :: l))) (.d (.int 1)) = some (.d b) := by simp [subOp, atIx]
@[simp] theorem sub_tup2 (a b c : D) (l : List D) : subOp h (.d (.tup (a :: b :: c :: l))) (.d (.int 2)) = some (.d c) := by simp [subOp, atIx]
@[simp] theorem sub_tup3 (a b c d : D) (l : List D) : subOp h (.d (.tup (a :: b :: c :: d :: l))) (.d (.int 3)) = some (.d d) := by simp [subOp, atIx]
end
end MP
end
section
set_option linter.all false
set_option maxRecDepth 100000
set_option maxHeartbeats 4000000
namespace MP
theorem eqL_nil (l : List D) : eqL l [] = l.isEmpty := by cases l <;> simp [eqL]
theorem ne_nil {h : Hp} {r : Nat} {l : List (Txt × Int)} (hr : h[r]? = some (.lst (l.map tD))) : eqVl h (.d (.ref r)) (.nls []) = some (l.isEmpty) := by
  simp [eqVl, dataOf, hr, nrN, eqD, eqL_nil, nrL]
theorem map_eraseIdx {α β : Type} (f : α → β) (l : List α) (i : Nat) : (l.map f).eraseIdx i = (l.eraseIdx i).map f := by
  rw [List.eraseIdx_eq_take_drop_succ, List.eraseIdx_eq_take_drop_succ, List.map_append, List.map_take, List.map_drop]
theorem popAt_things {fl : Nat} {h : Hp} {r : Nat} {l : List (Txt × Int)} {i : Int} (hr : h[r]? = some (.lst (l.map tD))) (hf : ¬ r < fl) (hz : l.length ≤ 1000) (h0 : 0 ≤ i) (hi : i < l.length) : bPopAt fl h [.d (.ref r), .d (.int i)] = some (.d (tD (l.getD i.toNat ([], 0))), h.set r (.lst ((l.eraseIdx i.toNat).map tD))) := by
  have hm : l.length ≤ most := by unfold most; omega
  have hi2 : i.toNat < l.length := by omega
  simp only [bPopAt, if_neg hf, hr, List.length_map, if_pos hm, atIx_int h0 hi, List.getElem?_map]
  rw [List.getElem?_eq_getElem hi2]
  simp [hi2, map_eraseIdx]
theorem insert_things {fl : Nat} {h : Hp} {r : Nat} {l : List (Txt × Int)} {i : Int} {p : Txt × Int} (hr : h[r]? = some (.lst (l.map tD))) (hf : ¬ r < fl) (hz : l.length ≤ 1000) (h0 : 0 ≤ i) (hi : i ≤ l.length) : bInsert fl h [.d (.ref r), .d (.int i), .d (tD p)] = some (.d .non, h.set r (.lst ((insertAt l i.toNat p).map tD))) := by
  have hm : l.length < most := by unfold most; omega
  simp [bInsert, hf, hr, hm, h0, hi, keep, insertAt, List.map_take, List.map_drop]
theorem sub_things {h : Hp} {a : Vl} {l : List (Txt × Int)} {i : Int} (hs : seqOf h a = some (l.map tD)) (h0 : 0 ≤ i) (hi : i < l.length) : subOp h a (.d (.int i)) = some (.d (tD (l.getD i.toNat ([], 0)))) := by
  have : i.toNat < l.length := by omega
  exact sub_at hs h0 (by simp [this])
end MP
namespace Cd
open MP
variable {P : Nat → Option Def} [Ext P]
def oSeed (s : Int) (k : Nat) : Int := seedF s (30 + (k : Int))
def oAt (s : Int) (l : Things) (k : Nat) : Int := oSeed s k / 11 % ((l.length : Int) + 1)
def oIx (s : Int) (l : Things) (k : Nat) : Int := oAt s l k % (l.length : Int)
def oKey (s : Int) (k : Nat) : Txt := keyF (seedF (oSeed s k) 1)
def otherStep (s : Int) (l : Things) (k : Nat) : Things :=
  if pickF (oSeed s k) 7 < 2 ∧ l ≠ [] then insertAt (l.eraseIdx (oIx s l k).toNat) (oSeed s k / 13 % (((l.eraseIdx (oIx s l k).toNat).length : Int) + 1)).toNat (l.getD (oIx s l k).toNat ([], 0))
  else if pickF (oSeed s k) 7 = 2 ∧ l ≠ [] then l.eraseIdx (oIx s l k).toNat
  else if pickF (oSeed s k) 7 < 5 ∧ l ≠ [] then l.set (oIx s l k).toNat ((l.getD (oIx s l k).toNat ([], 0)).1, valF (oSeed s k) 4)
  else if l.length < 16 then (if (ks l).contains (oKey s k) then l else insertAt l (oAt s l k).toNat (oKey s k, oSeed s k / 13 % 5)) else l
def otherF (l : Things) (s m : Int) : Things := (List.range (s / 7 % (m + 1)).toNat).foldl (otherStep s) l
theorem ks_insert (l : Things) (i : Nat) (p : Txt × Int) : ks (insertAt l i p) = insertAt (ks l) i p.1 := by simp [ks, insertAt, List.map_take, List.map_drop]
theorem mem_insertAt {α : Type} {l : List α} {i : Nat} {p q : α} : q ∈ insertAt l i p ↔ q = p ∨ q ∈ l := by
  unfold insertAt
  rw [List.mem_append, List.mem_cons]
  have : q ∈ l ↔ q ∈ l.take i ∨ q ∈ l.drop i := by rw [← List.mem_append, List.take_append_drop]
  rw [this]
  constructor
  · rintro (h | h | h) <;> simp [h]
  · rintro (h | h | h) <;> simp [h]
theorem perm_insertAt {α : Type} (l : List α) (i : Nat) (p : α) : (insertAt l i p).Perm (p :: l) := by
  unfold insertAt
  have := (List.perm_middle (a := p) (l₁ := l.take i) (l₂ := l.drop i))
  rwa [List.take_append_drop] at this
theorem perm_erase {α : Type} (l : List α) (i : Nat) (h : i < l.length) : l.Perm (l[i] :: l.eraseIdx i) := by
  rw [List.eraseIdx_eq_take_drop_succ]
  have := (List.perm_middle (a := l[i]) (l₁ := l.take i) (l₂ := l.drop (i + 1)))
  rw [List.getElem_cons_drop, List.take_append_drop] at this
  exact this
theorem len_insertAt {α : Type} (l : List α) (i : Nat) (p : α) : (insertAt l i p).length = l.length + 1 := (perm_insertAt l i p).length_eq
theorem GoodN.perm {n : Nat} {l r : Things} (g : GoodN n l) (h : r.Perm l) : GoodN n r :=
  ⟨h.length_eq ▸ g.len, fun p hp => g.key p (h.mem_iff.mp hp), fun p hp => g.val p (h.mem_iff.mp hp), (h.map _).nodup_iff.mpr g.nd⟩
theorem GoodN.cons {n : Nat} {l : Things} (g : GoodN n l) {p : Txt × Int} (h1 : goodKey p.1) (h2 : 0 ≤ p.2 ∧ p.2 ≤ 999) (h3 : p.1 ∉ ks l) : GoodN (n + 1) (p :: l) := (g.snoc h1 h2 h3).perm (List.perm_append_singleton p l).symm
theorem GoodN.sub {n : Nat} {l r : Things} (g : GoodN n l) (h : r.Sublist l) : GoodN n r :=
  ⟨Nat.le_trans h.length_le g.len, fun p hp => g.key p (h.mem hp), fun p hp => g.val p (h.mem hp), g.nd.sublist (h.map _)⟩
theorem otherStep_good {s : Int} {l : Things} {k : Nat} (g : GoodN 16 l) : GoodN 16 (otherStep s l k) := by
  unfold otherStep
  have hix : l ≠ [] → (oIx s l k).toNat < l.length := fun h => by
    have hl : 0 < (l.length : Int) := by have := List.length_pos_iff.mpr h; omega
    have a := mod_lo (oAt s l k) hl
    have b := mod_hi (oAt s l k) hl
    unfold oIx; omega
  split
  · rename_i h
    have hi := hix h.2
    have e : l.getD (oIx s l k).toNat ([], 0) = l[(oIx s l k).toNat] := by simp [List.getD_eq_getElem?_getD, hi]
    rw [e]
    exact g.perm ((perm_insertAt _ _ _).trans (perm_erase l _ hi).symm)
  · split
    · exact g.sub (List.eraseIdx_sublist _ _)
    · split
      · rename_i h
        have hi := hix h.2
        have e : l.getD (oIx s l k).toNat ([], 0) = l[(oIx s l k).toNat] := by simp [List.getD_eq_getElem?_getD, hi]
        rw [e]
        have hk : ks (l.set (oIx s l k).toNat ((l[(oIx s l k).toNat]).1, valF (oSeed s k) 4)) = ks l := by
          unfold ks
          rw [List.map_set]
          apply List.ext_getElem?
          intro j
          by_cases hj : (oIx s l k).toNat = j
          · subst hj; simp [hi]
          · simp [List.getElem?_set_ne hj]
        refine ⟨by simp; exact g.len, fun p hp => ?_, fun p hp => ?_, by rw [hk]; exact g.nd⟩
        · rcases List.mem_or_eq_of_mem_set hp with q | q
          · exact g.key p q
          · subst q; exact g.key l[(oIx s l k).toNat] (List.getElem_mem hi)
        · rcases List.mem_or_eq_of_mem_set hp with q | q
          · exact g.val p q
          · subst q; exact val_ok _ 4 (by decide) (by decide)
      · split
        · rename_i h16
          split
          · exact g
          · rename_i hc
            have a := mod_lo (oSeed s k / 13) (by decide : (0 : Int) < 5)
            have b := mod_hi (oSeed s k / 13) (by decide : (0 : Int) < 5)
            have g' : GoodN 15 l := ⟨by omega, g.key, g.val, g.nd⟩
            exact (g'.cons (p := (oKey s k, oSeed s k / 13 % 5)) (key_good _) ⟨a, by show _ ≤ _; omega⟩ (by simpa using hc)).perm (perm_insertAt _ _ _)
        · exact g
theorem other_fold_good (s : Int) : ∀ (r : List Nat) (l : Things), GoodN 16 l → GoodN 16 (r.foldl (otherStep s) l)
  | [], l, g => g
  | k :: r, l, g => other_fold_good s r _ (otherStep_good g)
theorem other_good {l : Things} (g : Good l) (s m : Int) : Good (otherF l s m) := (other_fold_good s _ l g.goodN).good (by decide)
end Cd
end
section
set_option linter.all false
set_option maxRecDepth 100000
set_option maxHeartbeats 1000000
namespace Cd
open MP
variable {P : Nat → Option Def} [Ext P]
abbrev oE (a : D) (s m : Int) (r : Nat) (x4 x5 x6 x7 x8 x9 : Option D) : Env := [some a, some (.int s), some (.int m), some (.ref r), x4, x5, x6, x7, x8, x9]
abbrev sO4 : List Stm := [(.ifs (.cmp .lt (.blt .len [(.var 3)]) (.cst (.int 16))) [(.asg false (.v 9) (.call true 15 [(.call true 13 [(.var 5), (.cst (.int 1))])])), (.ifs (.cmp .notin (.var 9) (.comp [8] (.v 8) (.seq (.var 3)) none (.sub (.var 8) (.cst (.int 0))))) [(.exp (.mth .insert (.var 3) [(.var 7), (.tup [(.var 9), (.bin .mod (.bin .fdv (.var 5) (.cst (.int 13))) (.cst (.int 5)))])]))] [])] [])]
abbrev sO3 : List Stm := [(.ifs (.and (.cmp .lt (.var 6) (.cst (.int 5))) (.cmp .ne (.var 3) (.lst []))) [(.setI (.var 3) (.bin .mod (.var 7) (.blt .len [(.var 3)])) (.tup [(.sub (.sub (.var 3) (.bin .mod (.var 7) (.blt .len [(.var 3)]))) (.cst (.int 0))), (.sub (.lst [(.bin .mod (.bin .fdv (.var 5) (.cst (.int 13))) (.cst (.int 1000))), (.bin .mod (.bin .fdv (.var 5) (.cst (.int 13))) (.cst (.int 4)))]) (.bin .mod (.bin .fdv (.var 5) (.cst (.int 17))) (.cst (.int 2))))]))] sO4)]
abbrev sO2 : List Stm := [(.ifs (.and (.cmp .eq (.var 6) (.cst (.int 2))) (.cmp .ne (.var 3) (.lst []))) [(.exp (.mth .popAt (.var 3) [(.bin .mod (.var 7) (.blt .len [(.var 3)]))]))] sO3)]
abbrev sO1 : List Stm := [(.ifs (.and (.cmp .lt (.var 6) (.cst (.int 2))) (.cmp .ne (.var 3) (.lst []))) [(.asg false (.v 8) (.mth .popAt (.var 3) [(.bin .mod (.var 7) (.blt .len [(.var 3)]))])), (.exp (.mth .insert (.var 3) [(.bin .mod (.bin .fdv (.var 5) (.cst (.int 13))) (.bin .add (.blt .len [(.var 3)]) (.cst (.int 1)))), (.var 8)]))] sO2)]
abbrev sOther : List Stm := (.asg false (.v 5) (.call true 13 [(.var 1), (.bin .add (.cst (.int 30)) (.var 4))])) :: (.asg false (.v 6) (.call true 14 [(.var 5), (.cst (.int 7))])) :: (.asg false (.v 7) (.bin .mod (.bin .fdv (.var 5) (.cst (.int 11))) (.bin .add (.blt .len [(.var 3)]) (.cst (.int 1))))) :: sO1
theorem other_turn {a : D} {s m : Int} {r k n fl : Nat} {h : Hp} {l : Things} {x5 x6 x7 x8 x9 : Option D} (hr : h[r]? = some (.lst (l.map tD))) (hf : ¬ r < fl) (hz : l.length ≤ 16) :
    ∃ y8 y9, exs (lev P (n + 2)) fl sOther (oE a s m r (some (.int k)) x5 x6 x7 x8 x9) h = .nx (oE a s m r (some (.int k)) (some (.int (oSeed s k))) (some (.int (pickF (oSeed s k) 7))) (some (.int (oAt s l k))) y8 y9) (h.set r (.lst ((otherStep s l k).map tD))) := by
  have hlt : r < h.length := (List.getElem?_eq_some_iff.mp hr).1
  have same : h.set r (.lst (l.map tD)) = h := by
    obtain ⟨hl, he⟩ := List.getElem?_eq_some_iff.mp hr
    rw [← he]; simp
  have l1 : (0 : Int) < (l.length : Int) + 1 := by omega
  have at0 : 0 ≤ oAt s l k := mod_lo _ l1
  have at1 : oAt s l k < (l.length : Int) + 1 := mod_hi _ l1
  have hne := ne_nil hr
  suffices q : ∃ y8 y9, exs (lev P (n + 2)) fl sO1 (oE a s m r (some (.int k)) (some (.int (oSeed s k))) (some (.int (pickF (oSeed s k) 7))) (some (.int (oAt s l k))) x8 x9) h = .nx (oE a s m r (some (.int k)) (some (.int (oSeed s k))) (some (.int (pickF (oSeed s k) 7))) (some (.int (oAt s l k))) y8 y9) (h.set r (.lst ((otherStep s l k).map tD))) by
    obtain ⟨y8, y9, q⟩ := q
    refine ⟨y8, y9, ?_⟩
    refine exs_to (ρ1 := oE a s m r (some (.int k)) (some (.int (oSeed s k))) x6 x7 x8 x9) (h1 := h) (by simp [p_seed, binOp, addV, keepA, keep, oSeed]) ?_
    refine exs_to (ρ1 := oE a s m r (some (.int k)) (some (.int (oSeed s k))) (some (.int (pickF (oSeed s k) 7))) x7 x8 x9) (h1 := h) (by simp [p_pick, keepA, keep]) ?_
    refine exs_to (ρ1 := oE a s m r (some (.int k)) (some (.int (oSeed s k))) (some (.int (pickF (oSeed s k) 7))) (some (.int (oAt s l k))) x8 x9) (h1 := h) (by simp [binOp, fdvV, modV, addV, bltOp, bLen, seqOf, hr, l1, keepA, keep, oAt]) ?_
    exact q
  unfold otherStep
  obtain ⟨pk, hpk⟩ : ∃ pk, pk = pickF (oSeed s k) 7 := ⟨_, rfl⟩
  rw [← hpk]
  have eqi : ∀ x y : Int, eqVl h (.d (.int x)) (.d (.int y)) = some (x == y) := fun x y => by simp [eqVl, dataOf, nrN, eqD]
  have q1 := fun x9 hv hj => ev_firsts (G := lev P (n + 2)) (fl := fl) (ρ := oE a s m r (some (.int k)) (some (.int (oSeed s k))) (some (.int pk)) (some (.int (oAt s l k))) x8 x9) (i := 3) (j := 8) l hv hr hj
  have q2 := q1 (some (.str (oKey s k))) rfl (by simp)
  have sd : keyF (seedF (oSeed s k) 1) = oKey s k := rfl
  have ins4 := insert_things (p := (oKey s k, oSeed s k / 13 % 5)) (i := oAt s l k) hr hf (by omega) at0 (by omega)
  simp only [tD] at ins4
  have last : ∃ y8 y9, exs (lev P (n + 2)) fl sO4 (oE a s m r (some (.int k)) (some (.int (oSeed s k))) (some (.int pk)) (some (.int (oAt s l k))) x8 x9) h = .nx (oE a s m r (some (.int k)) (some (.int (oSeed s k))) (some (.int pk)) (some (.int (oAt s l k))) y8 y9) (h.set r (.lst ((if l.length < 16 then (if (ks l).contains (oKey s k) then l else insertAt l (oAt s l k).toNat (oKey s k, oSeed s k / 13 % 5)) else l).map tD))) := by
    by_cases c4 : l.length < 16
    · have c4' : (l.length : Int) < 16 := by omega
      refine ⟨x8, some (.str (oKey s k)), ?_⟩
      by_cases c5 : oKey s k ∈ ks l
      · simp [hr, c4, c4', p_seed, p_key, sd, q2, in_strsN, c5, same]
      · simp [hr, c4, c4', p_seed, p_key, sd, q2, in_strsN, c5, ins4, tD]
    · have c4' : ¬ (l.length : Int) < 16 := by omega
      refine ⟨x8, x9, ?_⟩
      simp [hr, c4, c4', same]
  by_cases e : l = []
  · have emp : l.isEmpty = true := by rw [e]; rfl
    obtain ⟨y8, y9, q⟩ := last
    refine ⟨y8, y9, ?_⟩
    have e1 : ∀ p : Prop, ¬ (p ∧ l ≠ []) := fun p hp => hp.2 e
    rw [if_neg (e1 _), if_neg (e1 _), if_neg (e1 _), ← q]
    rw [exs_if (k := false) (h1 := h) (by by_cases c1 : pk < 2 <;> simp [hne, emp, c1]), if_neg (by decide), exs_if (k := false) (h1 := h) (by by_cases c1 : pk = 2 <;> simp [hne, emp, c1]), if_neg (by decide), exs_if (k := false) (h1 := h) (by by_cases c1 : pk < 5 <;> simp [hne, emp, c1]), if_neg (by decide)]
  · have lp : 0 < (l.length : Int) := by have := List.length_pos_iff.mpr e; omega
    have i0 : 0 ≤ oIx s l k := mod_lo _ lp
    have i1 : oIx s l k < (l.length : Int) := mod_hi _ lp
    have emp : l.isEmpty = false := by cases l; exact absurd rfl e; rfl
    have em : oAt s l k % (l.length : Int) = oIx s l k := rfl
    have pop := popAt_things hr hf (by omega) i0 i1
    by_cases c1 : pk < 2
    · have hr2 : (h.set r (.lst ((l.eraseIdx (oIx s l k).toNat).map tD)))[r]? = some (.lst ((l.eraseIdx (oIx s l k).toNat).map tD)) := by simp [hlt]
      have le1 : (0 : Int) < ((l.eraseIdx (oIx s l k).toNat).length : Int) + 1 := by omega
      have lz : (l.eraseIdx (oIx s l k).toNat).length ≤ 1000 := by have := (List.eraseIdx_sublist l (oIx s l k).toNat).length_le; omega
      have ins := insert_things (p := l.getD (oIx s l k).toNat ([], 0)) (i := oSeed s k / 13 % (((l.eraseIdx (oIx s l k).toNat).length : Int) + 1)) hr2 hf lz (mod_lo _ le1) (by have := mod_hi (oSeed s k / 13) le1; omega)
      refine ⟨some (tD (l.getD (oIx s l k).toNat ([], 0))), x9, ?_⟩
      obtain ⟨l2, hl2⟩ : ∃ l2, l2 = l.eraseIdx (oIx s l k).toNat := ⟨_, rfl⟩
      rw [← hl2] at pop ins hr2 le1 ⊢
      obtain ⟨pp, hpp⟩ : ∃ pp, pp = l.getD (oIx s l k).toNat ([], 0) := ⟨_, rfl⟩
      rw [← hpp] at pop ins ⊢
      simp [hne, emp, c1, e, hr, em, pop, hr2, ins]
    · by_cases c2 : pk = 2
      · refine ⟨x8, x9, ?_⟩
        simp [hne, emp, c1, c2, e, hr, em, pop]
      · by_cases c3 : pk < 5
        · refine ⟨x8, x9, ?_⟩
          have st := sub_things (a := .d (.ref r)) (h := h) (i := oIx s l k) (by simp [hr]) i0 i1
          obtain ⟨pp, hpp⟩ : ∃ pp, pp = l.getD (oIx s l k).toNat ([], 0) := ⟨_, rfl⟩
          rw [← hpp] at st ⊢
          have s0 : subOp h (.d (tD pp)) (.d (.int 0)) = some (.d (.str pp.1)) := rfl
          have s2 : subOp h (.nls [.int (oSeed s k / 13 % 1000), .int (oSeed s k / 13 % 4)]) (.d (.int (oSeed s k / 17 % 2))) = some (.d (.int (valF (oSeed s k) 4))) := by
            rw [sub_two]; unfold valF; split <;> rfl
          have ai : atIx l.length (oIx s l k) = some (oIx s l k).toNat := atIx_int i0 i1
          simp [hne, emp, c1, c2, c3, e, hr, em, st, s0, s2, hf, ai, List.map_set, tD]
        · obtain ⟨y8, y9, q⟩ := last
          refine ⟨y8, y9, ?_⟩
          rw [if_neg (fun x => c1 x.1), if_neg (fun x => c2 x.1), if_neg (fun x => c3 x.1), ← q]
          rw [exs_if (k := false) (h1 := h) (by simp [c1]), if_neg (by decide), exs_if (k := false) (h1 := h) (by simp [c2]), if_neg (by decide), exs_if (k := false) (h1 := h) (by simp [c3]), if_neg (by decide)]
theorem p_other {l : Things} (g : Good l) (s : Int) (m : Nat) (hm : m ≤ 900) (n fl : Nat) (h : Hp) : callA (lev P (n + 3)) true 17 [.tup (l.map tD), .int s, .int m] fl h = .ok (.d (.tup ((otherF l s m).map tD))) h := by
  have l1 : (0 : Int) < (m : Int) + 1 := by omega
  have h0 := mod_lo (s / 7) l1
  have h1 := mod_hi (s / 7) l1
  obtain ⟨ρ', h', e, ⟨x4, x5, x6, x7, x8, x9, e1⟩, e2⟩ := for_fold (t := .v 4) (body := fun ρ hh => exs (lev P (n + 2)) h.length sOther ρ hh) (fun k : Nat => .int (0 + (k : Int))) (otherStep s)
    (fun l' ρ hh => (∃ x4 x5 x6 x7 x8 x9, ρ = oE (.tup (l.map tD)) s m h.length x4 x5 x6 x7 x8 x9) ∧ hh = h ++ [.lst (l'.map tD)]) (List.range (s / 7 % ((m : Int) + 1)).toNat) l (oE (.tup (l.map tD)) s m h.length none none none none none none) (h ++ [.lst (l.map tD)]) ⟨⟨_, _, _, _, _, _, rfl⟩, rfl⟩ fun d k r ρ hh q ⟨⟨x4, x5, x6, x7, x8, x9, e1⟩, e2⟩ => by
      subst e1 e2
      have hl := (other_fold_good s d l g.goodN).len
      obtain ⟨y8, y9, tt⟩ := other_turn (P := P) (a := .tup (l.map tD)) (s := s) (m := m) (r := h.length) (k := k) (n := n) (fl := h.length) (h := h ++ [.lst ((d.foldl (otherStep s) l).map tD)]) (l := d.foldl (otherStep s) l) (x5 := x5) (x6 := x6) (x7 := x7) (x8 := x8) (x9 := x9) (by simp) (by omega) hl
      exact ⟨oE (.tup (l.map tD)) s m h.length (some (.int k)) x5 x6 x7 x8 x9, by simp [bindT], _, _, .inl tt, ⟨_, _, _, _, _, _, rfl⟩, by simp⟩
  subst e1 e2
  have hz : l.length ≤ most := by have := g.len; unfold most; omega
  refine callM_of (d := c_law_other) (v := .d (.tup ((otherF l s m).map tD))) (h' := h ++ [.lst ((otherF l s m).map tD)]) rfl (run_rt (ρ := [some (.tup (l.map tD)), some (.int s), some (.int m), none, none, none, none, none, none, none]) rfl rfl ?_) (by simp [outV, nrN])
  refine exs_to (ρ1 := oE (.tup (l.map tD)) s m h.length none none none none none none) (h1 := h ++ [.lst (l.map tD)]) (by simp [bltOp, bList, seqOf, hz, keepA, alloc]) ?_
  refine exs_to ((ex_for (evI_rng1 (i := s / 7 % ((m : Int) + 1)) (by simp [binOp, fdvV, modV, addV, l1]) (by omega))).trans e) ?_
  simp [bltOp, bTuple, lstOf, otherF]
end Cd
end
section
set_option linter.all false
set_option maxRecDepth 100000
set_option maxHeartbeats 1000000
namespace Cd
open MP
variable {P : Nat → Option Def} [Ext P]
theorem p_cellI (ns : List Int) (k : Int) (hk : 0 ≤ k) (n fl : Nat) (h : Hp) : callA (lev P (n + 1)) true 12 [.ctp (ns.map .int), .int k] fl h = .ok (.d (.int (cellF ns k.toNat))) h := by
  have := p_cell (P := P) ns k.toNat n fl h
  rwa [show ((k.toNat : Nat) : Int) = k by omega] at this
theorem p_other' {l : Things} (g : Good l) (s : Int) (m : Int) (h0 : 0 ≤ m) (hm : m ≤ 900) (n fl : Nat) (h : Hp) : callA (lev P (n + 3)) true 17 [.tup (l.map tD), .int s, .int m] fl h = .ok (.d (.tup ((otherF l s m).map tD))) h := by
  have := p_other (P := P) g s m.toNat (by omega) n fl h
  rwa [show ((m.toNat : Nat) : Int) = m by omega] at this
theorem p_list' (s : Int) (m : Int) (h0 : 0 ≤ m) (hm : m ≤ 900) (n fl : Nat) (h : Hp) : callA (lev P (n + 3)) true 16 [.int s, .int m] fl h = .ok (.d (.tup ((listF s m).map tD))) h := by
  have := p_list (P := P) s m.toNat (by omega) n fl h
  rwa [show ((m.toNat : Nat) : Int) = m by omega] at this
theorem list_good (s : Int) (m : Int) (h0 : 0 ≤ m) (h : m ≤ 16) : Good (listF s m) := by
  have := list_goodN s m.toNat
  rw [show ((m.toNat : Nat) : Int) = m by omega] at this
  exact this.good (by omega)
def baseF (ns : List Int) (a : Nat) : Things := listF (seedF (cellF ns a) 0) 16
def mineF (ns : List Int) (a : Nat) (m : Int) : Things := otherF (baseF ns a) (seedF (cellF ns (a + 1)) 1) m
def theirsF (ns : List Int) (a : Nat) (m : Int) : Things := otherF (baseF ns a) (seedF (cellF ns (a + 2)) 2) m
theorem base_good (ns : List Int) (a : Nat) : Good (baseF ns a) := list_good _ 16 (by decide) (by decide)
theorem mine_good (ns : List Int) (a : Nat) (m : Int) : Good (mineF ns a m) := other_good (base_good ns a) _ _
theorem theirs_good (ns : List Int) (a : Nat) (m : Int) : Good (theirsF ns a m) := other_good (base_good ns a) _ _
theorem p_three (ns : List Int) (a m : Int) (ha : 0 ≤ a) (h0 : 0 ≤ m) (hm : m ≤ 900) (n fl : Nat) (h : Hp) : callA (lev P (n + 4)) true 18 [.ctp (ns.map .int), .int a, .int m] fl h = .ok (.d (.tup [.tup ((baseF ns a.toNat).map tD), .tup ((mineF ns a.toNat m).map tD), .tup ((theirsF ns a.toNat m).map tD)])) h := by
  refine callM_of (d := c_law_three) (v := .d (.tup [.tup ((baseF ns a.toNat).map tD), .tup ((mineF ns a.toNat m).map tD), .tup ((theirsF ns a.toNat m).map tD)])) (h' := h) rfl (run_rt (ρ := [some (.ctp (ns.map .int)), some (.int a), some (.int m), none, none]) rfl rfl ?_) (by simp [outV, nrN, nrL])
  have e0 := p_cellI (P := P) ns a ha (n + 2) h.length h
  have e1 := p_cellI (P := P) ns (a + 1) (by omega) (n + 2) h.length h
  have e2 := p_cellI (P := P) ns (a + 2) (by omega) (n + 2) h.length h
  rw [show (a + 1).toNat = a.toNat + 1 by omega] at e1
  rw [show (a + 2).toNat = a.toNat + 2 by omega] at e2
  have b : listF (seedF (cellF ns a.toNat) 0) 16 = baseF ns a.toNat := rfl
  refine exs_to (ρ1 := [some (.ctp (ns.map .int)), some (.int a), some (.int m), some (.tup ((baseF ns a.toNat).map tD)), none]) (h1 := h) (by simp [e0, p_seed, p_list', b]) ?_
  refine exs_to (ρ1 := [some (.ctp (ns.map .int)), some (.int a), some (.int m), some (.tup ((baseF ns a.toNat).map tD)), some (.tup ((mineF ns a.toNat m).map tD))]) (h1 := h) (by simp [e1, p_seed, p_other' (base_good ns a.toNat) _ m h0 hm, mineF]) ?_
  simp [e2, p_seed, p_other' (base_good ns a.toNat) _ m h0 hm, theirsF]
theorem p_lkeys (l : List (Txt × Int)) (n fl : Nat) (h : Hp) : callA (lev P (n + 1)) true 20 [.tup (l.map tD)] fl h = .ok (.nls ((ks l).map .str)) h := by
  have hc := ev_compM (G := lev P n) (fl := h.length) (ρ := [some (.tup (l.map tD)), none, none]) (own := [1, 2]) (tg := .t [.v 1, .v 2]) (it := .seq (.var 0)) (cond := none) (elt := .var 1) (h1 := h) (h := h) (s := .fix (l.map tD)) tD (fun p => .str p.1) l (by simp) rfl (fun p hp => by simp [turn, tD, bindT, bindTs, wipe])
  have hm : l.map (fun p => D.str p.1) = (ks l).map .str := by simp [ks]
  rw [hm] at hc
  refine callM_of (d := c_law_keys) (v := .nls ((ks l).map .str)) (h' := h) rfl (run_rt rfl rfl ?_) ?_
  · simp [c_law_keys, start, hc]
  · simp [outV, nrN]
end Cd
end
section
set_option linter.all false
set_option maxRecDepth 100000
set_option maxHeartbeats 1000000
/-! plain: the law's own way to the keys that stay, and that it is the program's -/
namespace Cd
open MP
abbrev Rows := List (Txt × List Txt)
def behindF (o : List Txt) (B : Rows) (k : Txt) : List (List Txt) := (B.filter fun q => decide (o.idxOf k < o.idxOf q.1)).map (·.2)
def maxLen (l : List (List Txt)) : Nat := l.foldr (fun r m => max r.length m) 0
def firstLong (l : List (List Txt)) : List Txt := (l.filter fun r => r.length == maxLen l).headD []
def stepB (o : List Txt) (B : Rows) (k : Txt) : Rows := (k, k :: firstLong (behindF o B k)) :: B
def bestL (o : List Txt) : List Txt → Rows
  | [] => []
  | k :: r => stepB o (bestL o r) k
def lawStaysF (b o : List Txt) : List Txt := firstLong ((bestL o (both b o)).map (·.2))
theorem bestL_fold (o : List Txt) (l : List Txt) : l.reverse.foldl (stepB o) [] = bestL o l := by
  rw [List.foldl_reverse]
  induction l with
  | nil => rfl
  | cons k l ih => rw [List.foldr_cons, ih]; rfl
theorem bestL_keys (o : List Txt) : ∀ l, (bestL o l).map (·.1) = l
  | [] => rfl
  | k :: l => by simp [bestL, stepB, bestL_keys o l]
/-! the maximum -/
theorem le_maxLen {l : List (List Txt)} {r : List Txt} (h : r ∈ l) : r.length ≤ maxLen l := by
  induction l with
  | nil => cases h
  | cons x l ih =>
    simp only [maxLen, List.foldr_cons] at ih ⊢
    rcases List.mem_cons.mp h with e | e
    · subst e; omega
    · have := ih e; omega
theorem maxLen_mem : ∀ {l : List (List Txt)}, l ≠ [] → ∃ r ∈ l, r.length = maxLen l
  | [x], _ => ⟨x, by simp, by simp [maxLen]⟩
  | x :: y :: l, _ => by
    obtain ⟨r, hr, e⟩ := maxLen_mem (l := y :: l) (by simp)
    by_cases c : (maxLen (y :: l)) ≤ x.length
    · refine ⟨x, by simp, ?_⟩
      show _ = max x.length (maxLen (y :: l))
      omega
    · refine ⟨r, by simp at hr ⊢; exact .inr hr, ?_⟩
      show _ = max x.length (maxLen (y :: l))
      omega
theorem firstLong_len {l : List (List Txt)} : (firstLong l).length = maxLen l := by
  unfold firstLong
  by_cases e : l = []
  · subst e; rfl
  · obtain ⟨r, hr, e2⟩ := maxLen_mem e
    have : r ∈ l.filter fun r => r.length == maxLen l := List.mem_filter.mpr ⟨hr, by simp [e2]⟩
    cases hq : l.filter fun r => r.length == maxLen l with
    | nil => rw [hq] at this; cases this
    | cons x t =>
      have hx : x ∈ l.filter fun r => r.length == maxLen l := by rw [hq]; simp
      have := (List.mem_filter.mp hx).2
      simpa using this
/-! greedy -/
def grd : List (Txt × Int × Int) → Int → Int → List Txt
  | [], _, _ => []
  | (k, pl, m) :: r, w, p => if 0 < w ∧ m = w ∧ p < pl then k :: grd r (w - 1) pl else grd r w p
theorem gs_grd : ∀ (z : List (Txt × Int × Int)) (a : List Txt) (w p : Int), (z.foldl gs (a, w, p)).1 = a ++ grd z w p
  | [], a, w, p => by simp [grd]
  | (k, pl, m) :: r, a, w, p => by
    rw [List.foldl_cons]
    by_cases c : 0 < w ∧ m = w ∧ p < pl
    · have e : gs (a, w, p) (k, pl, m) = (a ++ [k], w - 1, pl) := by simp [gs, c]
      rw [e, gs_grd r]
      simp [grd, c]
    · have e : gs (a, w, p) (k, pl, m) = (a, w, p) := by unfold gs; rw [if_neg c]
      rw [e, gs_grd r, grd, if_neg c]
def lens (B : Rows) : List Int := B.map fun q => (q.2.length : Int)
def tri (o : List Txt) (B : Rows) : List (Txt × Int × Int) := B.map fun q => (q.1, (o.idxOf q.1 : Int), (q.2.length : Int))
theorem lon_best (o : List Txt) : ∀ l : List Txt, lon (l.map fun x => (o.idxOf x : Int)) = lens (bestL o l)
  | [] => rfl
  | k :: l => by
    have ih := lon_best o l
    simp only [List.map_cons, lon, bestL, stepB, lens]
    rw [ih]
    have hk := bestL_keys o l
    obtain ⟨B, hB⟩ : ∃ B, B = bestL o l := ⟨_, rfl⟩
    rw [← hB] at hk ⊢
    have e0 : (l.map fun x => (o.idxOf x : Int)) = B.map fun q => (o.idxOf q.1 : Int) := by rw [← hk, List.map_map]; rfl
    have e : (l.map fun x => (o.idxOf x : Int)).zip (lens B) = B.map fun q => ((o.idxOf q.1 : Int), (q.2.length : Int)) := by
      rw [e0]
      unfold lens
      rw [List.zip_map']
    congr 1
    rw [e, List.length_cons, firstLong_len]
    unfold lonAt
    have gen : ∀ (B : Rows) (m : Int), 0 ≤ m → (B.map fun q => ((o.idxOf q.1 : Int), (q.2.length : Int))).foldl (fun m q => if (o.idxOf k : Int) < q.1 then (if m < q.2 + 1 then q.2 + 1 else m) else m) m = max m (if (behindF o B k) = [] then 0 else (maxLen (behindF o B k) : Int) + 1) := by
      intro B
      induction B with
      | nil => intro m hm; simp [behindF]; omega
      | cons q B ihB =>
        intro m hm
        rw [List.map_cons, List.foldl_cons]
        by_cases c : o.idxOf k < o.idxOf q.1
        · have c' : (o.idxOf k : Int) < (o.idxOf q.1 : Int) := by omega
          rw [if_pos c']
          have bf : behindF o (q :: B) k = q.2 :: behindF o B k := by simp [behindF, c]
          have ml : maxLen (q.2 :: behindF o B k) = max q.2.length (maxLen (behindF o B k)) := rfl
          rw [bf, if_neg (List.cons_ne_nil _ _), ihB _ (by split <;> omega), ml]
          by_cases z : behindF o B k = []
          · rw [if_pos z, z]
            have : maxLen [] = 0 := rfl
            rw [this]
            split <;> omega
          · rw [if_neg z]
            split <;> omega
        · have c' : ¬ (o.idxOf k : Int) < (o.idxOf q.1 : Int) := by omega
          rw [if_neg c', ihB m hm]
          have bf : behindF o (q :: B) k = behindF o B k := by simp [behindF, c]
          rw [bf]
    rw [gen _ 1 (by decide)]
    split
    · rename_i h
      rw [h]
      rfl
    · omega
theorem grd_best (o : List Txt) : ∀ (l : List Txt) (w : Nat) (p : Int), 0 < w → grd (tri o (bestL o l)) w p = (((bestL o l).filter fun q => decide (p < (o.idxOf q.1 : Int)) && (q.2.length == w)).map (·.2)).headD []
  | [], w, p, _ => rfl
  | k :: l, w, p, hw => by
    have ih := grd_best o l
    simp only [bestL, stepB, tri, List.map_cons]
    unfold grd
    have len : (k :: firstLong (behindF o (bestL o l) k)).length = maxLen (behindF o (bestL o l) k) + 1 := by rw [List.length_cons, firstLong_len]
    by_cases c : p < (o.idxOf k : Int) ∧ maxLen (behindF o (bestL o l) k) + 1 = w
    · rw [if_pos (by rw [len]; refine ⟨by omega, by omega, c.1⟩)]
      rw [List.filter_cons_of_pos (by simp [c.1, firstLong_len, c.2])]
      simp only [List.map_cons, List.headD_cons]
      congr 1
      obtain ⟨c1, c2⟩ := c
      have hw1 : ((w : Int) - 1) = ((w - 1 : Nat) : Int) := by omega
      rw [hw1]
      by_cases z : w - 1 = 0
      · rw [z]
        have mz : maxLen (behindF o (bestL o l) k) = 0 := by omega
        have g0 : ∀ (t : List (Txt × Int × Int)) (p : Int), grd t 0 p = [] := by
          intro t
          induction t with
          | nil => intro p; rfl
          | cons q t iht => intro p; obtain ⟨a, b, c⟩ := q; unfold grd; simp [iht]
        rw [show ((0 : Nat) : Int) = 0 from rfl, g0]
        have := firstLong_len (l := behindF o (bestL o l) k)
        rw [mz] at this
        exact (List.length_eq_zero_iff.mp this).symm
      · have := ih (w - 1) (o.idxOf k : Int) (by omega)
        unfold tri at this
        rw [this]
        unfold firstLong
        have mz : maxLen (behindF o (bestL o l) k) = w - 1 := by omega
        rw [mz]
        unfold behindF
        rw [List.filter_map, List.filter_filter]
        congr 2
        apply List.filter_congr
        intro q _
        simp [Bool.and_comm]
    · rw [if_neg (by rw [len]; intro x; exact c ⟨x.2.2, by omega⟩)]
      rw [List.filter_cons_of_neg (by simp [firstLong_len]; intro a; have := fun b => c ⟨a, b⟩; omega)]
      exact ih w p hw
theorem maxI_ge : ∀ (l : List Int) (m : Int), m ≤ maxI m l
  | [], m => Int.le_refl m
  | i :: l, m => by
    have := maxI_ge l (if m < i then i else m)
    unfold maxI
    split at this <;> split <;> omega
theorem maxI_lens : ∀ (B : Rows) (m : Int), 0 ≤ m → maxI m (lens B) = max m (maxLen (B.map (·.2)))
  | [], m, h => by simp [lens, maxI, maxLen]; omega
  | q :: B, m, h => by
    simp only [lens, List.map_cons, maxI]
    have := maxI_lens B (if m < (q.2.length : Int) then (q.2.length : Int) else m) (by split <;> omega)
    unfold lens at this
    rw [this]
    simp only [maxLen, List.foldr_cons]
    split <;> omega
theorem want_lens (B : Rows) : wantF (lens B) = (maxLen (B.map (·.2)) : Int) := by
  cases B with
  | nil => rfl
  | cons q B =>
    show maxI (q.2.length : Int) (lens B) = _
    rw [maxI_lens B _ (by omega)]
    simp only [List.map_cons, maxLen, List.foldr_cons]
    omega
theorem stays_eq (b o : List Txt) : staysF b o = lawStaysF b o := by
  unfold staysF lawStaysF
  rw [gs_grd]
  simp only [List.nil_append]
  obtain ⟨bo, hbo⟩ : ∃ bo, bo = both b o := ⟨_, rfl⟩
  have pl : placesF b o = bo.map fun x => (o.idxOf x : Int) := by rw [hbo]; rfl
  rw [pl, lon_best, ← hbo, want_lens]
  have z : bo.zip ((bo.map fun x => (o.idxOf x : Int)).zip (lens (bestL o bo))) = tri o (bestL o bo) := by
    have hk := bestL_keys o bo
    conv => lhs; rw [show bo = (bestL o bo).map (·.1) from hk.symm]
    rw [hk]
    conv => lhs; lhs; rw [← hk]
    conv => lhs; rhs; lhs; rw [← hk]
    unfold lens tri
    rw [List.map_map, List.zip_map', List.zip_map']
    rfl
  rw [z]
  by_cases e : maxLen ((bestL o bo).map (·.2)) = 0
  · rw [e]
    have g0 : ∀ (t : List (Txt × Int × Int)) (p : Int), grd t 0 p = [] := by
      intro t
      induction t with
      | nil => intro p; rfl
      | cons q t iht => intro p; obtain ⟨a, b, c⟩ := q; unfold grd; simp [iht]
    rw [show ((0 : Nat) : Int) = 0 from rfl, g0]
    have := firstLong_len (l := (bestL o bo).map (·.2))
    rw [e] at this
    exact (List.length_eq_zero_iff.mp this).symm
  · rw [grd_best o bo _ _ (by omega)]
    unfold firstLong
    rw [List.filter_map]
    congr 2
end Cd
end
section
set_option linter.all false
set_option maxRecDepth 100000
set_option maxHeartbeats 1000000
namespace Cd
open MP
variable {P : Nat → Option Def} [Ext P]
def dB (B : Rows) : List (Ky × D) := B.reverse.map fun q => (.s q.1, .lst (q.2.map .str))
theorem any_dB (x : Txt) (B : Rows) : ((dB B).any fun p => decide (p.1 = Ky.s x)) = (B.map (·.1)).contains x := by
  unfold dB
  rw [List.any_map, List.any_reverse]
  induction B with
  | nil => rfl
  | cons p l ih =>
    simp only [List.map_cons, List.any_cons, List.contains_cons, ih]
    congr 1
    by_cases h : p.1 = x
    · subst h; simp
    · have : ¬ x = p.1 := fun e => h e.symm
      simp [h, this]
theorem look_app {κ : Type} [DecidableEq κ] (k : κ) : ∀ (l r : List (κ × D)), lookK k (l ++ r) = (lookK k l).or (lookK k r)
  | [], r => by simp [lookK]
  | (a, v) :: l, r => by
    simp only [List.cons_append, lookK]
    split
    · simp
    · exact look_app k l r
theorem look_dB (x : Txt) : ∀ B : Rows, (B.map (·.1)).Nodup → lookK (Ky.s x) (dB B) = (B.lookup x).map fun r => D.lst (r.map .str)
  | [], _ => rfl
  | (k, v) :: B, h => by
    have h' := List.nodup_cons.mp h
    have ih := look_dB x B h'.2
    have e : dB ((k, v) :: B) = dB B ++ [(.s k, .lst (v.map .str))] := by simp [dB]
    rw [e, look_app, ih]
    by_cases c : k = x
    · subst c
      have : B.lookup k = none := by
        rw [List.lookup_eq_none_iff]
        intro p hp
        have : p.1 ∈ B.map (·.1) := List.mem_map_of_mem hp
        have ne : k ≠ p.1 := fun q => h'.1 (q ▸ this)
        simpa using ne
      rw [this]
      simp [lookK]
    · have : (x == k) = false := beq_eq_false_iff_ne.mpr (Ne.symm c)
      rw [List.lookup_cons, this]
      simp [lookK, c]
theorem in_dB {h : Hp} {n : Nat} {B : Rows} (e : h[n]? = some (.dic (dB B))) (x : Txt) : inOp h (.d (.str x)) (.d (.ref n)) = some ((B.map (·.1)).contains x) := by
  simp only [inOp, seqOf, e, dicOf, kyOf, Option.map_some, any_dB]
theorem sub_dB {h : Hp} {n : Nat} {B : Rows} (e : h[n]? = some (.dic (dB B))) (hn : (B.map (·.1)).Nodup) {x : Txt} {v : List Txt} (hv : B.lookup x = some v) : subOp h (.d (.ref n)) (.d (.str x)) = some (.d (.lst (v.map .str))) := by
  simp only [subOp, seqOf, e, dicOf, kyOf, look_dB x B hn, hv, Option.map_some]
/-- rows of keys, as values -/
def rD (r : List Txt) : D := .lst (r.map .str)
theorem lookup_some {B : Rows} {x : Txt} (h : x ∈ B.map (·.1)) : ∃ v, B.lookup x = some v := by
  induction B with
  | nil => cases h
  | cons p B ih =>
    obtain ⟨k, v⟩ := p
    by_cases c : x = k
    · subst c; exact ⟨v, by simp⟩
    · have : x ∈ B.map (·.1) := by
        rcases List.mem_cons.mp h with e | e
        · exact absurd e c
        · exact e
      obtain ⟨w, hw⟩ := ih this
      exact ⟨w, by rw [List.lookup_cons, beq_eq_false_iff_ne.mpr c]; exact hw⟩
/-- walking the keys of B is walking B -/
theorem map_lookup {β : Type} (f : Txt → List Txt → β) (c : Txt → List Txt → Bool) : ∀ B : Rows, (B.map (·.1)).Nodup → ((B.map (·.1)).filter fun x => c x ((B.lookup x).getD [])).map (fun x => f x ((B.lookup x).getD [])) = (B.filter fun q => c q.1 q.2).map fun q => f q.1 q.2
  | [], _ => rfl
  | (k, v) :: B, h => by
    have h' := List.nodup_cons.mp h
    have ih := map_lookup f c B h'.2
    have lk : ∀ x ∈ B.map (·.1), ((k, v) :: B).lookup x = B.lookup x := fun x hx => by
      have ne : x ≠ k := fun q => h'.1 (q ▸ hx)
      rw [List.lookup_cons, beq_eq_false_iff_ne.mpr ne]
    have e0 : ((B.map (·.1)).filter fun x => c x ((((k, v) :: B).lookup x).getD [])) = ((B.map (·.1)).filter fun x => c x ((B.lookup x).getD [])) := List.filter_congr fun x hx => by rw [lk x hx]
    have e : ((B.map (·.1)).filter fun x => c x ((B.lookup x).getD [])).map (fun x => f x ((((k, v) :: B).lookup x).getD [])) = ((B.map (·.1)).filter fun x => c x ((B.lookup x).getD [])).map (fun x => f x ((B.lookup x).getD [])) := by
      apply List.map_congr_left
      intro x hx
      rw [lk x (List.mem_filter.mp hx).1]
    have lk0 : (((k, v) :: B).lookup k).getD [] = v := by simp
    by_cases q : c k v = true
    · simp only [List.map_cons]
      rw [List.filter_cons_of_pos (by rw [lk0]; exact q), List.filter_cons_of_pos (by simpa using q)]
      simp only [List.map_cons, e0, e, ih, lk0]
    · simp only [List.map_cons]
      rw [List.filter_cons_of_neg (by rw [lk0]; exact q), List.filter_cons_of_neg (by simpa using q)]
      rw [e0, e, ih]
abbrev tE (b o bt : List Txt) (r : Nat) (x4 x5 x6 x7 : Option D) : Env := [some (.lst (b.map .str)), some (.lst (o.map .str)), some (.ref r), some (.lst (bt.map .str)), x4, x5, x6, x7, none, none]
/-- the rows behind a key -/
theorem ev_behind {G : Fns} {fl : Nat} {b o pre post : List Txt} {k : Txt} {B : Rows} {r : Nat} {h : Hp} {x5 x6 x7 : Option D} (hr : h[r]? = some (.dic (dB B))) (hB : B.map (·.1) = post) (hn : (pre ++ k :: post).Nodup) (ho : ∀ x ∈ pre ++ k :: post, x ∈ o) :
    ev G fl (.comp [8] (.v 8) (.seq (.var 3)) (some (.and (.cmp .isin (.var 8) (.var 2)) (.cmp .gt (.mth .index (.var 1) [(.var 8)]) (.mth .index (.var 1) [(.var 4)])))) (.sub (.var 2) (.var 8))) (tE b o (pre ++ k :: post) r (some (.str k)) x5 x6 x7) h = .ok (.nls ((behindF o B k).map rD)) h := by
  obtain ⟨bt, hbt⟩ : ∃ bt, bt = pre ++ k :: post := ⟨_, rfl⟩
  rw [← hbt] at hn ho ⊢
  have hnB : (B.map (·.1)).Nodup := by rw [hB]; rw [hbt] at hn; exact ((List.nodup_append.mp hn).2.1 |> List.nodup_cons.mp).2
  have hk : k ∈ o := ho k (by rw [hbt]; simp)
  rw [ev_compT (h1 := h) (s := .fix (bt.map .str)) D.str (fun x => (B.map (·.1)).contains x && decide (o.idxOf k < o.idxOf x)) (fun x => rD ((B.lookup x).getD [])) bt (by simp) rfl (fun x hx => by
    have hx' := ho x hx
    have q := in_dB hr x
    by_cases c1 : x ∈ B.map (·.1)
    · obtain ⟨v, hv⟩ := lookup_some c1
      have s := sub_dB hr hnB hv
      have c1' : (B.map (·.1)).contains x = true := by simpa using c1
      by_cases c2 : o.idxOf k < o.idxOf x
      · simp only [c1', c2, decide_true, Bool.and_self, if_true]
        rw [c1'] at q
        simp [turn, bindT, wipe, q, bIndex_strs hx', bIndex_strs hk, c2, s, hv, rD]
      · simp only [c1', c2, decide_false, Bool.and_false]
        rw [c1'] at q
        simp [turn, bindT, wipe, q, bIndex_strs hx', bIndex_strs hk, c2]
    · have c1' : (B.map (·.1)).contains x = false := by simpa using c1
      rw [c1'] at q
      simp only [c1', Bool.false_and]
      simp [turn, bindT, wipe, q])]
  congr 2
  have f1 : bt.filter (fun x => (B.map (·.1)).contains x && decide (o.idxOf k < o.idxOf x)) = (B.map (·.1)).filter fun x => decide (o.idxOf k < o.idxOf x) := by
    rw [hbt, hB]
    have hd := List.nodup_append.mp (hbt ▸ hn)
    have hd2 := List.nodup_cons.mp hd.2.1
    rw [List.filter_append, List.filter_cons_of_neg (by simp [hd2.1])]
    have e1 : pre.filter (fun x => post.contains x && decide (o.idxOf k < o.idxOf x)) = [] := by
      rw [List.filter_eq_nil_iff]
      intro x hx
      have : x ∉ post := fun q => hd.2.2 x hx x (List.mem_cons_of_mem _ q) rfl
      simp [this]
    rw [e1, List.nil_append]
    apply List.filter_congr
    intro x hx
    simp [hx]
  rw [f1]
  have := map_lookup (fun _ r => rD r) (fun x _ => decide (o.idxOf k < o.idxOf x)) B hnB
  rw [this]
  simp [behindF, Function.comp]
theorem maxI_lens2 : ∀ (l : List (List Txt)) (m : Int), 0 ≤ m → maxI m (l.map (fun r => (r.length : Int)) ++ [0]) = max m (maxLen l)
  | [], m, h => by simp [maxI, maxLen]; omega
  | q :: B, m, h => by
    simp only [List.map_cons, List.cons_append, maxI]
    rw [maxI_lens2 B _ (by split <;> omega)]
    simp only [maxLen, List.foldr_cons]
    split <;> omega
theorem bMaxL_lens (h : Hp) (l : List (List Txt)) : bMaxL h [.nls (l.map (fun r => D.int (r.length : Int)) ++ [.int 0])] = some (.d (.int (maxLen l : Int)), h) := by
  have e : l.map (fun r => D.int (r.length : Int)) ++ [.int 0] = (l.map (fun r : List Txt => (r.length : Int)) ++ [0]).map D.int := by simp
  simp only [bMaxL, lstOf, Option.bind_some]
  rw [e, intsOf_map]
  cases l with
  | nil => rfl
  | cons q l =>
    simp only [List.map_cons, List.cons_append]
    have := maxI_lens2 l (q.length : Int) (by omega)
    rw [this]
    simp only [maxLen, List.foldr_cons]
    have e2 : max (q.length : Int) ((l.foldr (fun r m => max r.length m) 0 : Nat) : Int) = ((max q.length (l.foldr (fun r m => max r.length m) 0) : Nat) : Int) := by omega
    rw [e2]
theorem rD_len (h : Hp) (r : List Txt) : bLen h [.d (rD r)] = some (.d (.int (r.length : Int)), h) := by simp [rD]
theorem ev_lens {G : Fns} {fl : Nat} {ρ : Env} {h : Hp} {i j : Nat} (l : List (List Txt)) (hv : ρ[i]? = some (some (.lst (l.map rD)))) (hj : j < ρ.length) : ev G fl (.comp [j] (.v j) (.seq (.var i)) none (.blt .len [(.var j)])) ρ h = .ok (.nls (l.map fun r => .int (r.length : Int))) h :=
  ev_compM (h1 := h) (s := .fix (l.map rD)) rD _ l (by simp [hv]) rfl fun r hr => by
    simp [turn, bindT, wipe, hj, rD_len]
theorem ev_long {G : Fns} {fl : Nat} {ρ : Env} {h : Hp} {i j m : Nat} {w : Nat} (l : List (List Txt)) (hv : ρ[i]? = some (some (.lst (l.map rD)))) (hm : ρ[m]? = some (some (.int w))) (hj : j < ρ.length) (hne : j ≠ m) : ev G fl (.comp [j] (.v j) (.seq (.var i)) (some (.cmp .eq (.blt .len [(.var j)]) (.var m))) (.var j)) ρ h = .ok (.nls ((l.filter fun r => r.length == w).map rD)) h :=
  ev_compT (h1 := h) (s := .fix (l.map rD)) rD (fun r => r.length == w) rD l (by simp [hv]) rfl fun r hr => by
    have : ((ρ.set j (some (rD r)))[m]?) = some (some (.int w)) := by
      rw [List.getElem?_set_ne hne]; exact hm
    by_cases c : r.length = w
    · simp [turn, bindT, wipe, hj, rD_len, this, c]
    · have c' : ¬ (r.length : Int) = (w : Int) := by omega
      simp [turn, bindT, wipe, hj, rD_len, this, c, c']
@[simp] theorem nr_rows (l : List (List Txt)) (k : Nat) : nrL (k + 1) (l.map rD) = true := nrL_all fun d hd => by
  obtain ⟨t, _, rfl⟩ := List.mem_map.mp hd
  simp [rD, nrN]
end Cd
end
section
set_option linter.all false
set_option maxRecDepth 100000
set_option maxHeartbeats 1000000
namespace MP
theorem addV_nn {h : Hp} {l r : List D} (hz : l.length + r.length ≤ most) : addV h (.nls l) (.nls r) = some (.nls (l ++ r)) := by simp [addV, lstOf, hz]
theorem addV_nl {h : Hp} {l r : List D} (hz : l.length + r.length ≤ most) : addV h (.nls l) (.d (.lst r)) = some (.nls (l ++ r)) := by simp [addV, lstOf, hz]
theorem addV_ln {h : Hp} {l r : List D} (hz : l.length + r.length ≤ most) : addV h (.d (.lst l)) (.nls r) = some (.nls (l ++ r)) := by simp [addV, lstOf, hz]
theorem addV_ll {h : Hp} {l r : List D} (hz : l.length + r.length ≤ most) : addV h (.d (.lst l)) (.d (.lst r)) = some (.nls (l ++ r)) := by simp [addV, lstOf, hz]
end MP
namespace Cd
open MP
variable {P : Nat → Option Def} [Ext P]
theorem eq_nilL {h : Hp} {l : List (List Txt)} : eqVl h (.d (.lst (l.map rD))) (.nls []) = some l.isEmpty := by
  simp [eqVl, dataOf, nrN, eqD, eqL_nil, nrL]
theorem put_dB {B : Rows} {k : Txt} {row : List Txt} (hk : k ∉ B.map (·.1)) : putK (Ky.s k) (rD row) (dB B) = dB ((k, row) :: B) := by
  unfold putK
  rw [any_dB, if_neg (by simpa using hk)]
  simp [dB, rD]
abbrev sStays : List Stm := [(.asg false (.v 5) (.comp [8] (.v 8) (.seq (.var 3)) (some (.and (.cmp .isin (.var 8) (.var 2)) (.cmp .gt (.mth .index (.var 1) [(.var 8)]) (.mth .index (.var 1) [(.var 4)])))) (.sub (.var 2) (.var 8)))), (.asg false (.v 6) (.blt .maxL [(.bin .add (.comp [9] (.v 9) (.seq (.var 5)) none (.blt .len [(.var 9)])) (.lst [(.cst (.int 0))]))])), (.asg false (.v 7) (.comp [9] (.v 9) (.seq (.var 5)) (some (.cmp .eq (.blt .len [(.var 9)]) (.var 6))) (.var 9))), (.setI (.var 2) (.var 4) (.bin .add (.lst [(.var 4)]) (.ife (.cmp .ne (.var 7) (.lst [])) (.sub (.var 7) (.cst (.int 0))) (.lst []))))]
theorem behind_len (o : List Txt) (B : Rows) (k : Txt) : (behindF o B k).length ≤ B.length := by
  unfold behindF
  rw [List.length_map]
  exact List.length_filter_le _ _
theorem row_len (o : List Txt) : ∀ (l : List Txt), maxLen ((bestL o l).map (·.2)) ≤ l.length
  | [] => Nat.le_refl 0
  | k :: l => by
    have ih := row_len o l
    show max (k :: firstLong (behindF o (bestL o l) k)).length (maxLen ((bestL o l).map (·.2))) ≤ _
    rw [List.length_cons, firstLong_len, List.length_cons]
    have : maxLen (behindF o (bestL o l) k) ≤ maxLen ((bestL o l).map (·.2)) := by
      by_cases e : behindF o (bestL o l) k = []
      · rw [e]; exact Nat.zero_le _
      · obtain ⟨r, hr, e2⟩ := maxLen_mem e
        rw [← e2]
        apply le_maxLen
        obtain ⟨q, hq, rfl⟩ := List.mem_map.mp hr
        exact List.mem_map_of_mem (List.mem_filter.mp hq).1
    omega
theorem stays_turn {G : Fns} {fl : Nat} {b o pre post : List Txt} {k : Txt} {B : Rows} {r : Nat} {h : Hp} {x5 x6 x7 : Option D} (hr : h[r]? = some (.dic (dB B))) (hf : ¬ r < fl) (hB : B.map (·.1) = post) (hn : (pre ++ k :: post).Nodup) (ho : ∀ x ∈ pre ++ k :: post, x ∈ o) (hz : post.length < 1000) (hw : maxLen (behindF o B k) < 1000) :
    ∃ y5 y6 y7, exs G fl sStays (tE b o (pre ++ k :: post) r (some (.str k)) x5 x6 x7) h = .nx (tE b o (pre ++ k :: post) r (some (.str k)) y5 y6 y7) (h.set r (.dic (dB (stepB o B k)))) := by
  have hBl : B.length = post.length := by rw [← hB, List.length_map]
  have bl := behind_len o B k
  have e1 := ev_behind (G := G) (fl := fl) (b := b) (x5 := x5) (x6 := x6) (x7 := x7) hr hB hn ho
  refine ⟨some (.lst ((behindF o B k).map rD)), some (.int (maxLen (behindF o B k) : Int)), some (.lst (((behindF o B k).filter fun r => r.length == maxLen (behindF o B k)).map rD)), exs_to (ρ1 := tE b o (pre ++ k :: post) r (some (.str k)) (some (.lst ((behindF o B k).map rD))) x6 x7) (h1 := h) (by rw [ex_asgV, e1]; simp) ?_⟩
  have e2 := ev_lens (G := G) (fl := fl) (h := h) (ρ := tE b o (pre ++ k :: post) r (some (.str k)) (some (.lst ((behindF o B k).map rD))) x6 x7) (i := 5) (j := 9) (behindF o B k) rfl (by simp)
  have a2 := addV_nn (h := h) (l := (behindF o B k).map fun r => D.int (r.length : Int)) (r := [.int 0]) (by unfold most; simp; omega)
  refine exs_to (ρ1 := tE b o (pre ++ k :: post) r (some (.str k)) (some (.lst ((behindF o B k).map rD))) (some (.int (maxLen (behindF o B k) : Int))) x7) (h1 := h) (by simp [e2, a2, bMaxL_lens]) ?_
  have e3 := ev_long (G := G) (fl := fl) (h := h) (ρ := tE b o (pre ++ k :: post) r (some (.str k)) (some (.lst ((behindF o B k).map rD))) (some (.int (maxLen (behindF o B k) : Int))) x7) (i := 5) (j := 9) (m := 6) (w := maxLen (behindF o B k)) (behindF o B k) rfl rfl (by simp) (by decide)
  refine exs_to (ρ1 := tE b o (pre ++ k :: post) r (some (.str k)) (some (.lst ((behindF o B k).map rD))) (some (.int (maxLen (behindF o B k) : Int))) (some (.lst (((behindF o B k).filter fun r => r.length == maxLen (behindF o B k)).map rD)))) (h1 := h) (by rw [ex_asgV, e3]; simp) ?_
  have hk : k ∉ B.map (·.1) := by
    rw [hB]
    exact (List.nodup_cons.mp (List.nodup_append.mp hn).2.1).1
  have pk := put_dB (row := k :: firstLong (behindF o B k)) hk
  have ln : (dB B).length < most := by unfold dB most; simp; omega
  have fl1 := firstLong_len (l := behindF o B k)
  have fdef : firstLong (behindF o B k) = ((behindF o B k).filter fun r => r.length == maxLen (behindF o B k)).headD [] := rfl
  have rdc : ∀ row : List Txt, D.lst (.str k :: row.map .str) = rD (k :: row) := fun _ => rfl
  cases hq : (behindF o B k).filter fun r => r.length == maxLen (behindF o B k) with
  | nil =>
    rw [hq] at fdef
    have fdef : firstLong (behindF o B k) = [] := fdef
    rw [fdef] at pk
    have en : eqVl h (.d (.lst [])) (.nls []) = some true := eq_nilL (l := [])
    have a3 := addV_nn (h := h) (l := [.str k]) (r := []) (by unfold most; simp)
    simp only [List.append_nil] at a3
    have rd0 : D.lst [.str k] = rD [k] := rfl
    simp [en, a3, hr, hf, kyOf, ln, rd0, pk, stepB, fdef]
  | cons x t =>
    rw [hq] at fdef
    simp only [List.headD_cons] at fdef
    rw [fdef] at pk
    have en : eqVl h (.d (.lst (rD x :: t.map rD))) (.nls []) = some false := eq_nilL (l := x :: t)
    have sb : subOp h (.d (.lst (rD x :: t.map rD))) (.d (.int 0)) = some (.d (rD x)) := by simp [subOp, atIx]
    have a3 := addV_nl (h := h) (l := [.str k]) (r := x.map .str) (by rw [← fdef]; simp; unfold most; omega)
    have rdx : rD x = .lst (x.map .str) := rfl
    rw [rdx] at en sb
    have pk' : putK (Ky.s k) (D.lst (.str k :: x.map .str)) (dB B) = dB ((k, k :: x) :: B) := pk
    simp only [List.cons_append, List.nil_append] at a3
    simp [en, sb, rdx, a3, hr, hf, kyOf, ln, pk', stepB, fdef]
theorem p_lstays {b o : List Txt} (hb : b.Nodup) (hz : b.length < 900) (n fl : Nat) (h : Hp) : callA (lev P (n + 1)) true 19 [.lst (b.map .str), .lst (o.map .str)] fl h = .ok (.d (.lst ((lawStaysF b o).map .str))) h := by
  obtain ⟨bt, hbt⟩ : ∃ bt, bt = both b o := ⟨_, rfl⟩
  have hnb : bt.Nodup := by rw [hbt]; exact hb.filter _
  have hlb : bt.length < 900 := by rw [hbt]; exact Nat.lt_of_le_of_lt (both_len b o) hz
  have hob : ∀ x ∈ bt, x ∈ o := fun x hx => by
    rw [hbt] at hx
    have := (List.mem_filter.mp hx).2
    simpa using this
  obtain ⟨ρ', h', e, ⟨x4, x5, x6, x7, e1⟩, e2⟩ := for_fold (t := .v 4) (body := fun ρ hh => exs (lev P n) h.length sStays ρ hh) D.str (stepB o)
    (fun B ρ hh => (∃ x4 x5 x6 x7, ρ = tE b o bt h.length x4 x5 x6 x7) ∧ hh = h ++ [.dic (dB B)]) bt.reverse [] (tE b o bt h.length none none none none) (h ++ [.dic []]) ⟨⟨_, _, _, _, rfl⟩, rfl⟩ fun d k r ρ hh q ⟨⟨x4, x5, x6, x7, e1⟩, e2⟩ => by
      subst e1 e2
      have hsp : bt = r.reverse ++ k :: d.reverse := by
        have := congrArg List.reverse q
        simpa using this
      have dl : d.length < 900 := by
        have := congrArg List.length hsp
        simp at this; omega
      have hbe : d.foldl (stepB o) [] = bestL o d.reverse := by
        have := bestL_fold o d.reverse
        rwa [List.reverse_reverse] at this
      rw [hbe]
      have hw : maxLen (behindF o (bestL o d.reverse) k) < 1000 := by
        have := row_len o (k :: d.reverse)
        have e3 : maxLen ((bestL o (k :: d.reverse)).map (·.2)) = max (k :: firstLong (behindF o (bestL o d.reverse) k)).length (maxLen ((bestL o d.reverse).map (·.2))) := rfl
        rw [e3, List.length_cons, firstLong_len] at this
        simp at this
        omega
      obtain ⟨y5, y6, y7, t⟩ := stays_turn (G := lev P n) (fl := h.length) (b := b) (o := o) (pre := r.reverse) (post := d.reverse) (k := k) (B := bestL o d.reverse) (r := h.length) (h := h ++ [.dic (dB (bestL o d.reverse))]) (x5 := x5) (x6 := x6) (x7 := x7) (by simp) (by omega) (bestL_keys o _) (hsp ▸ hnb) (fun x hx => hob x (hsp ▸ hx)) (by simp; omega) hw
      rw [← hsp] at t
      exact ⟨tE b o bt h.length (some (.str k)) x5 x6 x7, by simp [bindT], _, _, .inl t, ⟨_, _, _, _, rfl⟩, by simp⟩
  subst e1 e2
  rw [bestL_fold] at e
  obtain ⟨B, hB⟩ : ∃ B, B = bestL o bt := ⟨_, rfl⟩
  have hkB : B.map (·.1) = bt := by rw [hB]; exact bestL_keys o bt
  have hnB : (B.map (·.1)).Nodup := by rw [hkB]; exact hnb
  rw [← hB] at e
  have hlB : B.length = bt.length := by rw [← hkB, List.length_map]
  obtain ⟨hh, hhh⟩ : ∃ hh : Hp, hh = h ++ [.dic (dB B)] := ⟨_, rfl⟩
  have hr : hh[h.length]? = some (.dic (dB B)) := by rw [hhh]; simp
  rw [← hhh] at e
  have rdn : ∀ r : List Txt, nrN 62 (rD r) = true := fun r => by simp [rD, nrN]
  refine callM_of (d := c_law_stays) (v := .d (rD (lawStaysF b o))) (h' := hh) rfl (run_rt (ρ := [some (.lst (b.map .str)), some (.lst (o.map .str)), none, none, none, none, none, none, none, none]) rfl rfl ?_) ?_
  · refine exs_to (ρ1 := [some (.lst (b.map .str)), some (.lst (o.map .str)), some (.ref h.length), none, none, none, none, none, none, none]) (h1 := h ++ [.dic []]) (by simp) ?_
    have eb := ev_compT (G := lev P n) (fl := h.length) (ρ := [some (.lst (b.map .str)), some (.lst (o.map .str)), some (.ref h.length), none, none, none, none, none, none, none]) (h := h ++ [.dic []]) (h1 := h ++ [.dic []]) (own := [4]) (tg := .v 4) (it := .seq (.var 0)) (cond := some (.cmp .isin (.var 4) (.var 1))) (elt := .var 4) (s := .fix (b.map .str)) D.str (fun x => o.contains x) D.str b (by simp) rfl (fun x hx => by
      by_cases c : x ∈ o <;> simp [turn, bindT, wipe, in_strs, c])
    have : b.filter (fun x => o.contains x) = bt := by rw [hbt]; rfl
    rw [this] at eb
    refine exs_to (ρ1 := tE b o bt h.length none none none none) (h1 := h ++ [.dic []]) (by rw [ex_asgV, eb]; simp) ?_
    refine exs_to ((ex_for (l := bt.reverse.map .str) (h1 := h ++ [.dic []]) (by simp)).trans e) ?_
    have e2 := ev_compM (G := lev P n) (fl := h.length) (ρ := tE b o bt h.length x4 x5 x6 x7) (h := hh) (h1 := hh) (own := [4]) (tg := .v 4) (it := .seq (.var 3)) (cond := none) (elt := .blt .len [(.sub (.var 2) (.var 4))]) (s := .fix (bt.map .str)) D.str (fun x => .int (((B.lookup x).getD []).length : Int)) bt (by simp) rfl (fun x hx => by
      obtain ⟨v, hv⟩ := lookup_some (hkB.symm ▸ hx)
      have s := sub_dB hr hnB hv
      simp [turn, bindT, wipe, s, hv])
    have ml := map_lookup (fun _ r => D.int (r.length : Int)) (fun _ _ => true) B hnB
    rw [List.filter_eq_self.mpr (fun _ _ => rfl), List.filter_eq_self.mpr (fun _ _ => rfl), hkB] at ml
    rw [ml] at e2
    have m2 : B.map (fun q => D.int (q.2.length : Int)) = (B.map (·.2)).map fun r => D.int (r.length : Int) := by rw [List.map_map]; rfl
    rw [m2] at e2
    have a2 := addV_nn (h := hh) (l := (B.map (·.2)).map fun r => D.int (r.length : Int)) (r := [.int 0]) (by unfold most; simp; omega)
    refine exs_to (ρ1 := tE b o bt h.length x4 x5 (some (.int (maxLen (B.map (·.2)) : Int))) x7) (h1 := hh) (by rw [ex_asgV, ev_blt, evV_cons, ev_bin, e2]; simp [a2, bMaxL_lens, -List.map_map]) ?_
    have e3 := ev_compT (G := lev P n) (fl := h.length) (ρ := tE b o bt h.length x4 x5 (some (.int (maxLen (B.map (·.2)) : Int))) x7) (h := hh) (h1 := hh) (own := [4]) (tg := .v 4) (it := .seq (.var 3)) (cond := some (.cmp .eq (.blt .len [(.sub (.var 2) (.var 4))]) (.var 6))) (elt := .sub (.var 2) (.var 4)) (s := .fix (bt.map .str)) D.str (fun x => ((B.lookup x).getD []).length == maxLen (B.map (·.2))) (fun x => rD ((B.lookup x).getD [])) bt (by simp) rfl (fun x hx => by
      obtain ⟨v, hv⟩ := lookup_some (hkB.symm ▸ hx)
      have s := sub_dB hr hnB hv
      by_cases c : v.length = maxLen (B.map (·.2))
      · simp [turn, bindT, wipe, s, hv, c, rD]
      · have c' : ¬ (v.length : Int) = (maxLen (B.map (·.2)) : Int) := by omega
        simp [turn, bindT, wipe, s, hv, c, c', rD])
    have m3 := map_lookup (fun _ r => rD r) (fun _ r => r.length == maxLen (B.map (·.2))) B hnB
    rw [hkB] at m3
    rw [m3] at e3
    have m4 : (B.filter fun q => q.2.length == maxLen (B.map (·.2))).map (fun q => rD q.2) = ((B.map (·.2)).filter fun r => r.length == maxLen (B.map (·.2))).map rD := by
      rw [List.filter_map, List.map_map]; rfl
    rw [m4] at e3
    obtain ⟨L, hL⟩ : ∃ L, L = (B.map (·.2)).filter fun r => r.length == maxLen (B.map (·.2)) := ⟨_, rfl⟩
    rw [← hL] at e3
    have Ll : L.length ≤ 900 := by
      rw [hL]
      refine Nat.le_trans (List.length_filter_le _ _) ?_
      simp; omega
    have a3 := addV_nn (h := hh) (l := L.map rD) (r := [.lst []]) (by unfold most; simp; omega)
    have s3 : subOp hh (.nls (L.map rD ++ [.lst []])) (.d (.int 0)) = some (.d (rD (lawStaysF b o))) := by
      have : lawStaysF b o = L.headD [] := by unfold lawStaysF firstLong; rw [← hbt, ← hB, hL]
      rw [this]
      cases L with
      | nil => rfl
      | cons x t => simp [subOp, atIx]
    rw [exs_cons, ex_ret, ev_sub, ev_bin, e3]
    simp [a3, s3]
  · simp [outV, rD, nrN]
end Cd
end
section
set_option linter.all false
set_option maxRecDepth 100000
set_option maxHeartbeats 1000000
namespace MP
@[simp] theorem ex_asgT {G : Fns} {fl : Nat} {ρ : Env} {h : Hp} {al : Bool} {ts : List Tg} {e : Ex} : ex G fl (.asg al (.t ts) e) ρ h = (ev G fl e ρ h).st ρ fun v h => match seqOf h v with
      | some l => match bindTs h ts l ρ with
        | some ρ' => .nx ρ' h
        | none => .err
      | none => .err := by first | (rw [ex]; done) | (rw [ex]; rfl)
mutual
theorem eqD_self : ∀ (d : D) (k : Nat), nrN k d = true → eqD d d = true
  | .non, _, _ => by simp [eqD]
  | .bl b, _, _ => by simp [eqD]
  | .int i, _, _ => by simp [eqD]
  | .str s, _, _ => by simp [eqD]
  | .tup l, k, h => by
    cases k with
    | zero => simp [nrN] at h
    | succ k => simp only [nrN] at h; simp only [eqD]; exact eqL_self l k h
  | .ltp l, k, h => by
    cases k with
    | zero => simp [nrN] at h
    | succ k => simp only [nrN] at h; simp only [eqD]; exact eqL_self l k h
  | .lst l, k, h => by
    cases k with
    | zero => simp [nrN] at h
    | succ k => simp only [nrN] at h; simp only [eqD]; exact eqL_self l k h
  | .ctp l, k, h => by simp [nrN] at h
  | .ref n, k, h => by simp [nrN] at h
theorem eqL_self : ∀ (l : List D) (k : Nat), nrL k l = true → eqL l l = true
  | [], _, _ => by simp [eqL]
  | d :: l, k, h => by
    simp only [nrL, Bool.and_eq_true] at h
    simp only [eqL, Bool.and_eq_true]
    exact ⟨eqD_self d k h.1, eqL_self l k h.2⟩
end
theorem nrL_app (k : Nat) : ∀ (l r : List D), nrL k (l ++ r) = (nrL k l && nrL k r)
  | [], r => by simp [nrL]
  | d :: l, r => by simp [nrL, nrL_app k l r, Bool.and_assoc]
theorem enumD_map {α : Type} (f : α → D) (l : List α) : enumD (l.map f) = l.zipIdx.map fun p => D.ltp [.int (p.2 : Int), f p.1] := by
  unfold enumD
  apply List.ext_getElem
  · simp
  · intro i h1 h2
    simp
theorem bGet_dK {h : Hp} {n : Nat} {l : List (Ky × D)} (e : h[n]? = some (.dic l)) (k : Txt) (x : D) : bGet h [.d (.ref n), .d (.str k), .d x] = some (.d ((lookK (.s k) l).getD x), h) := by
  simp only [bGet, dicOf, e, kyOf, keep]
  cases lookK (.s k) l <;> rfl
end MP
namespace Cd
open MP
/-! ### plain: a list against itself -/
def tails : List Txt → List (List Txt)
  | [] => []
  | k :: l => (k :: l) :: tails l
theorem tails_max : ∀ l, maxLen (tails l) = l.length
  | [] => rfl
  | k :: l => by
    show max (k :: l).length (maxLen (tails l)) = _
    rw [tails_max l]
    simp
theorem tails_first (l : List Txt) : firstLong (tails l) = l := by
  unfold firstLong
  rw [tails_max]
  cases l with
  | nil => rfl
  | cons k l => simp [tails]
theorem best_inc (o : List Txt) : ∀ l : List Txt, l.Pairwise (fun a b => o.idxOf a < o.idxOf b) → (bestL o l).map (·.2) = tails l
  | [], _ => rfl
  | k :: l, h => by
    obtain ⟨h1, h2⟩ := List.pairwise_cons.mp h
    have ih := best_inc o l h2
    have e : behindF o (bestL o l) k = tails l := by
      unfold behindF
      rw [List.filter_eq_self.mpr, ih]
      intro q hq
      have : q.1 ∈ l := by
        rw [← bestL_keys o l]
        exact List.mem_map_of_mem hq
      simpa using h1 _ this
    simp only [bestL, stepB, List.map_cons, e, tails_first, ih, tails]
theorem idx_inc : ∀ (pre l : List Txt), (pre ++ l).Nodup → l.Pairwise (fun a b => (pre ++ l).idxOf a < (pre ++ l).idxOf b)
  | pre, [], _ => .nil
  | pre, k :: l, h => by
    have e : pre ++ k :: l = (pre ++ [k]) ++ l := by simp
    have ih := idx_inc (pre ++ [k]) l (e ▸ h)
    rw [← e] at ih
    refine .cons (fun b hb => ?_) ih
    have hd := List.nodup_append.mp h
    have hkp : k ∉ pre := fun q => hd.2.2 k q k (by simp) rfl
    have hbp : b ∉ pre := fun q => hd.2.2 b q b (by simp [hb]) rfl
    have hkl := (List.nodup_cons.mp hd.2.1).1
    have hbk : b ≠ k := fun q => hkl (q ▸ hb)
    rw [List.idxOf_append, if_neg hkp, List.idxOf_append, if_neg hbp, List.idxOf_cons_self, List.idxOf_cons, beq_eq_false_iff_ne.mpr (Ne.symm hbk)]
    simp
theorem stays_self {k : List Txt} (h : k.Nodup) : staysF k k = k := by
  rw [stays_eq]
  unfold lawStaysF
  have : both k k = k := by
    unfold both
    rw [List.filter_eq_self]
    intro x hx
    simpa using hx
  rw [this, best_inc k k (idx_inc [] k h), tails_first]
theorem lookup_nodup : ∀ {l : List (Txt × Int)}, (ks l).Nodup → ∀ p ∈ l, l.lookup p.1 = some p.2
  | (k, v) :: l, h, p, hp => by
    have h' := List.nodup_cons.mp h
    rcases List.mem_cons.mp hp with e | e
    · subst e; simp
    · have : p.1 ∈ ks l := List.mem_map_of_mem e
      have ne : p.1 ≠ k := fun q => h'.1 (q ▸ this)
      rw [List.lookup_cons, beq_eq_false_iff_ne.mpr ne]
      exact lookup_nodup h'.2 p e
theorem midAll_nil {l r : List (Txt × Int)} {mv : List Txt} : ∀ (t : List (Txt × Int)) (i : Nat), (∀ p ∈ t, p.1 ∈ ks l ∧ p.1 ∉ mv) → midAll l r mv i t = []
  | [], _, _ => rfl
  | p :: t, i, h => by
    have h1 := h p List.mem_cons_self
    have h2 := midAll_nil (l := l) (r := r) (mv := mv) t (i + 1) fun q hq => h q (List.mem_cons_of_mem _ hq)
    simp [midAll, midF, h1.1, h1.2, h2]
theorem deeds_self {l : List (Txt × Int)} (h : (ks l).Nodup) : deedsF l l = [] := by
  unfold deedsF
  have e1 : strikesF l l = [] := by
    unfold strikesF
    rw [List.map_eq_nil_iff, List.filter_eq_nil_iff]
    intro x hx
    simpa using hx
  have e2 : midAll l l (movedF (ks l) (ks l)) 0 l = [] := midAll_nil l 0 fun p hp => by
    have : p.1 ∈ ks l := List.mem_map_of_mem hp
    refine ⟨this, fun q => ?_⟩
    have := (List.mem_filter.mp q).2
    rw [stays_self h] at this
    simp at this
  have e3 : changesF l l = [] := by
    unfold changesF
    rw [List.map_eq_nil_iff, List.filter_eq_nil_iff]
    intro p hp
    unfold chB
    rw [lookup_nodup h p hp]
    simp
  rw [e1, e2, e3]; rfl
end Cd
end
section
set_option linter.all false
set_option maxRecDepth 100000
set_option maxHeartbeats 1000000
namespace MP
@[simp] theorem eqVl_bl {h : Hp} (a b : Bool) : eqVl h (.d (.bl a)) (.d (.bl b)) = some (a == b) := by simp [eqVl, dataOf, nrN, eqD]
@[simp] theorem cmpOp_isn {h : Hp} (a : Vl) : cmpOp h .isn a (.d .non) = some (isNon a) := by simp [cmpOp, isNon]
@[simp] theorem cmpOp_notn {h : Hp} (a : Vl) : cmpOp h .notn a (.d .non) = some (!isNon a) := by simp [cmpOp, isNon]
@[simp] theorem isNon_non : isNon (.d .non) = true := rfl
@[simp] theorem isNon_str (t : Txt) : isNon (.d (.str t)) = false := rfl
@[simp] theorem isiV_int {h : Hp} (t : Ty) (i : Int) : isiV h t (.d (.int i)) = some (match t with | .int => true | _ => false) := rfl
@[simp] theorem isiV_str {h : Hp} (t : Ty) (i : Txt) : isiV h t (.d (.str i)) = some (match t with | .str => true | _ => false) := rfl
@[simp] theorem isiV_tup {h : Hp} (t : Ty) (i : List D) : isiV h t (.d (.tup i)) = some (match t with | .tuple => true | _ => false) := rfl
@[simp] theorem isiV_lst {h : Hp} (t : Ty) (i : List D) : isiV h t (.d (.lst i)) = some (match t with | .list => true | _ => false) := rfl
@[simp] theorem isiV_nls {h : Hp} (t : Ty) (i : List D) : isiV h t (.nls i) = some (match t with | .list => true | _ => false) := rfl
@[simp] theorem isiV_non {h : Hp} (t : Ty) : isiV h t (.d .non) = some false := rfl
@[simp] theorem isiV_bl {h : Hp} (t : Ty) (b : Bool) : isiV h t (.d (.bl b)) = some (match t with | .int => true | .bool => true | _ => false) := rfl
@[simp] theorem bTab_at {h : Hp} (kvs : List (Txt × Int)) (k : Txt) (x : Int) : bTab kvs h [.d (.str k), .d (.int x)] = some (.d (.int ((kvs.lookup k).getD x)), h) := rfl
@[simp] theorem ex_rai {G : Fns} {fl : Nat} {ρ : Env} {h : Hp} {c : Nat} : ex G fl (.rai c) ρ h = .exc c ρ h := by first | (rw [ex]; done) | (rw [ex]; rfl)
@[simp] theorem ex_retN {G : Fns} {fl : Nat} {ρ : Env} {h : Hp} : ex G fl .retN ρ h = .rt (.d .non) h := by first | (rw [ex]; done) | (rw [ex]; rfl)
@[simp] theorem sub_m2 {h : Hp} (a b : D) : subOp h (.d (.tup [a, b])) (.d (.int (-1))) = some (.d b) := by simp [subOp, atIx]
@[simp] theorem sub_m3 {h : Hp} (a b c : D) : subOp h (.d (.tup [a, b, c])) (.d (.int (-1))) = some (.d c) := by simp [subOp, atIx]
@[simp] theorem sub_m4 {h : Hp} (a b c d : D) : subOp h (.d (.tup [a, b, c, d])) (.d (.int (-1))) = some (.d d) := by simp [subOp, atIx]
/-- among texts that are written -/
theorem in_tup (h : Hp) (x : Txt) (l : List Txt) : inOp h (.d (.str x)) (.d (.tup (l.map .str))) = some (l.contains x) := by
  simp [inOp, seqOf, dataOf, nrN, hasD_strs]
theorem in_tup2 (h : Hp) (x a b : Txt) : inOp h (.d (.str x)) (.d (.tup [.str a, .str b])) = some ([a, b].contains x) := in_tup h x [a, b]
theorem run_exc {G : Fns} {d : Def} {as : List D} {fl : Nat} {ρ ρ' : Env} {h h' : Hp} {c : Nat} (hl : as.length = d.params) (hs : start d.names as = ρ) (he : exs G fl d.body ρ h = .exc c ρ' h') : runDef G d as fl h = .exc c h' := by
  unfold runDef
  rw [if_pos hl, hs, he]
theorem exs_stop {G : Fns} {fl : Nat} {s : Stm} {r : List Stm} {ρ ρ1 : Env} {h h1 : Hp} {c : Nat} (a : ex G fl s ρ h = .exc c ρ1 h1) : exs G fl (s :: r) ρ h = .exc c ρ1 h1 := by
  rw [exs_cons, a]; rfl
theorem exs_rt {G : Fns} {fl : Nat} {s : Stm} {r : List Stm} {ρ : Env} {h h1 : Hp} {v : Vl} (a : ex G fl s ρ h = .rt v h1) : exs G fl (s :: r) ρ h = .rt v h1 := by
  rw [exs_cons, a]; rfl
/-- a loop whose turns may raise -/
theorem for_foldMA {α σ : Type} {t : Tg} {body : Env → Hp → RS} (enc : α → D) (stp : σ → α → Option σ) (c : Nat) (s0 : σ) (Rl : σ → Env → Hp → Prop) : ∀ (xs d : List α) (s : σ) (ρ : Env) (h : Hp), d.foldlM stp s0 = some s → Rl s ρ h →
    (∀ d' x r s ρ h, d ++ xs = d' ++ x :: r → d'.foldlM stp s0 = some s → Rl s ρ h → ∃ ρ1, bindT h t (enc x) ρ = some ρ1 ∧ ∃ ρ2 h2, match stp s x with | some s' => body ρ1 h = .nx ρ2 h2 ∧ Rl s' ρ2 h2 | none => body ρ1 h = .exc c ρ2 h2) →
    ∃ ρ' h', match xs.foldlM stp s with | some s' => forFix t body (xs.map enc) ρ h = .nx ρ' h' ∧ Rl s' ρ' h' | none => forFix t body (xs.map enc) ρ h = .exc c ρ' h'
  | [], d, s, ρ, h, _, p, _ => ⟨ρ, h, rfl, p⟩
  | x :: l, d, s, ρ, h, ed, p, st => by
    obtain ⟨ρ1, b, ρ2, h2, e⟩ := st d x l s ρ h rfl ed p
    rw [List.foldlM_cons]
    cases q : stp s x with
    | none =>
      rw [q] at e
      refine ⟨ρ2, h2, ?_⟩
      show forFix t body ((x :: l).map enc) ρ h = _
      rw [List.map_cons]
      unfold forFix
      rw [b]
      simp only [e]
      rfl
    | some s' =>
      rw [q] at e
      have ed' : (d ++ [x]).foldlM stp s0 = some s' := by
        rw [List.foldlM_append, ed]
        show [x].foldlM stp s = some s'
        rw [List.foldlM_cons, q]
        rfl
      obtain ⟨ρ', h', e'⟩ := for_foldMA enc stp c s0 Rl l (d ++ [x]) s' ρ2 h2 ed' e.2 fun d' y r s ρ h z => st d' y r s ρ h (by simpa using z)
      refine ⟨ρ', h', ?_⟩
      have ff : forFix t body ((x :: l).map enc) ρ h = forFix t body (l.map enc) ρ2 h2 := by
        rw [List.map_cons]
        conv => lhs; unfold forFix
        rw [b]
        simp only [e.1]
        rfl
      show match l.foldlM stp s' with | some s' => forFix t body ((x :: l).map enc) ρ h = .nx ρ' h' ∧ Rl s' ρ' h' | none => forFix t body ((x :: l).map enc) ρ h = .exc c ρ' h'
      rw [ff]
      exact e'
theorem for_foldM {α σ : Type} {t : Tg} {body : Env → Hp → RS} (enc : α → D) (stp : σ → α → Option σ) (c : Nat) (Rl : σ → Env → Hp → Prop) (xs : List α) (s0 : σ) (ρ : Env) (h : Hp) (h0 : Rl s0 ρ h)
    (hs : ∀ d x r s ρ h, xs = d ++ x :: r → d.foldlM stp s0 = some s → Rl s ρ h → ∃ ρ1, bindT h t (enc x) ρ = some ρ1 ∧ ∃ ρ2 h2, match stp s x with | some s' => body ρ1 h = .nx ρ2 h2 ∧ Rl s' ρ2 h2 | none => body ρ1 h = .exc c ρ2 h2) :
    ∃ ρ' h', match xs.foldlM stp s0 with | some s' => forFix t body (xs.map enc) ρ h = .nx ρ' h' ∧ Rl s' ρ' h' | none => forFix t body (xs.map enc) ρ h = .exc c ρ' h' :=
  for_foldMA enc stp c s0 Rl xs [] s0 ρ h rfl h0 (by simpa using hs)
end MP
namespace Cd
open MP
variable {P : Nat → Option Def} [Ext P]
theorem callM_exc {n f : Nat} {d : Def} {as : List D} {fl : Nat} {h h' : Hp} {c : Nat} (hP : prog f = some d) (hr : runDef (lev P n) d as h.length h = .exc c h') : callA (lev P (n + 1)) true f as fl h = .exc c h := by
  unfold callA callP
  rw [if_pos rfl, lev_call (Ext.ext f d hP), hr]
/-! ### deeds -/
inductive Deed where
  | strike (k : Txt)
  | put (k : Txt) (v : Int) (b : Option Txt)
  | move (k : Txt) (b : Option Txt)
  | change (k : Txt) (v : Int)
deriving DecidableEq
def bD : Option Txt → D
  | none => .non
  | some t => .str t
def dD : Deed → D
  | .strike k => .tup [.str strikeT, .str k]
  | .put k v b => .tup [.str putT, .str k, .int v, bD b]
  | .move k b => .tup [.str moveT, .str k, bD b]
  | .change k v => .tup [.str changeT, .str k, .int v]
def goodB : Option Txt → Prop
  | none => True
  | some t => goodKey t
def GoodD : Deed → Prop
  | .strike k => goodKey k
  | .put k v b => goodKey k ∧ (0 ≤ v ∧ v ≤ 999) ∧ goodB b
  | .move k b => goodKey k ∧ goodB b
  | .change k v => goodKey k ∧ 0 ≤ v ∧ v ≤ 999
abbrev sizesK : List (Txt × Int) := [([115, 116, 114, 105, 107, 101], 2), ([112, 117, 116], 4), ([109, 111, 118, 101], 3), ([99, 104, 97, 110, 103, 101], 3)]
theorem sz_strike : sizesK.lookup strikeT = some 2 := by decide
theorem sz_put : sizesK.lookup putT = some 4 := by decide
theorem sz_move : sizesK.lookup moveT = some 3 := by decide
theorem sz_change : sizesK.lookup changeT = some 3 := by decide
theorem p_is_deed {d : Deed} (g : GoodD d) (n fl : Nat) (h : Hp) : callA (lev P (n + 2)) true 41 [dD d] fl h = .ok (.d (.bl true)) h := by
  refine callM_of (d := c_is_deed_AT_changes) (v := .d (.bl true)) (h' := h) rfl (run_rt (ρ := [some (dD d)]) rfl rfl ?_) rfl
  have in1 : ∀ x y z : Txt, ([x, y].contains z) = (decide (z = x) || decide (z = y)) := fun x y z => by simp [List.contains_cons]
  have in2 : (strikeT = [112, 117, 116]) = False ∧ (strikeT = [109, 111, 118, 101]) = False ∧ (strikeT = [99, 104, 97, 110, 103, 101]) = False ∧ (putT = [112, 117, 116]) = True ∧ (moveT = [112, 117, 116]) = False ∧ (moveT = [109, 111, 118, 101]) = True ∧ (moveT = [99, 104, 97, 110, 103, 101]) = False ∧ (changeT = [112, 117, 116]) = False ∧ (changeT = [109, 111, 118, 101]) = False ∧ (changeT = [99, 104, 97, 110, 103, 101]) = True := by decide
  cases d with
  | strike k =>
    have k1 := p_is_key (P := P) (show goodKey k from g) n h.length h
    simp [c_is_deed_AT_changes, dD, sz_strike, k1, in_tup2, in1, in2]
  | put k v b =>
    obtain ⟨g1, g2, g3⟩ := g
    have k1 := p_is_key (P := P) g1 n h.length h
    cases b with
    | none => simp [c_is_deed_AT_changes, dD, sz_put, k1, in_tup2, in1, in2, bD, p_is_within, g2]
    | some t =>
      have k2 := p_is_key (P := P) (show goodKey t from g3) n h.length h
      simp [c_is_deed_AT_changes, dD, sz_put, k1, k2, in_tup2, in1, in2, bD, p_is_within, g2]
  | move k b =>
    obtain ⟨g1, g3⟩ := g
    have k1 := p_is_key (P := P) g1 n h.length h
    cases b with
    | none => simp [c_is_deed_AT_changes, dD, sz_move, k1, in_tup2, in1, in2, bD]
    | some t =>
      have k2 := p_is_key (P := P) (show goodKey t from g3) n h.length h
      simp [c_is_deed_AT_changes, dD, sz_move, k1, k2, in_tup2, in1, in2, bD]
  | change k v =>
    obtain ⟨g1, g2⟩ := g
    have k1 := p_is_key (P := P) g1 n h.length h
    simp [c_is_deed_AT_changes, dD, sz_change, k1, in_tup2, in1, in2, p_is_within, g2]
end Cd
end
section
set_option linter.all false
set_option maxRecDepth 100000
set_option maxHeartbeats 1000000
namespace Cd
open MP
variable {P : Nat → Option Def} [Ext P]
theorem p_keys_ofR {l : Things} {r : Nat} {h : Hp} (hr : h[r]? = some (.lst (l.map tD))) (n fl : Nat) : callA (lev P (n + 1)) true 5 [.ref r] fl h = .ok (.nls ((ks l).map .str)) h := by
  have hc := ev_compM (G := lev P n) (fl := h.length) (ρ := [some (.ref r), none, none]) (own := [1, 2]) (tg := .t [.v 1, .v 2]) (it := .seq (.var 0)) (cond := none) (elt := .var 1) (h1 := h) (h := h) (s := .live r (l.map tD).length) tD (fun p => .str p.1) l (by simp [hr]) ⟨hr, rfl⟩ (fun p hp => by simp [turn, tD, bindT, bindTs, wipe])
  have hm : l.map (fun p => D.str p.1) = (ks l).map .str := by simp [ks]
  rw [hm] at hc
  refine callM_of (d := c_keys_of) (v := .nls ((ks l).map .str)) (h' := h) rfl (run_rt rfl rfl ?_) ?_
  · simp [c_keys_of, start, hc]
  · simp [outV, nrN]
def putBehindF (row : Things) (p : Txt × Int) : Option Txt → Option Things
  | none => some (insertAt row 0 p)
  | some k => if k ∈ ks row then some (insertAt row ((ks row).idxOf k + 1) p) else none
def doneF (row : Things) : Deed → Option Things
  | .put k v b => if k ∈ ks row then none else putBehindF row (k, v) b
  | .strike k => if k ∈ ks row then some (row.eraseIdx ((ks row).idxOf k)) else none
  | .change k v => if k ∈ ks row then some (row.set ((ks row).idxOf k) (k, v)) else none
  | .move k b => if k ∈ ks row then putBehindF (row.eraseIdx ((ks row).idxOf k)) (row.getD ((ks row).idxOf k) ([], 0)) b else none
theorem idx_lt {l : List Txt} {k : Txt} (h : k ∈ l) : l.idxOf k < l.length := List.idxOf_lt_length_of_mem h
theorem c_putB {row : Things} {p : Txt × Int} {b : Option Txt} {r n fl : Nat} {h : Hp} (hr : h[r]? = some (.lst (row.map tD))) (hf : ¬ r < fl) (hz : row.length ≤ 1000) :
    callA (lev P (n + 2)) false 42 [.ref r, tD p, bD b] fl h = match putBehindF row p b with | some row' => .ok (.d (.bl true)) (h.set r (.lst (row'.map tD))) | none => .ok (.d (.bl false)) h := by
  have k1 := p_keys_ofR (P := P) hr n fl
  cases b with
  | none =>
    have ins := insert_things (p := p) (i := 0) hr hf hz (by decide) (by omega)
    show callA (lev P (n + 2)) false 42 [.ref r, tD p, .non] fl h = .ok (.d (.bl true)) (h.set r (.lst ((insertAt row 0 p).map tD)))
    refine callI_of (d := c_put_behind) rfl (run_rt (ρ := [some (.ref r), some (tD p), some .non, none]) rfl rfl ?_)
    simp [c_put_behind, k1, hr, ins]
  | some k =>
    by_cases c : k ∈ ks row
    · have il := idx_lt c
      rw [ks_len] at il
      have ins := insert_things (p := p) (i := ((ks row).idxOf k : Int) + 1) hr hf hz (by omega) (by omega)
      rw [show (((ks row).idxOf k : Int) + 1).toNat = (ks row).idxOf k + 1 by omega] at ins
      simp only [putBehindF, if_pos c]
      refine callI_of (d := c_put_behind) rfl (run_rt (ρ := [some (.ref r), some (tD p), some (.str k), none]) rfl rfl ?_)
      simp [c_put_behind, k1, hr, ins, in_strs, c, bIndex_strs c]
    · simp only [putBehindF, if_neg c]
      refine callI_of (d := c_put_behind) rfl (run_rt (ρ := [some (.ref r), some (tD p), some (.str k), none]) rfl rfl ?_)
      simp [c_put_behind, k1, hr, in_strs, c]
abbrev sDone2 : List Stm := [
  (.asg false (.v 3) (.mth .index (.var 2) [(.sub (.var 1) (.cst (.int 1)))])),
  (.ifs (.cmp .eq (.sub (.var 1) (.cst (.int 0))) (.cst (.str [99, 104, 97, 110, 103, 101]))) [(.setI (.var 0) (.var 3) (.tup [(.sub (.var 1) (.cst (.int 1))), (.sub (.var 1) (.cst (.int 2)))])), (.ret (.cst (.bl true)))] []),
  (.asg false (.v 4) (.mth .popAt (.var 0) [(.var 3)])),
  (.ret (.or (.cmp .eq (.sub (.var 1) (.cst (.int 0))) (.cst (.str [115, 116, 114, 105, 107, 101]))) (.call false 42 [(.var 0), (.var 4), (.sub (.var 1) (.cst (.int 2)))])))]
theorem wordsNe : (strikeT = [112, 117, 116]) = False ∧ (strikeT = [115, 116, 114, 105, 107, 101]) = True ∧ (strikeT = [99, 104, 97, 110, 103, 101]) = False ∧ (putT = [112, 117, 116]) = True ∧ (moveT = [112, 117, 116]) = False ∧ (moveT = [115, 116, 114, 105, 107, 101]) = False ∧ (moveT = [99, 104, 97, 110, 103, 101]) = False ∧ (changeT = [112, 117, 116]) = False ∧ (changeT = [115, 116, 114, 105, 107, 101]) = False ∧ (changeT = [99, 104, 97, 110, 103, 101]) = True := by decide
theorem c_doneD {row : Things} {d : Deed} {r n fl : Nat} {h : Hp} (hr : h[r]? = some (.lst (row.map tD))) (hf : ¬ r < fl) (hz : row.length ≤ 1000) :
    match doneF row d with | some row' => callA (lev P (n + 3)) false 43 [.ref r, dD d] fl h = .ok (.d (.bl true)) (h.set r (.lst (row'.map tD))) | none => ∃ h', callA (lev P (n + 3)) false 43 [.ref r, dD d] fl h = .ok (.d (.bl false)) h' := by
  have k1 := p_keys_ofR (P := P) hr (n + 1) fl
  have hlt : r < h.length := (List.getElem?_eq_some_iff.mp hr).1
  have wn := wordsNe
  have same : ∀ k v, tD (k, v) = D.tup [.str k, .int v] := fun _ _ => rfl
  have notin : ∀ (k : Txt) (dd : D), (k ∉ ks row) → (∃ w rest, w ≠ putT ∧ dd = D.tup (.str w :: .str k :: rest)) → callA (lev P (n + 3)) false 43 [.ref r, dd] fl h = .ok (.d (.bl false)) h := fun k dd c ⟨w, rest, hw, e⟩ => by
    subst e
    refine callI_of (d := c_done) rfl (run_rt (ρ := [some (.ref r), some (.tup (.str w :: .str k :: rest)), none, none, none]) rfl rfl ?_)
    have hw' : ¬ w = [112, 117, 116] := hw
    simp [c_done, k1, in_strs, c, hw']
  cases d with
  | put k v b =>
    by_cases c : k ∈ ks row
    · simp only [doneF, if_pos c]
      refine ⟨h, callI_of (d := c_done) rfl (run_rt (ρ := [some (.ref r), some (dD (.put k v b)), none, none, none]) rfl rfl ?_)⟩
      simp [c_done, k1, dD, in_strs, c, wn]
    · simp only [doneF, if_neg c]
      have pb := c_putB (P := P) (p := (k, v)) (b := b) (n := n) hr hf hz
      rw [same] at pb
      cases q : putBehindF row (k, v) b with
      | none =>
        rw [q] at pb
        refine ⟨h, callI_of (d := c_done) rfl (run_rt (ρ := [some (.ref r), some (dD (.put k v b)), none, none, none]) rfl rfl ?_)⟩
        simp [c_done, k1, dD, in_strs, c, wn, pb]
      | some row' =>
        rw [q] at pb
        refine callI_of (d := c_done) rfl (run_rt (ρ := [some (.ref r), some (dD (.put k v b)), none, none, none]) rfl rfl ?_)
        simp [c_done, k1, dD, in_strs, c, wn, pb]
  | strike k =>
    by_cases c : k ∈ ks row
    · simp only [doneF, if_pos c]
      have il := idx_lt c
      rw [ks_len] at il
      have pop := popAt_things (i := ((ks row).idxOf k : Int)) hr hf hz (by omega) (by omega)
      rw [Int.toNat_natCast] at pop
      refine callI_of (d := c_done) rfl (run_rt (ρ := [some (.ref r), some (dD (.strike k)), none, none, none]) rfl rfl ?_)
      simp [c_done, k1, dD, in_strs, c, wn, bIndex_strs c, hr, pop]
    · simp only [doneF, if_neg c]
      exact ⟨h, notin k _ c ⟨strikeT, _, by decide, rfl⟩⟩
  | change k v =>
    by_cases c : k ∈ ks row
    · simp only [doneF, if_pos c]
      have il := idx_lt c
      rw [ks_len] at il
      have ai : atIx row.length ((ks row).idxOf k : Int) = some ((ks row).idxOf k) := atIx_nat il
      refine callI_of (d := c_done) rfl (run_rt (ρ := [some (.ref r), some (dD (.change k v)), none, none, none]) rfl rfl ?_)
      simp [c_done, k1, dD, in_strs, c, wn, bIndex_strs c, hr, hf, ai, List.map_set, same]
    · simp only [doneF, if_neg c]
      exact ⟨h, notin k _ c ⟨changeT, _, by decide, rfl⟩⟩
  | move k b =>
    by_cases c : k ∈ ks row
    · simp only [doneF, if_pos c]
      have il := idx_lt c
      rw [ks_len] at il
      have pop := popAt_things (i := ((ks row).idxOf k : Int)) hr hf hz (by omega) (by omega)
      rw [Int.toNat_natCast] at pop
      have hr2 : (h.set r (.lst ((row.eraseIdx ((ks row).idxOf k)).map tD)))[r]? = some (.lst ((row.eraseIdx ((ks row).idxOf k)).map tD)) := by simp [hlt]
      have lz : (row.eraseIdx ((ks row).idxOf k)).length ≤ 1000 := by have := (List.eraseIdx_sublist row ((ks row).idxOf k)).length_le; omega
      have pb := c_putB (P := P) (p := row.getD ((ks row).idxOf k) ([], 0)) (b := b) (n := n) hr2 hf lz
      obtain ⟨row2, h2⟩ : ∃ row2, row2 = row.eraseIdx ((ks row).idxOf k) := ⟨_, rfl⟩
      obtain ⟨p2, hp2⟩ : ∃ p2, p2 = row.getD ((ks row).idxOf k) ([], 0) := ⟨_, rfl⟩
      rw [← h2, ← hp2] at pb pop ⊢
      cases q : putBehindF row2 p2 b with
      | none =>
        rw [q] at pb
        refine ⟨h.set r (.lst (row2.map tD)), callI_of (d := c_done) rfl (run_rt (ρ := [some (.ref r), some (dD (.move k b)), none, none, none]) rfl rfl ?_)⟩
        simp [c_done, k1, dD, in_strs, c, wn, bIndex_strs c, hr, pop, pb]
      | some row' =>
        rw [q] at pb
        refine callI_of (d := c_done) rfl (run_rt (ρ := [some (.ref r), some (dD (.move k b)), none, none, none]) rfl rfl ?_)
        simp [c_done, k1, dD, in_strs, c, wn, bIndex_strs c, hr, pop, pb]
    · simp only [doneF, if_neg c]
      exact ⟨h, notin k _ c ⟨moveT, _, by decide, rfl⟩⟩
end Cd
end
section
set_option linter.all false
set_option maxRecDepth 100000
set_option maxHeartbeats 1000000
namespace Cd
open MP
variable {P : Nat → Option Def} [Ext P]
/-- is_list of things whose keys are unlike, however many -/
theorem p_is_listN {m : Nat} {l : Things} (g : GoodN m l) (n fl : Nat) (h : Hp) : callA (lev P (n + 2)) true 3 [.tup (l.map tD)] fl h = .ok (.d (.bl (decide (l.length ≤ 16)))) h := by
  by_cases c : l.length ≤ 16
  · rw [decide_eq_true c]
    exact p_is_list ⟨c, g.key, g.val, g.nd⟩ n fl h
  · rw [decide_eq_false c]
    refine callM_of (d := c_is_list) (v := .d (.bl false)) (h' := h) rfl (run_rt (ρ := [some (.tup (l.map tD)), none, none, none]) rfl rfl (exs_rt ?_)) rfl
    have c' : (16 : Int) < (l.length : Int) := by omega
    simp [c']
theorem GoodN.insert {m : Nat} {l : Things} (g : GoodN m l) (i : Nat) {p : Txt × Int} (h1 : goodKey p.1) (h2 : 0 ≤ p.2 ∧ p.2 ≤ 999) (h3 : p.1 ∉ ks l) : GoodN (m + 1) (insertAt l i p) := (g.cons h1 h2 h3).perm (perm_insertAt _ _ _)
theorem ks_erase (l : Things) (i : Nat) : ks (l.eraseIdx i) = (ks l).eraseIdx i := by unfold ks; rw [map_eraseIdx]
theorem erase_notin {l : List Txt} (h : l.Nodup) {k : Txt} : k ∉ l.eraseIdx (l.idxOf k) := by
  induction l with
  | nil => simp
  | cons x l ih =>
    have h' := List.nodup_cons.mp h
    by_cases e : x = k
    · subst e; simpa using h'.1
    · rw [List.idxOf_cons, beq_eq_false_iff_ne.mpr e]
      simp only [Bool.cond_false, List.eraseIdx_cons_succ, List.mem_cons, not_or]
      exact ⟨Ne.symm e, ih h'.2⟩
theorem getD_key {l : Things} {k : Txt} (h : k ∈ ks l) : (l.getD ((ks l).idxOf k) ([], 0)).1 = k ∧ l.getD ((ks l).idxOf k) ([], 0) ∈ l := by
  have il := idx_lt h
  have il2 : (ks l).idxOf k < l.length := by rwa [ks_len] at il
  have e : l.getD ((ks l).idxOf k) ([], 0) = l[(ks l).idxOf k] := by simp [List.getD_eq_getElem?_getD, il2]
  rw [e]
  refine ⟨?_, List.getElem_mem _⟩
  have e3 : (ks l)[(ks l).idxOf k] = k := List.getElem_idxOf il
  have e4 : ∀ (i : Nat) (h1 : i < (ks l).length) (h2 : i < l.length), (ks l)[i] = (l[i]).1 := fun i h1 h2 => by simp [ks]
  have e4 := e4 _ il il2
  rw [← e4]; exact e3
theorem putB_good {m : Nat} {row row' : Things} {p : Txt × Int} {b : Option Txt} (g : GoodN m row) (h1 : goodKey p.1) (h2 : 0 ≤ p.2 ∧ p.2 ≤ 999) (h3 : p.1 ∉ ks row) (e : putBehindF row p b = some row') : GoodN (m + 1) row' := by
  cases b with
  | none => cases e; exact g.insert 0 h1 h2 h3
  | some k =>
    simp only [putBehindF] at e
    split at e
    · cases e; exact g.insert _ h1 h2 h3
    · cases e
theorem done_good {m : Nat} {row row' : Things} {d : Deed} (g : GoodN m row) (gd : GoodD d) (e : doneF row d = some row') : GoodN (m + 1) row' := by
  cases d with
  | put k v b =>
    simp only [doneF] at e
    split at e
    · cases e
    · rename_i c
      exact putB_good g gd.1 gd.2.1 c e
  | strike k =>
    simp only [doneF] at e
    split at e
    · cases e; exact (g.sub (List.eraseIdx_sublist _ _)).mono (Nat.le_succ _)
    · cases e
  | change k v =>
    simp only [doneF] at e
    split at e
    · rename_i c
      cases e
      have il := idx_lt c
      have il2 : (ks row).idxOf k < row.length := by rwa [ks_len] at il
      have hk : ks (row.set ((ks row).idxOf k) (k, v)) = ks row := by
        have : ks (row.set ((ks row).idxOf k) (k, v)) = (ks row).set ((ks row).idxOf k) k := by unfold ks; rw [List.map_set]
        rw [this]
        apply List.ext_getElem?
        intro j
        by_cases hj : (ks row).idxOf k = j
        · subst hj; rw [List.getElem?_set_self il, List.getElem?_eq_getElem il, List.getElem_idxOf il]
        · rw [List.getElem?_set_ne hj]
      refine ⟨by simp; exact Nat.le_succ_of_le g.len, fun p hp => ?_, fun p hp => ?_, by rw [hk]; exact g.nd⟩
      · rcases List.mem_or_eq_of_mem_set hp with q | q
        · exact g.key p q
        · subst q; exact gd.1
      · rcases List.mem_or_eq_of_mem_set hp with q | q
        · exact g.val p q
        · subst q; exact gd.2
    · cases e
  | move k b =>
    simp only [doneF] at e
    split at e
    · rename_i c
      obtain ⟨e1, e2⟩ := getD_key c
      have ne : (row.getD ((ks row).idxOf k) ([], 0)).1 ∉ ks (row.eraseIdx ((ks row).idxOf k)) := by
        rw [e1, ks_erase]; exact erase_notin g.nd
      exact putB_good (g.sub (List.eraseIdx_sublist _ _)) (by rw [e1]; exact gd.1) (g.val _ e2) ne e
    · cases e
def ledF (l : Things) (ds : List Deed) : Option Things := match ds.foldlM doneF l with
  | some r => if r.length ≤ 16 then some r else none
  | none => none
theorem fold_goodD : ∀ (ds : List Deed) {m : Nat} {l r : Things}, GoodN m l → (∀ d ∈ ds, GoodD d) → ds.foldlM doneF l = some r → GoodN (m + ds.length) r
  | [], m, l, r, g, _, e => by
    have : l = r := Option.some.inj e
    subst this; exact g
  | d :: ds, m, l, r, g, gd, e => by
    rw [List.foldlM_cons] at e
    cases q : doneF l d with
    | none => rw [q] at e; cases e
    | some l' =>
      rw [q] at e
      have := fold_goodD ds (done_good g (gd d List.mem_cons_self) q) (fun x hx => gd x (List.mem_cons_of_mem _ hx)) e
      exact this.mono (by rw [List.length_cons]; omega)
theorem nr_deed (d : Deed) (k : Nat) : nrN (k + 1) (dD d) = true := by
  cases d with
  | strike k => rfl
  | put k v b => cases b <;> rfl
  | move k b => cases b <;> rfl
  | change k v => rfl
@[simp] theorem nr_deeds (ds : List Deed) (k : Nat) : nrL (k + 1) (ds.map dD) = true := nrL_all fun d hd => by
  obtain ⟨t, _, rfl⟩ := List.mem_map.mp hd
  exact nr_deed t k
theorem p_led {l : Things} {ds : List Deed} (g : Good l) (gd : ∀ d ∈ ds, GoodD d) (hz : ds.length ≤ 900) (n fl : Nat) (h : Hp) :
    callA (lev P (n + 4)) true 44 [.tup (l.map tD), .lst (ds.map dD)] fl h = match ledF l ds with | some r => .ok (.d (.tup (r.map tD))) h | none => .exc 2 h := by
  have hl := g.len
  have hm : l.length ≤ most := by unfold most; omega
  have odd := evT_compT (G := lev P (n + 3)) (fl := h.length) (ρ := [some (.tup (l.map tD)), some (.lst (ds.map dD)), none, none, none]) (own := [3]) (tg := .v 3) (it := .seq (.var 1)) (cond := some (.not (.call true 41 [(.var 3)]))) (elt := .var 3) (h1 := h) (h := h) (s := .fix (ds.map dD)) dD (fun _ => false) dD ds (by simp) rfl (fun d hd => by
    simp [turn, bindT, wipe, p_is_deed (gd d hd)])
  have odd' : ds.any (fun _ => false) = false := by simp
  rw [odd'] at odd
  have s1 : ex (lev P (n + 3)) h.length (.exp (.call true 4 [(.var 0)])) [some (.tup (l.map tD)), some (.lst (ds.map dD)), none, none, none] h = .nx [some (.tup (l.map tD)), some (.lst (ds.map dD)), none, none, none] h := by
    simp [p_look g]
  have s2 : ex (lev P (n + 3)) h.length (.ifs (.or (.not (.blt (.isi .list) [(.var 1)])) (.comp [3] (.v 3) (.seq (.var 1)) (some (.not (.call true 41 [(.var 3)]))) (.var 3))) [(.rai 2)] []) [some (.tup (l.map tD)), some (.lst (ds.map dD)), none, none, none] h = .nx [some (.tup (l.map tD)), some (.lst (ds.map dD)), none, none, none] h := by
    simp [odd]
  have s3 : ex (lev P (n + 3)) h.length (.asg true (.v 2) (.blt .list [(.var 0)])) [some (.tup (l.map tD)), some (.lst (ds.map dD)), none, none, none] h = .nx [some (.tup (l.map tD)), some (.lst (ds.map dD)), some (.ref h.length), none, none] (h ++ [.lst (l.map tD)]) := by
    simp [bList, hm]
  obtain ⟨ρ', h', ef⟩ := for_foldM (t := .v 3) (body := fun ρ hh => exs (lev P (n + 3)) h.length [(.ifs (.not (.call false 43 [(.var 2), (.var 3)])) [(.rai 2)] [])] ρ hh) dD doneF 2
    (fun row ρ hh => (∃ x, ρ = [some (.tup (l.map tD)), some (.lst (ds.map dD)), some (.ref h.length), x, none]) ∧ hh = h ++ [.lst (row.map tD)]) ds l [some (.tup (l.map tD)), some (.lst (ds.map dD)), some (.ref h.length), none, none] (h ++ [.lst (l.map tD)]) ⟨⟨_, rfl⟩, rfl⟩ fun d x r row ρ hh q ed ⟨⟨y, e1⟩, e2⟩ => by
      subst e1 e2
      have dl : d.length ≤ 900 := by
        have := congrArg List.length q
        simp at this; omega
      have gr := fold_goodD d g.goodN (fun z hz => gd z (by rw [q]; simp [hz])) ed
      have rl := gr.len
      refine ⟨[some (.tup (l.map tD)), some (.lst (ds.map dD)), some (.ref h.length), some (dD x), none], by simp [bindT], ?_⟩
      have cd := c_doneD (P := P) (row := row) (d := x) (r := h.length) (n := n) (fl := h.length) (h := h ++ [.lst (row.map tD)]) (by simp) (by omega) (by omega)
      cases qd : doneF row x with
      | some row' =>
        rw [qd] at cd
        refine ⟨[some (.tup (l.map tD)), some (.lst (ds.map dD)), some (.ref h.length), some (dD x), none], h ++ [.lst (row'.map tD)], ?_, ⟨_, rfl⟩, rfl⟩
        simp at cd
        simp [cd]
      | none =>
        rw [qd] at cd
        obtain ⟨h2, cd⟩ := cd
        refine ⟨[some (.tup (l.map tD)), some (.lst (ds.map dD)), some (.ref h.length), some (dD x), none], h2, ?_⟩
        simp [cd]
  have efor := ex_for (G := lev P (n + 3)) (fl := h.length) (ρ := [some (.tup (l.map tD)), some (.lst (ds.map dD)), some (.ref h.length), none, none]) (t := .v 3) (it := .seq (.var 1)) (b := [(.ifs (.not (.call false 43 [(.var 2), (.var 3)])) [(.rai 2)] [])]) (l := ds.map dD) (h := h ++ [.lst (l.map tD)]) (h1 := h ++ [.lst (l.map tD)]) (by simp)
  unfold ledF
  cases qf : ds.foldlM doneF l with
  | none =>
    rw [qf] at ef
    exact callM_exc (d := c_led) rfl (run_exc (ρ := [some (.tup (l.map tD)), some (.lst (ds.map dD)), none, none, none]) rfl rfl (exs_to s1 (exs_to s2 (exs_to s3 (exs_stop (efor.trans ef))))))
  | some row =>
    rw [qf] at ef
    obtain ⟨e0, ⟨y, e1⟩, e2⟩ := ef
    subst e1 e2
    have gr := fold_goodD ds g.goodN gd qf
    have pl := p_is_listN (P := P) gr (n + 1) h.length (h ++ [.lst (row.map tD)])
    by_cases c : row.length ≤ 16
    · simp only [if_pos c]
      rw [decide_eq_true c] at pl
      refine callM_of (d := c_led) (v := .d (.tup (row.map tD))) (h' := h ++ [.lst (row.map tD)]) rfl (run_rt (ρ := [some (.tup (l.map tD)), some (.lst (ds.map dD)), none, none, none]) rfl rfl (exs_to s1 (exs_to s2 (exs_to s3 (exs_to (efor.trans e0) ?_))))) (by simp [outV, nrN])
      simp [pl]
    · simp only [if_neg c]
      rw [decide_eq_false c] at pl
      refine callM_exc (d := c_led) (h' := h ++ [.lst (row.map tD)]) rfl (run_exc (ρ := [some (.tup (l.map tD)), some (.lst (ds.map dD)), none, none, none]) (ρ' := [some (.tup (l.map tD)), some (.lst (ds.map dD)), some (.ref h.length), y, some (.tup (row.map tD))]) rfl rfl (exs_to s1 (exs_to s2 (exs_to s3 (exs_to (efor.trans e0) ?_)))))
      simp [pl]
end Cd
end
section
set_option linter.all false
set_option maxRecDepth 100000
set_option maxHeartbeats 1000000
/-! plain: the keys that stay are a longest common row -/
namespace Cd
open MP
/-- rises in o -/
abbrev Inc (o : List Txt) (l : List Txt) : Prop := l.Pairwise fun a b => o.idxOf a < o.idxOf b
theorem headD_mem {α : Type} {l : List α} {d : α} (h : l ≠ []) : l.headD d ∈ l := by
  cases l with
  | nil => exact absurd rfl h
  | cons x l => simp
theorem firstLong_mem {L : List (List Txt)} : firstLong L = [] ∨ firstLong L ∈ L := by
  unfold firstLong
  by_cases e : (L.filter fun r => r.length == maxLen L) = []
  · left; rw [e]; rfl
  · right
    exact (List.mem_filter.mp (headD_mem e)).1
theorem best_rows (o : List Txt) : ∀ l : List Txt, ∀ q ∈ bestL o l, ∃ t, q.2 = q.1 :: t ∧ (q.1 :: t).Sublist l ∧ Inc o (q.1 :: t)
  | [], q, h => by cases h
  | k :: l, q, h => by
    rcases List.mem_cons.mp (show q ∈ (k, k :: firstLong (behindF o (bestL o l) k)) :: bestL o l from h) with e | e
    · subst e
      refine ⟨_, rfl, ?_⟩
      rcases firstLong_mem (L := behindF o (bestL o l) k) with z | z
      · rw [z]
        exact ⟨(List.nil_sublist l).cons_cons k, .cons (fun _ h => by cases h) .nil⟩
      · unfold behindF at z
        obtain ⟨q', hq, e⟩ := List.mem_map.mp z
        obtain ⟨hq1, hq2⟩ := List.mem_filter.mp hq
        obtain ⟨t, t1, t2, t3⟩ := best_rows o l q' hq1
        have ee : firstLong (behindF o (bestL o l) k) = q'.1 :: t := by unfold behindF; rw [← e, t1]
        dsimp only
        rw [ee]
        refine ⟨t2.cons_cons k, .cons (fun b hb => ?_) t3⟩
        have lt : o.idxOf k < o.idxOf q'.1 := by simpa using hq2
        rcases List.mem_cons.mp hb with z | z
        · subst z; exact lt
        · have := (List.pairwise_cons.mp t3).1 b z
          omega
    · obtain ⟨t, t1, t2, t3⟩ := best_rows o l q e
      exact ⟨t, t1, t2.cons k, t3⟩
theorem stays_sub (b o : List Txt) : (staysF b o).Sublist (both b o) ∧ Inc o (staysF b o) := by
  rw [stays_eq]
  unfold lawStaysF
  rcases firstLong_mem (L := (bestL o (both b o)).map (·.2)) with z | z
  · rw [z]; exact ⟨List.nil_sublist _, .nil⟩
  · obtain ⟨q, hq, e⟩ := List.mem_map.mp z
    obtain ⟨t, t1, t2, t3⟩ := best_rows o _ q hq
    rw [← e, t1]
    exact ⟨t2, t3⟩
/-- no chain is longer -/
theorem best_most (o : List Txt) : ∀ (l : List Txt) (k : Txt) (t : List Txt), (k :: t).Sublist l → Inc o (k :: t) → ∃ q ∈ bestL o l, q.1 = k ∧ t.length + 1 ≤ q.2.length
  | [], k, t, h, _ => by cases h
  | x :: l, k, t, h, inc => by
    cases h with
    | cons _ h =>
      obtain ⟨q, q1, q2, q3⟩ := best_most o l k t h inc
      exact ⟨q, List.mem_cons_of_mem _ q1, q2, q3⟩
    | cons_cons _ h =>
      refine ⟨_, List.mem_cons_self, rfl, ?_⟩
      rw [List.length_cons, firstLong_len]
      cases t with
      | nil => simp
      | cons k' t =>
        obtain ⟨i1, i2⟩ := List.pairwise_cons.mp inc
        obtain ⟨q, q1, q2, q3⟩ := best_most o l k' t h i2
        have : q.2 ∈ behindF o (bestL o l) x := by
          unfold behindF
          refine List.mem_map_of_mem (List.mem_filter.mpr ⟨q1, ?_⟩)
          rw [q2]
          simpa using i1 k' List.mem_cons_self
        have := le_maxLen this
        rw [List.length_cons]
        omega
theorem stays_most {b o t : List Txt} (h : t.Sublist (both b o)) (inc : Inc o t) : t.length ≤ (staysF b o).length := by
  rw [stays_eq]
  unfold lawStaysF
  rw [firstLong_len]
  cases t with
  | nil => simp
  | cons k t =>
    obtain ⟨q, q1, _, q3⟩ := best_most o _ k t h inc
    have := le_maxLen (List.mem_map_of_mem (f := (·.2)) q1)
    simp at this ⊢
    omega
/-- rising within: a sublist -/
theorem inc_sub : ∀ {o t : List Txt}, o.Nodup → (∀ x ∈ t, x ∈ o) → Inc o t → t.Sublist o
  | [], [], _, _, _ => List.Sublist.refl _
  | [], x :: t, _, h, _ => by have := h x List.mem_cons_self; cases this
  | y :: o, [], _, _, _ => List.nil_sublist _
  | y :: o, x :: t, nd, h, inc => by
    obtain ⟨n1, n2⟩ := List.nodup_cons.mp nd
    obtain ⟨i1, i2⟩ := List.pairwise_cons.mp inc
    have ix : ∀ z, z ∈ y :: o → z ≠ y → (y :: o).idxOf z = o.idxOf z + 1 := fun z _ ne => by
      rw [List.idxOf_cons, beq_eq_false_iff_ne.mpr (Ne.symm ne)]; rfl
    have hne : ∀ z ∈ t, z ≠ y := fun z hz e => by
      subst e
      have := i1 z hz
      rw [List.idxOf_cons_self] at this
      omega
    have hin : ∀ z ∈ t, z ∈ o := fun z hz => by
      rcases List.mem_cons.mp (h z (List.mem_cons_of_mem _ hz)) with e | e
      · exact absurd e (hne z hz)
      · exact e
    by_cases c : x = y
    · subst c
      refine (inc_sub n2 hin ?_).cons_cons x
      refine i2.imp_of_mem fun {a b'} ha hb hab => ?_
      rw [ix a (List.mem_cons_of_mem _ (hin a ha)) (hne a ha), ix b' (List.mem_cons_of_mem _ (hin b' hb)) (hne b' hb)] at hab
      omega
    · have hx : x ∈ o := by
        rcases List.mem_cons.mp (h x List.mem_cons_self) with e | e
        · exact absurd e c
        · exact e
      refine (inc_sub n2 (t := x :: t) (fun z hz => ?_) ?_).cons y
      · rcases List.mem_cons.mp hz with e | e
        · subst e; exact hx
        · exact hin z e
      · refine inc.imp_of_mem fun {a b'} ha hb hab => ?_
        have na : a ≠ y ∧ a ∈ o := by
          rcases List.mem_cons.mp ha with e | e
          · subst e; exact ⟨c, hx⟩
          · exact ⟨hne a e, hin a e⟩
        have nb : b' ≠ y ∧ b' ∈ o := by
          rcases List.mem_cons.mp hb with e | e
          · subst e; exact ⟨c, hx⟩
          · exact ⟨hne b' e, hin b' e⟩
        rw [ix a (List.mem_cons_of_mem _ na.2) na.1, ix b' (List.mem_cons_of_mem _ nb.2) nb.1] at hab
        omega
theorem sub_inc {o t : List Txt} (nd : o.Nodup) (h : t.Sublist o) : Inc o t := (idx_inc [] o nd).sublist h
theorem both_sub (b o : List Txt) : (both b o).Sublist b := List.filter_sublist
theorem both_in {b o : List Txt} : ∀ x ∈ both b o, x ∈ o := fun x hx => by
  have := (List.mem_filter.mp hx).2
  simpa using this
theorem stays_subL (b o : List Txt) : (staysF b o).Sublist b := (stays_sub b o).1.trans (both_sub b o)
theorem stays_subR {b o : List Txt} (h : o.Nodup) : (staysF b o).Sublist o := inc_sub h (fun x hx => both_in x ((stays_sub b o).1.mem hx)) (stays_sub b o).2
theorem common_most {b o t : List Txt} (ho : o.Nodup) (h1 : t.Sublist b) (h2 : t.Sublist o) : t.length ≤ (staysF b o).length := by
  refine stays_most ?_ (sub_inc ho h2)
  have : t = t.filter fun x => o.contains x := by
    symm
    rw [List.filter_eq_self]
    intro x hx
    simpa using h2.mem hx
  rw [this]
  exact h1.filter _
theorem stays_comm_len {b o : List Txt} (hb : b.Nodup) (ho : o.Nodup) : (staysF b o).length = (staysF o b).length :=
  Nat.le_antisymm (common_most hb (stays_subR ho) (stays_subL b o)) (common_most ho (stays_subR hb) (stays_subL o b))
/-- of a sublist all stay -/
theorem stays_of_sub {b s : List Txt} (hb : b.Nodup) (h : s.Sublist b) : staysF b s = s := by
  have hs : s.Nodup := hb.sublist h
  exact (stays_subR hs).eq_of_length_le (common_most hs h (List.Sublist.refl s))
theorem filter_sub {o t : List Txt} (ho : o.Nodup) (h : t.Sublist o) : o.filter (fun x => t.contains x) = t := by
  induction h with
  | slnil => rfl
  | @cons t o a h ih =>
    obtain ⟨n1, n2⟩ := List.nodup_cons.mp ho
    have : a ∉ t := fun q => n1 (h.mem q)
    rw [List.filter_cons_of_neg (by simpa using this)]
    exact ih n2
  | @cons_cons t' o' a h ih =>
    obtain ⟨n1, n2⟩ := List.nodup_cons.mp ho
    rw [List.filter_cons_of_pos (by simp)]
    congr 1
    have : o'.filter (fun x => (a :: t').contains x) = o'.filter fun x => t'.contains x := List.filter_congr fun x hx => by
      have ne : x ≠ a := fun q => n1 (q ▸ hx)
      rw [List.contains_cons, beq_eq_false_iff_ne.mpr ne]; simp
    rw [this]
    exact ih n2
end Cd
end
section
set_option linter.all false
set_option maxRecDepth 100000
set_option maxHeartbeats 1000000
/-! plain: the deeds lead to the other list -/
namespace Cd
open MP
def aheadK (row : List Txt) (i : Nat) : Option Txt := match i with
  | 0 => none
  | j + 1 => some (row.getD j [])
theorem aheadK_D (row : List Txt) (i : Nat) : bD (aheadK row i) = aheadD row i := by cases i <;> rfl
def strikesT (l r : Things) : List Deed := ((ks l).filter fun x => !(ks r).contains x).map .strike
def midT (l r : Things) (mv : List Txt) (i : Nat) (p : Txt × Int) : List Deed := if (ks l).contains p.1 then (if mv.contains p.1 then [.move p.1 (aheadK (ks r) i)] else []) else [.put p.1 p.2 (aheadK (ks r) i)]
def midsT (l r : Things) (mv : List Txt) : Nat → Things → List Deed
  | _, [] => []
  | i, p :: t => midT l r mv i p ++ midsT l r mv (i + 1) t
def changesT (l r : Things) : List Deed := (r.filter (chB l)).map fun p => .change p.1 p.2
def deedsT (l r : Things) : List Deed := strikesT l r ++ midsT l r (movedF (ks l) (ks r)) 0 r ++ changesT l r
theorem midT_D (l r : Things) (mv : List Txt) (i : Nat) (p : Txt × Int) : (midT l r mv i p).map dD = midF l r mv i p := by
  unfold midT midF
  split
  · split
    · simp [dD, aheadK_D]
    · rfl
  · simp [dD, aheadK_D]
theorem midsT_D (l r : Things) (mv : List Txt) : ∀ (t : Things) (i : Nat), (midsT l r mv i t).map dD = midAll l r mv i t
  | [], _ => rfl
  | p :: t, i => by simp [midsT, midAll, midT_D, midsT_D l r mv t (i + 1)]
theorem deedsT_D (l r : Things) : (deedsT l r).map dD = deedsF l r := by
  unfold deedsT deedsF
  rw [List.map_append, List.map_append, midsT_D]
  congr 1
  · congr 1
    unfold strikesT strikesF
    rw [List.map_map]; rfl
  · unfold changesT changesF
    rw [List.map_map]; rfl
theorem ahead_good {r : Things} (g : Good r) {i : Nat} (hi : i ≤ r.length) : goodB (aheadK (ks r) i) := by
  cases i with
  | zero => trivial
  | succ j =>
    have hj : j < (ks r).length := by rw [ks_len]; omega
    show goodKey ((ks r).getD j [])
    rw [List.getD_eq_getElem?_getD, List.getElem?_eq_getElem hj]
    have : (ks r)[j] ∈ ks r := List.getElem_mem hj
    obtain ⟨p, hp, e⟩ := List.mem_map.mp this
    simp only [Option.getD_some]
    rw [← e]
    exact g.key p hp
theorem mids_good {l r : Things} (gr : Good r) (mv : List Txt) : ∀ (t : Things) (i : Nat), (∀ p ∈ t, p ∈ r) → i + t.length ≤ r.length → ∀ d ∈ midsT l r mv i t, GoodD d
  | [], _, _, _, d, h => by cases h
  | p :: t, i, ht, hi, d, h => by
    have hp := ht p List.mem_cons_self
    rw [List.length_cons] at hi
    rcases List.mem_append.mp h with h | h
    · unfold midT at h
      split at h
      · split at h
        · cases List.mem_singleton.mp h
          exact ⟨gr.key p hp, ahead_good gr (by omega)⟩
        · cases h
      · cases List.mem_singleton.mp h
        exact ⟨gr.key p hp, gr.val p hp, ahead_good gr (by omega)⟩
    · exact mids_good gr mv t (i + 1) (fun q hq => ht q (List.mem_cons_of_mem _ hq)) (by omega) d h
theorem deedsT_good {l r : Things} (gl : Good l) (gr : Good r) : ∀ d ∈ deedsT l r, GoodD d := by
  intro d hd
  unfold deedsT at hd
  rcases List.mem_append.mp hd with hd | hd
  · rcases List.mem_append.mp hd with hd | hd
    · obtain ⟨x, hx, rfl⟩ := List.mem_map.mp hd
      obtain ⟨p, hp, e⟩ := List.mem_map.mp (List.mem_filter.mp hx).1
      show goodKey x
      rw [← e]; exact gl.key p hp
    · exact mids_good gr _ r 0 (fun _ h => h) (by omega) d hd
  · obtain ⟨p, hp, rfl⟩ := List.mem_map.mp hd
    have := (List.mem_filter.mp hp).1
    exact ⟨gr.key p this, gr.val p this⟩
theorem mids_len (l r : Things) (mv : List Txt) : ∀ (t : Things) (i : Nat), (midsT l r mv i t).length ≤ t.length := fun t i => by
  have := midAll_len l r mv t i
  rw [← midsT_D, List.length_map] at this
  exact this
theorem deedsT_len {l r : Things} (gl : Good l) (gr : Good r) : (deedsT l r).length ≤ 48 := by
  have h1 := gl.len
  have h2 := gr.len
  have a := mids_len l r (movedF (ks l) (ks r)) r 0
  have b : (strikesT l r).length ≤ 16 := by
    unfold strikesT
    rw [List.length_map]
    exact Nat.le_trans (List.length_filter_le _ _) (by rw [ks_len]; exact h1)
  have c : (changesT l r).length ≤ 16 := by
    unfold changesT
    rw [List.length_map]
    exact Nat.le_trans (List.length_filter_le _ _) h2
  unfold deedsT
  simp only [List.length_append]
  omega
/-! ### rows as keys with a value each -/
section
variable (ov : Txt → Int)
abbrev gv (x : Txt) : Txt × Int := (x, ov x)
theorem ks_gv (L : List Txt) : ks (L.map (gv ov)) = L := by
  unfold ks
  rw [List.map_map]
  exact List.map_id _
def putBK (L : List Txt) (x : Txt) : Option Txt → Option (List Txt)
  | none => some (insertAt L 0 x)
  | some k => if k ∈ L then some (insertAt L (L.idxOf k + 1) x) else none
theorem map_insertAt {α β : Type} (f : α → β) (l : List α) (i : Nat) (x : α) : insertAt (l.map f) i (f x) = (insertAt l i x).map f := by simp [insertAt, List.map_take, List.map_drop]
theorem putB_gv (L : List Txt) (x : Txt) (b : Option Txt) : putBehindF (L.map (gv ov)) (gv ov x) b = (putBK L x b).map (·.map (gv ov)) := by
  cases b with
  | none => simp only [putBehindF, putBK, map_insertAt, Option.map_some]
  | some k =>
    simp only [putBehindF, putBK, ks_gv]
    split
    · rw [map_insertAt]; rfl
    · rfl
theorem getD_gv {L : List Txt} {x : Txt} (h : x ∈ L) : (L.map (gv ov)).getD (L.idxOf x) ([], 0) = gv ov x := by
  have il := idx_lt h
  rw [List.getD_eq_getElem?_getD, List.getElem?_map, List.getElem?_eq_getElem il, List.getElem_idxOf il]
  rfl
theorem erase_key : ∀ {L : List Txt} {x : Txt}, L.Nodup → x ∈ L → L.eraseIdx (L.idxOf x) = L.filter fun y => y != x
  | y :: L, x, nd, h => by
    obtain ⟨n1, n2⟩ := List.nodup_cons.mp nd
    by_cases e : y = x
    · subst e
      rw [List.idxOf_cons_self, List.eraseIdx_cons_zero, List.filter_cons_of_neg (by simp)]
      symm
      rw [List.filter_eq_self]
      intro z hz
      have : z ≠ y := fun q => n1 (q ▸ hz)
      simpa using this
    · have hx : x ∈ L := by
        rcases List.mem_cons.mp h with q | q
        · exact absurd q.symm e
        · exact q
      rw [List.idxOf_cons, beq_eq_false_iff_ne.mpr e]
      simp only [Bool.cond_false, List.eraseIdx_cons_succ]
      rw [List.filter_cons_of_pos (by simpa using e), erase_key n2 hx]
theorem done_put {L L' : List Txt} {x : Txt} {b : Option Txt} (h : x ∉ L) (e : putBK L x b = some L') : doneF (L.map (gv ov)) (.put x (ov x) b) = some (L'.map (gv ov)) := by
  simp only [doneF, ks_gv, if_neg h]
  have := putB_gv ov L x b
  rw [e] at this
  exact this
theorem done_move {L L' : List Txt} {x : Txt} {b : Option Txt} (nd : L.Nodup) (h : x ∈ L) (e : putBK (L.filter fun y => y != x) x b = some L') : doneF (L.map (gv ov)) (.move x b) = some (L'.map (gv ov)) := by
  simp only [doneF, ks_gv, if_pos h]
  rw [getD_gv ov h, map_eraseIdx, erase_key nd h, putB_gv, e]
  rfl
theorem done_strike {L : List Txt} {x : Txt} (nd : L.Nodup) (h : x ∈ L) : doneF (L.map (gv ov)) (.strike x) = some ((L.filter fun y => y != x).map (gv ov)) := by
  simp only [doneF, ks_gv, if_pos h]
  rw [map_eraseIdx, erase_key nd h]
/-- all strikes -/
theorem strikes_lead : ∀ (K L : List Txt), L.Nodup → K.Nodup → (∀ x ∈ K, x ∈ L) → (K.map Deed.strike).foldlM doneF (L.map (gv ov)) = some ((L.filter fun y => !K.contains y).map (gv ov))
  | [], L, _, _, _ => by
    have : L.filter (fun y => !([] : List Txt).contains y) = L := List.filter_eq_self.mpr fun _ _ => rfl
    rw [this]; rfl
  | x :: K, L, nd, nk, h => by
    obtain ⟨n1, n2⟩ := List.nodup_cons.mp nk
    rw [List.map_cons, List.foldlM_cons, done_strike ov nd (h x List.mem_cons_self)]
    show (K.map Deed.strike).foldlM doneF ((L.filter fun y => y != x).map (gv ov)) = _
    rw [strikes_lead K _ (nd.filter _) n2 fun y hy => List.mem_filter.mpr ⟨h y (List.mem_cons_of_mem _ hy), by
      have : y ≠ x := fun q => n1 (q ▸ hy)
      simpa using this⟩]
    rw [List.filter_filter]
    congr 2
    apply List.filter_congr
    intro y _
    rw [List.contains_cons, Bool.not_or, Bool.and_comm]
    rfl
/-- right behind the last of what is done -/
theorem split_at {A B D R : List Txt} {k : Txt} (h : A ++ k :: B = D ++ k :: R) (ha : k ∉ A) (hd : k ∉ D) : A = D ∧ B = R := by
  induction A generalizing D with
  | nil =>
    cases D with
    | nil => exact ⟨rfl, by simpa using h⟩
    | cons y D =>
      injection h with h1 h2
      subst h1
      exact absurd List.mem_cons_self hd
  | cons x A ih =>
    cases D with
    | nil =>
      injection h with h1 h2
      subst h1
      exact absurd List.mem_cons_self ha
    | cons y D =>
      injection h with h1 h2
      obtain ⟨e1, e2⟩ := ih h2 (fun q => ha (List.mem_cons_of_mem _ q)) (fun q => hd (List.mem_cons_of_mem _ q))
      exact ⟨by rw [h1, e1], e2⟩
theorem put_filter {L D R : List Txt} {c : Txt → Bool} {k x : Txt} (nd : L.Nodup) (hf : L.filter c = D ++ k :: R) (hk : k ∉ D) (cx : c x = true) : k ∈ L ∧ (insertAt L (L.idxOf k + 1) x).filter c = D ++ k :: x :: R := by
  have hkm : k ∈ L.filter c := by rw [hf]; simp
  obtain ⟨hkL, ck⟩ := List.mem_filter.mp hkm
  refine ⟨hkL, ?_⟩
  obtain ⟨X, Y, e, hX⟩ : ∃ X Y, L = X ++ k :: Y ∧ k ∉ X := by
    obtain ⟨X, Y, e⟩ := List.append_of_mem hkL
    refine ⟨X, Y, e, fun q => ?_⟩
    rw [e] at nd
    exact (List.nodup_append.mp nd).2.2 k q k (by simp) rfl
  have ix : L.idxOf k = X.length := by rw [e, List.idxOf_append, if_neg hX, List.idxOf_cons_self]; simp
  have ins : insertAt L (L.idxOf k + 1) x = X ++ k :: x :: Y := by
    rw [ix, e]
    unfold insertAt
    rw [List.take_append, List.drop_append]
    simp [List.take_of_length_le, List.drop_eq_nil_of_le]
  rw [ins]
  rw [e, List.filter_append, List.filter_cons_of_pos ck] at hf
  obtain ⟨e1, e2⟩ := split_at hf (fun q => hX (List.mem_filter.mp q).1) hk
  rw [List.filter_append, List.filter_cons_of_pos ck, List.filter_cons_of_pos cx, e1, e2]
theorem put_filter0 {L R : List Txt} {c : Txt → Bool} {x : Txt} (hf : L.filter c = R) (cx : c x = true) : (insertAt L 0 x).filter c = x :: R := by
  show (x :: L).filter c = _
  rw [List.filter_cons_of_pos cx, hf]
theorem nodup_insert {L : List Txt} {i : Nat} {x : Txt} (nd : L.Nodup) (h : x ∉ L) : (insertAt L i x).Nodup := (perm_insertAt L i x).nodup_iff.mpr (List.nodup_cons.mpr ⟨h, nd⟩)
end
end Cd
end
section
set_option linter.all false
set_option maxRecDepth 100000
set_option maxHeartbeats 1000000
namespace Cd
open MP
/-- a thing's value in a row on its way from l to r -/
def ovF (l r : Things) (x : Txt) : Int := (l.lookup x).getD ((r.lookup x).getD 0)
/-- keys that are not waiting to be moved -/
def calm (mv t : List Txt) (x : Txt) : Bool := !(t.contains x && mv.contains x)
structure MidInv (S mv done t L : List Txt) : Prop where
  nd : L.Nodup
  row : L.filter (calm mv t) = done ++ t.filter fun x => S.contains x
  wait : ∀ x ∈ t, x ∈ mv → x ∈ L
theorem put_next {S mv done t : List Txt} {L : List Txt} {x : Txt} {r : List Txt} (hr : r = done ++ x :: t) (ndr : r.Nodup) (nd : L.Nodup) (hf : L.filter (calm mv t) = done ++ t.filter fun y => S.contains y) (cx : calm mv t x = true) (hx : x ∉ L) :
    ∃ L', putBK L x (aheadK r done.length) = some L' ∧ L'.Nodup ∧ L'.filter (calm mv t) = (done ++ [x]) ++ t.filter (fun y => S.contains y) ∧ ∀ y ∈ L, y ∈ L' := by
  rcases List.eq_nil_or_concat done with e | ⟨D, k, e⟩
  · subst e
    exact ⟨insertAt L 0 x, rfl, nodup_insert nd hx, put_filter0 hf cx, fun y hy => mem_insertAt.mpr (.inr hy)⟩
  · rw [List.concat_eq_append] at e
    subst e
    have ndd : (D ++ [k]).Nodup := (List.nodup_append.mp (hr ▸ ndr)).1
    have hk : k ∉ D := fun q => (List.nodup_append.mp ndd).2.2 k q k (by simp) rfl
    have ha : aheadK r (D ++ [k]).length = some k := by
      rw [List.length_append, List.length_singleton]
      show some (r.getD D.length []) = some k
      rw [hr]
      simp
    have hf' : L.filter (calm mv t) = D ++ k :: (t.filter fun y => S.contains y) := by rw [hf]; simp
    obtain ⟨hkL, hfin⟩ := put_filter (x := x) nd hf' hk cx
    refine ⟨insertAt L (L.idxOf k + 1) x, ?_, nodup_insert nd hx, ?_, fun y hy => mem_insertAt.mpr (.inr hy)⟩
    · rw [ha]
      simp only [putBK, if_pos hkL]
    · rw [hfin]; simp
theorem mids_lead {l r : Things} (ndl : (ks l).Nodup) (ndr : (ks r).Nodup) : ∀ (t done : Things) (L : List Txt), r = done ++ t → MidInv (staysF (ks l) (ks r)) (movedF (ks l) (ks r)) (ks done) (ks t) L →
    ∃ L', (midsT l r (movedF (ks l) (ks r)) done.length t).foldlM doneF (L.map (gv (ovF l r))) = some (L'.map (gv (ovF l r))) ∧ MidInv (staysF (ks l) (ks r)) (movedF (ks l) (ks r)) (ks r) [] L'
  | [], done, L, hr, I => ⟨L, rfl, by
      have : r = done := by rw [hr]; simp
      rw [this]; exact this ▸ I⟩
  | p :: t, done, L, hr, I => by
    have hkr : ks r = ks done ++ p.1 :: ks t := by rw [hr]; simp [ks]
    have hr' : r = (done ++ [p]) ++ t := by rw [hr]; simp
    have ndr2 := hkr ▸ ndr
    obtain ⟨d1, d2, d3⟩ := List.nodup_append.mp ndr2
    obtain ⟨d4, d5⟩ := List.nodup_cons.mp d2
    have pr : p.1 ∈ ks r := by rw [hkr]; simp
    have pdn : p.1 ∉ ks done := fun q => d3 p.1 q p.1 (by simp) rfl
    have memR : p ∈ r := by rw [hr]; simp
    have kt : ks (p :: t) = p.1 :: ks t := rfl
    have kd : ks (done ++ [p]) = ks done ++ [p.1] := by simp [ks]
    have dl : (done ++ [p]).length = done.length + 1 := by simp
    have mvl : ∀ x ∈ movedF (ks l) (ks r), x ∈ ks l ∧ x ∉ staysF (ks l) (ks r) := fun x hx => by
      have := (List.mem_filter.mp hx).2
      simpa using this
    have cp : calm (movedF (ks l) (ks r)) (ks t) p.1 = true := by simp [calm, d4]
    -- a key that is not waiting: the rows look alike
    have calm_eq : p.1 ∉ movedF (ks l) (ks r) → ∀ y, calm (movedF (ks l) (ks r)) (ks (p :: t)) y = calm (movedF (ks l) (ks r)) (ks t) y := fun hm y => by
      unfold calm
      rw [kt, List.contains_cons]
      by_cases e : y = p.1
      · subst e
        have : (movedF (ks l) (ks r)).contains p.1 = false := by simpa using hm
        rw [this]; simp
      · rw [beq_eq_false_iff_ne.mpr e]; simp
    by_cases c1 : p.1 ∈ ks l
    · by_cases c2 : p.1 ∈ movedF (ks l) (ks r)
      · -- moved
        have hm : midT l r (movedF (ks l) (ks r)) done.length p = [.move p.1 (aheadK (ks r) done.length)] := by simp [midT, c1, c2]
        have hS : p.1 ∉ staysF (ks l) (ks r) := (mvl _ c2).2
        have hw := I.wait p.1 (by rw [kt]; simp) c2
        have nd2 : (L.filter fun y => y != p.1).Nodup := I.nd.filter _
        have hf2 : (L.filter fun y => y != p.1).filter (calm (movedF (ks l) (ks r)) (ks t)) = ks done ++ (ks t).filter fun y => (staysF (ks l) (ks r)).contains y := by
          rw [List.filter_filter]
          have e1 : L.filter (fun y => calm (movedF (ks l) (ks r)) (ks t) y && (y != p.1)) = L.filter (calm (movedF (ks l) (ks r)) (ks (p :: t))) := List.filter_congr fun y _ => by
            unfold calm
            rw [kt, List.contains_cons]
            by_cases e : y = p.1
            · subst e
              have : (movedF (ks l) (ks r)).contains p.1 = true := by simpa using c2
              simp
              exact c2
            · rw [beq_eq_false_iff_ne.mpr e]
              have : (y != p.1) = true := by simpa using e
              rw [this]; simp
          rw [e1, I.row, kt, List.filter_cons_of_neg (by simpa using hS)]
        obtain ⟨L', p1, p2, p3, p4⟩ := put_next (S := staysF (ks l) (ks r)) (x := p.1) hkr ndr nd2 hf2 cp (fun q => by simpa using (List.mem_filter.mp q).2)
        have I' : MidInv (staysF (ks l) (ks r)) (movedF (ks l) (ks r)) (ks (done ++ [p])) (ks t) L' := ⟨p2, by rw [kd]; exact p3, fun y hy hm2 => p4 y (List.mem_filter.mpr ⟨I.wait y (by rw [kt]; exact List.mem_cons_of_mem _ hy) hm2, by
          have : y ≠ p.1 := fun q => d4 (q ▸ hy)
          simpa using this⟩)⟩
        obtain ⟨L2, q1, q2⟩ := mids_lead ndl ndr t (done ++ [p]) L' hr' I'
        refine ⟨L2, ?_, q2⟩
        have hk : (ks done).length = done.length := ks_len done
        rw [hk] at p1
        simp only [midsT, hm, List.cons_append, List.nil_append]
        rw [List.foldlM_cons, done_move (ovF l r) I.nd hw p1, ← dl]
        exact q1
      · -- stays
        have hm : midT l r (movedF (ks l) (ks r)) done.length p = [] := by simp [midT, c1, c2]
        have hS : p.1 ∈ staysF (ks l) (ks r) := by
          refine Classical.byContradiction fun q => c2 (List.mem_filter.mpr ⟨pr, ?_⟩)
          simp [c1, q]
        have I' : MidInv (staysF (ks l) (ks r)) (movedF (ks l) (ks r)) (ks (done ++ [p])) (ks t) L := ⟨I.nd, by
          have e1 : L.filter (calm (movedF (ks l) (ks r)) (ks t)) = L.filter (calm (movedF (ks l) (ks r)) (ks (p :: t))) := List.filter_congr fun y _ => (calm_eq c2 y).symm
          rw [e1, I.row, kt, List.filter_cons_of_pos (by simpa using hS), kd]; simp, fun y hy hm2 => I.wait y (by rw [kt]; exact List.mem_cons_of_mem _ hy) hm2⟩
        obtain ⟨L2, q1, q2⟩ := mids_lead ndl ndr t (done ++ [p]) L hr' I'
        refine ⟨L2, ?_, q2⟩
        simp only [midsT, hm, List.nil_append]
        rw [← dl]
        exact q1
    · -- new
      have hm : midT l r (movedF (ks l) (ks r)) done.length p = [.put p.1 p.2 (aheadK (ks r) done.length)] := by simp [midT, c1]
      have c2 : p.1 ∉ movedF (ks l) (ks r) := fun q => c1 (mvl _ q).1
      have hS : p.1 ∉ staysF (ks l) (ks r) := fun q => c1 ((stays_subL _ _).mem q)
      have e1 : L.filter (calm (movedF (ks l) (ks r)) (ks t)) = L.filter (calm (movedF (ks l) (ks r)) (ks (p :: t))) := List.filter_congr fun y _ => (calm_eq c2 y).symm
      have hf2 : L.filter (calm (movedF (ks l) (ks r)) (ks t)) = ks done ++ (ks t).filter fun y => (staysF (ks l) (ks r)).contains y := by
        rw [e1, I.row, kt, List.filter_cons_of_neg (by simpa using hS)]
      have hx : p.1 ∉ L := fun q => by
        have : p.1 ∈ L.filter (calm (movedF (ks l) (ks r)) (ks t)) := List.mem_filter.mpr ⟨q, cp⟩
        rw [hf2] at this
        rcases List.mem_append.mp this with z | z
        · exact pdn z
        · exact d4 (List.mem_filter.mp z).1
      obtain ⟨L', p1, p2, p3, p4⟩ := put_next (S := staysF (ks l) (ks r)) (x := p.1) hkr ndr I.nd hf2 cp hx
      have I' : MidInv (staysF (ks l) (ks r)) (movedF (ks l) (ks r)) (ks (done ++ [p])) (ks t) L' := ⟨p2, by rw [kd]; exact p3, fun y hy hm2 => p4 y (I.wait y (by rw [kt]; exact List.mem_cons_of_mem _ hy) hm2)⟩
      obtain ⟨L2, q1, q2⟩ := mids_lead ndl ndr t (done ++ [p]) L' hr' I'
      refine ⟨L2, ?_, q2⟩
      have hk : (ks done).length = done.length := ks_len done
      rw [hk] at p1
      have hv : ovF l r p.1 = p.2 := by
        unfold ovF
        rw [lookup_out l p.1 c1, lookup_nodup ndr p memR]; rfl
      simp only [midsT, hm, List.cons_append, List.nil_append]
      have dp := done_put (ovF l r) hx p1
      rw [hv] at dp
      rw [List.foldlM_cons, dp, ← dl]
      exact q1
/-! ### the changes -/
theorem idx_mid {A B : List Txt} {x : Txt} (h : x ∉ A) : (A ++ x :: B).idxOf x = A.length := by
  rw [List.idxOf_append, if_neg h, List.idxOf_cons_self]; simp
theorem changes_lead (l r : Things) : ∀ (B A : Things), (ks (A ++ B)).Nodup → (∀ p ∈ B, r.lookup p.1 = some p.2) → ((B.filter (chB l)).map fun p => Deed.change p.1 p.2).foldlM doneF (A ++ (ks B).map (gv (ovF l r))) = some (A ++ B)
  | [], A, _, _ => by simp [ks]
  | p :: B, A, nd, hv => by
    have e : A ++ p :: B = (A ++ [p]) ++ B := by simp
    have hp := hv p List.mem_cons_self
    have nd2 : (ks A ++ p.1 :: ks B).Nodup := by simpa [ks] using nd
    have hA : p.1 ∉ ks A := fun q => (List.nodup_append.mp nd2).2.2 p.1 q p.1 (by simp) rfl
    have ih := changes_lead l r B (A ++ [p]) (by rw [← e]; exact nd) fun q hq => hv q (List.mem_cons_of_mem _ hq)
    by_cases c : chB l p = true
    · rw [List.filter_cons_of_pos c, List.map_cons, List.foldlM_cons]
      have kk : ks (A ++ (ks (p :: B)).map (gv (ovF l r))) = ks A ++ p.1 :: ks B := by
        have : ks (A ++ (ks (p :: B)).map (gv (ovF l r))) = ks A ++ ks ((ks (p :: B)).map (gv (ovF l r))) := by simp [ks]
        rw [this, ks_gv]; rfl
      have dn : doneF (A ++ (ks (p :: B)).map (gv (ovF l r))) (.change p.1 p.2) = some ((A ++ [p]) ++ (ks B).map (gv (ovF l r))) := by
        simp only [doneF, kk]
        rw [if_pos (by simp), idx_mid hA, ks_len]
        congr 1
        rw [List.set_append_right _ _ (Nat.le_refl _)]
        simp [ks]
      rw [dn, e]
      exact ih
    · have hov : gv (ovF l r) p.1 = p := by
        unfold gv ovF
        unfold chB at c
        cases q : l.lookup p.1 with
        | none => rw [hp]; rfl
        | some v =>
          rw [q] at c
          have : v = p.2 := by simpa using c
          rw [this]; rfl
      rw [List.filter_cons_of_neg c, e]
      have e2 : A ++ (ks (p :: B)).map (gv (ovF l r)) = (A ++ [p]) ++ (ks B).map (gv (ovF l r)) := by
        show A ++ (gv (ovF l r) p.1 :: (ks B).map (gv (ovF l r))) = _
        rw [hov]; simp
      rw [e2]
      exact ih
theorem row_gv {l r : Things} (nd : (ks l).Nodup) : (ks l).map (gv (ovF l r)) = l := by
  unfold ks
  rw [List.map_map]
  conv => rhs; rw [← List.map_id l]
  apply List.map_congr_left
  intro p hp
  show (p.1, ovF l r p.1) = p
  unfold ovF
  rw [lookup_nodup nd p hp]; rfl
theorem deeds_lead {l r : Things} (ndl : (ks l).Nodup) (ndr : (ks r).Nodup) : (deedsT l r).foldlM doneF l = some r := by
  unfold deedsT
  rw [List.foldlM_append, List.foldlM_append]
  have s1 : (strikesT l r).foldlM doneF l = some (((ks l).filter fun y => (ks r).contains y).map (gv (ovF l r))) := by
    have := strikes_lead (ovF l r) ((ks l).filter fun x => !(ks r).contains x) (ks l) ndl (ndl.filter _) (fun x hx => (List.mem_filter.mp hx).1)
    rw [row_gv ndl] at this
    unfold strikesT
    rw [this]
    congr 2
    apply List.filter_congr
    intro y hy
    cases q : (ks r).contains y with
    | true =>
      have : y ∉ (ks l).filter fun x => !(ks r).contains x := fun z => by
        have := (List.mem_filter.mp z).2
        rw [q] at this; cases this
      have q2 : ((ks l).filter fun x => !(ks r).contains x).contains y = false := by simpa using this
      rw [q2]; rfl
    | false =>
      have : y ∈ (ks l).filter fun x => !(ks r).contains x := List.mem_filter.mpr ⟨hy, by rw [q]; rfl⟩
      have q2 : ((ks l).filter fun x => !(ks r).contains x).contains y = true := by simpa using this
      rw [q2]; rfl
  rw [s1]
  have I0 : MidInv (staysF (ks l) (ks r)) (movedF (ks l) (ks r)) (ks []) (ks r) ((ks l).filter fun y => (ks r).contains y) := by
    refine ⟨ndl.filter _, ?_, fun x hx hm => ?_⟩
    · have e1 : ((ks l).filter fun y => (ks r).contains y).filter (calm (movedF (ks l) (ks r)) (ks r)) = (ks l).filter fun y => (staysF (ks l) (ks r)).contains y := by
        rw [List.filter_filter]
        apply List.filter_congr
        intro y hy
        unfold calm
        by_cases h1 : y ∈ ks r
        · by_cases h2 : y ∈ staysF (ks l) (ks r)
          · have h3 : y ∉ movedF (ks l) (ks r) := fun q => by
              have := (List.mem_filter.mp q).2
              simp [h2] at this
            simp [h1, h2, h3]
          · have h3 : y ∈ movedF (ks l) (ks r) := List.mem_filter.mpr ⟨h1, by simp [hy, h2]⟩
            simp [h1, h2, h3]
        · have h2 : y ∉ staysF (ks l) (ks r) := fun q => h1 ((stays_subR ndr).mem q)
          simp [h1, h2]
      rw [e1, filter_sub ndl (stays_subL _ _), filter_sub ndr (stays_subR ndr)]
      rfl
    · have := (List.mem_filter.mp hm).2
      have h2 : x ∈ ks l := by
        simp at this
        exact this.1
      exact List.mem_filter.mpr ⟨h2, by simpa using hx⟩
  obtain ⟨L', m1, m2⟩ := mids_lead ndl ndr r [] _ rfl I0
  have hL : L' = ks r := by
    have := m2.row
    have e : L'.filter (calm (movedF (ks l) (ks r)) []) = L' := List.filter_eq_self.mpr fun y _ => by simp [calm]
    rw [e] at this
    simpa using this
  show (do let s ← (midsT l r (movedF (ks l) (ks r)) 0 r).foldlM doneF (((ks l).filter fun y => (ks r).contains y).map (gv (ovF l r))); (changesT l r).foldlM doneF s) = some r
  have m1' : (midsT l r (movedF (ks l) (ks r)) 0 r).foldlM doneF (((ks l).filter fun y => (ks r).contains y).map (gv (ovF l r))) = some (L'.map (gv (ovF l r))) := m1
  rw [m1', hL]
  have := changes_lead l r r [] (by simpa using ndr) (fun p hp => lookup_nodup ndr p hp)
  simp only [List.nil_append] at this
  exact this
theorem led_deeds {l r : Things} (gl : Good l) (gr : Good r) : ledF l (deedsT l r) = some r := by
  unfold ledF
  rw [deeds_lead gl.nd gr.nd]
  simp [gr.len]
theorem led_two {l m r : Things} (gl : Good l) (gm : Good m) (gr : Good r) : ledF l (deedsT l m ++ deedsT m r) = some r := by
  unfold ledF
  rw [List.foldlM_append, deeds_lead gl.nd gm.nd]
  show (match (deedsT m r).foldlM doneF m with | some r => if r.length ≤ 16 then some r else none | none => none) = some r
  rw [deeds_lead gm.nd gr.nd]
  simp [gr.len]
end Cd
end
section
set_option linter.all false
set_option maxRecDepth 100000
set_option maxHeartbeats 1000000
namespace MP
theorem ev_keysT {G : Fns} {fl : Nat} {ρ : Env} {h : Hp} {i a b : Nat} (l : List (Txt × Int)) (hv : ρ[i]? = some (some (.tup (l.map tD)))) (ha : a < ρ.length) (hb : b < ρ.length) (hab : a ≠ b) : ev G fl (.comp [a, b] (.t [.v a, .v b]) (.seq (.var i)) none (.var a)) ρ h = .ok (.nls (l.map fun p => .str p.1)) h := by
  refine ev_compM (h1 := h) (s := .fix (l.map tD)) tD (fun p => .str p.1) l (by simp [hv]) rfl (fun p hp => ?_)
  obtain ⟨ρ2, h2⟩ : ∃ ρ2, ρ2 = (((ρ.set b none).set a none).set a (some (.str p.1))).set b (some (.int p.2)) := ⟨_, rfl⟩
  have e1 : bindT h (.t [.v a, .v b]) (tD p) (wipe ρ [a, b]) = some ρ2 := by rw [h2]; simp [tD, bindT, bindTs, wipe, ha, hb]
  have e2 : ρ2[a]? = some (some (.str p.1)) := by rw [h2, List.getElem?_set_ne (Ne.symm hab), List.getElem?_set_self (by simpa using ha)]
  unfold turn
  rw [e1]
  simp [e2]
theorem slc_lstN (h : Hp) (l : List D) (lo hi : Option Int) : slcOp h (.d (.lst l)) lo hi = some (.nls (cut l lo hi)) := rfl
theorem slc_tup (h : Hp) (l : List D) (lo hi : Option Int) : slcOp h (.d (.tup l)) lo hi = some (.d (.tup (cut l lo hi))) := rfl
theorem cut_to {α : Type} (l : List α) (n : Nat) : cut l none (some (n : Int)) = l.take n := by
  simp only [cut, cutAt]
  rw [if_pos (by omega), List.drop_zero, Int.toNat_natCast]
  by_cases h : n ≤ l.length
  · rw [Nat.min_eq_left h]
  · rw [Nat.min_eq_right (by omega), List.take_of_length_le (Nat.le_refl _), List.take_of_length_le (by omega)]
theorem cut_from {α : Type} (l : List α) (n : Nat) : cut l (some (n : Int)) none = l.drop n := by
  simp only [cut, cutAt]
  rw [if_pos (by omega), List.take_length, Int.toNat_natCast]
  by_cases h : n ≤ l.length
  · rw [Nat.min_eq_left h]
  · rw [Nat.min_eq_right (by omega), List.drop_length, List.drop_eq_nil_of_le (by omega)]
theorem addV_tt {h : Hp} {l r : List D} (hz : l.length + r.length ≤ most) : addV h (.d (.tup l)) (.d (.tup r)) = some (.d (.tup (l ++ r))) := by simp [addV, hz]
end MP
namespace Cd
open MP
variable {P : Nat → Option Def} [Ext P]
theorem erase_things : ∀ {l : Things} {k : Txt}, (ks l).Nodup → k ∈ ks l → l.eraseIdx ((ks l).idxOf k) = l.filter fun p => p.1 != k
  | p :: l, k, nd, h => by
    obtain ⟨n1, n2⟩ := List.nodup_cons.mp (show (p.1 :: ks l).Nodup from nd)
    show (p :: l).eraseIdx ((p.1 :: ks l).idxOf k) = _
    by_cases e : p.1 = k
    · subst e
      rw [List.idxOf_cons_self, List.eraseIdx_cons_zero, List.filter_cons_of_neg (by simp)]
      symm
      rw [List.filter_eq_self]
      intro z hz
      have : z.1 ≠ p.1 := fun q => n1 (q ▸ List.mem_map_of_mem hz)
      simpa using this
    · have hx : k ∈ ks l := by
        rcases List.mem_cons.mp (show k ∈ p.1 :: ks l from h) with q | q
        · exact absurd q.symm e
        · exact q
      rw [List.idxOf_cons, beq_eq_false_iff_ne.mpr e]
      simp only [Bool.cond_false, List.eraseIdx_cons_succ]
      rw [List.filter_cons_of_pos (by simpa using e), erase_things n2 hx]
theorem set_things : ∀ {l : Things} {k : Txt} {v : Int}, (ks l).Nodup → k ∈ ks l → l.set ((ks l).idxOf k) (k, v) = l.map fun p => if p.1 = k then (p.1, v) else p
  | p :: l, k, v, nd, h => by
    obtain ⟨n1, n2⟩ := List.nodup_cons.mp (show (p.1 :: ks l).Nodup from nd)
    show (p :: l).set ((p.1 :: ks l).idxOf k) (k, v) = _
    by_cases e : p.1 = k
    · subst e
      rw [List.idxOf_cons_self, List.set_cons_zero, List.map_cons, if_pos rfl]
      congr 1
      conv => lhs; rw [← List.map_id l]
      apply List.map_congr_left
      intro z hz
      have : z.1 ≠ p.1 := fun q => n1 (q ▸ List.mem_map_of_mem hz)
      rw [if_neg this]; rfl
    · have hx : k ∈ ks l := by
        rcases List.mem_cons.mp (show k ∈ p.1 :: ks l from h) with q | q
        · exact absurd q.symm e
        · exact q
      rw [List.idxOf_cons, beq_eq_false_iff_ne.mpr e]
      simp only [Bool.cond_false, List.set_cons_succ, List.map_cons, if_neg e]
      rw [set_things n2 hx]
theorem notin_filter {l : Things} {k : Txt} (h : k ∉ ks l) : l.filter (fun p => p.1 != k) = l := List.filter_eq_self.mpr fun p hp => by
  have : p.1 ≠ k := fun q => h (q ▸ List.mem_map_of_mem hp)
  simpa using this
def oD : Option Things → D
  | none => .non
  | some r => .tup (r.map tD)
abbrev aE (row : Things) (d : Deed) (x2 x3 x4 x5 x6 : Option D) : Env := [some (.tup (row.map tD)), some (dD d), x2, x3, x4, x5, x6, none, none]
def keyT : Deed → Txt
  | .strike k => k
  | .put k _ _ => k
  | .move k _ => k
  | .change k _ => k
theorem sub_keyT {h : Hp} (d : Deed) : subOp h (.d (dD d)) (.d (.int 1)) = some (.d (.str (keyT d))) := by cases d <;> simp [dD, keyT]
abbrev sApply2 : List Stm := [
  (.asg false (.v 5) (.comp [7, 8] (.t [(.v 7), (.v 8)]) (.seq (.var 3)) none (.var 7))),
  (.ifs (.cmp .isn (.sub (.var 1) (.neg (.cst (.int 1)))) (.cst .non)) [(.ret (.bin .add (.tup [(.var 4)]) (.var 3)))] []),
  (.ifs (.cmp .notin (.sub (.var 1) (.neg (.cst (.int 1)))) (.var 5)) [(.ret (.cst .non))] []),
  (.asg false (.v 6) (.bin .add (.mth .index (.var 5) [(.sub (.var 1) (.neg (.cst (.int 1))))]) (.cst (.int 1)))),
  (.ret (.bin .add (.bin .add (.slc (.var 3) none (some (.var 6))) (.tup [(.var 4)])) (.slc (.var 3) (some (.var 6)) none)))]
theorem apply_put {G : Fns} {fl : Nat} {row rest : Things} {d : Deed} {p : Txt × Int} {b : Option Txt} {x2 : Option D} {h : Hp} (hb : subOp h (.d (dD d)) (.d (.int (-1))) = some (.d (bD b))) (hz : rest.length ≤ 900) :
    exs G fl sApply2 (aE row d x2 (some (.tup (rest.map tD))) (some (tD p)) none none) h = .rt (.d (oD (putBehindF rest p b))) h := by
  have kk := ev_keysT (G := G) (fl := fl) (ρ := aE row d x2 (some (.tup (rest.map tD))) (some (tD p)) none none) (h := h) (i := 3) (a := 7) (b := 8) rest rfl (by simp) (by simp) (by decide)
  have km : rest.map (fun p => D.str p.1) = (ks rest).map .str := by simp [ks]
  rw [km] at kk
  refine exs_to (ρ1 := aE row d x2 (some (.tup (rest.map tD))) (some (tD p)) (some (.lst ((ks rest).map .str))) none) (h1 := h) (by rw [ex_asgV, kk]; simp) ?_
  cases b with
  | none =>
    have a1 := addV_tt (h := h) (l := [tD p]) (r := rest.map tD) (by simp [most]; omega)
    simp only [bD] at hb
    simp [hb, a1, putBehindF, oD, insertAt]
  | some k =>
    simp only [bD] at hb
    by_cases c : k ∈ ks rest
    · have il := idx_lt c
      rw [ks_len] at il
      have e1 : slcOp h (.d (.tup (rest.map tD))) none (some (((ks rest).idxOf k : Int) + 1)) = some (.d (.tup ((rest.take ((ks rest).idxOf k + 1)).map tD))) := by
        rw [slc_tup, show (((ks rest).idxOf k : Int) + 1) = (((ks rest).idxOf k + 1 : Nat) : Int) by omega, cut_to, List.map_take]
      have e2 : slcOp h (.d (.tup (rest.map tD))) (some (((ks rest).idxOf k : Int) + 1)) none = some (.d (.tup ((rest.drop ((ks rest).idxOf k + 1)).map tD))) := by
        rw [slc_tup, show (((ks rest).idxOf k : Int) + 1) = (((ks rest).idxOf k + 1 : Nat) : Int) by omega, cut_from, List.map_drop]
      have a1 := addV_tt (h := h) (l := (rest.take ((ks rest).idxOf k + 1)).map tD) (r := [tD p]) (by simp [most]; omega)
      have a2 := addV_tt (h := h) (l := (rest.take ((ks rest).idxOf k + 1)).map tD ++ [tD p]) (r := (rest.drop ((ks rest).idxOf k + 1)).map tD) (by simp [most]; omega)
      have fin : (rest.take ((ks rest).idxOf k + 1)).map tD ++ [tD p] ++ (rest.drop ((ks rest).idxOf k + 1)).map tD = (insertAt rest ((ks rest).idxOf k + 1) p).map tD := by simp [insertAt]
      rw [fin] at a2
      simp [hb, in_strs, c, bIndex_strs c, e1, e2, a1, a2, putBehindF, oD, -List.map_take, -List.map_drop]
    · simp [hb, in_strs, c, putBehindF, oD]
theorem p_apply {row : Things} {d : Deed} (nd : (ks row).Nodup) (hz : row.length ≤ 900) (n fl : Nat) (h : Hp) : callA (lev P (n + 1)) true 112 [.tup (row.map tD), dD d] fl h = .ok (.d (oD (doneF row d))) h := by
  have nro : ∀ o : Option Things, outV h.length h (.d (oD o)) = some (.d (oD o)) := fun o => by cases o <;> simp [oD, outV, nrN]
  refine callM_of (d := c_law_apply) (v := .d (oD (doneF row d))) (h' := h) rfl (run_rt (ρ := aE row d none none none none none) rfl rfl ?_) (nro _)
  have kk := ev_keysT (G := lev P n) (fl := h.length) (ρ := aE row d none none none none none) (h := h) (i := 0) (a := 7) (b := 8) row rfl (by simp) (by simp) (by decide)
  have km : row.map (fun p => D.str p.1) = (ks row).map .str := by simp [ks]
  rw [km] at kk
  refine exs_to (ρ1 := aE row d (some (.lst ((ks row).map .str))) none none none none) (h1 := h) (by rw [ex_asgV, kk]; simp) ?_
  have wn := wordsNe
  have rs := ev_compT (G := lev P n) (fl := h.length) (ρ := aE row d (some (.lst ((ks row).map .str))) none none none none) (own := [4]) (tg := .v 4) (it := .seq (.var 0)) (cond := some (.cmp .ne (.sub (.var 4) (.cst (.int 0))) (.sub (.var 1) (.cst (.int 1))))) (elt := .var 4) (h1 := h) (h := h) (s := .fix (row.map tD)) tD (fun p => p.1 != keyT d) tD row (by simp) rfl (fun p hp => by
    by_cases c : p.1 = keyT d <;> simp [turn, bindT, wipe, tD, sub_keyT, c])
  have s3 : ex (lev P n) h.length (.asg false (.v 3) (.blt .tuple [(.comp [4] (.v 4) (.seq (.var 0)) (some (.cmp .ne (.sub (.var 4) (.cst (.int 0))) (.sub (.var 1) (.cst (.int 1))))) (.var 4))])) (aE row d (some (.lst ((ks row).map .str))) none none none none) h = .nx (aE row d (some (.lst ((ks row).map .str))) (some (.tup ((row.filter fun p => p.1 != keyT d).map tD))) none none none) h := by
    rw [ex_asgV, ev_blt, evV_cons, rs]; simp
  cases d with
  | put k v b =>
    by_cases c : k ∈ ks row
    · simp only [doneF, if_pos c]
      refine exs_rt ?_
      simp [dD, in_strs, c, wn, oD]
    · simp only [doneF, if_neg c]
      refine exs_to (ρ1 := aE row (.put k v b) (some (.lst ((ks row).map .str))) none none none none) (h1 := h) (by simp [dD, in_strs, c, wn]) ?_
      refine exs_to (ρ1 := aE row (.put k v b) (some (.lst ((ks row).map .str))) none none none none) (h1 := h) (by simp [dD, show (putT = [99, 104, 97, 110, 103, 101]) = False by decide]) ?_
      refine exs_to s3 ?_
      refine exs_to (ρ1 := aE row (.put k v b) (some (.lst ((ks row).map .str))) (some (.tup ((row.filter fun p => p.1 != k).map tD))) none none none) (h1 := h) (by simp [dD, show (putT = [115, 116, 114, 105, 107, 101]) = False by decide, keyT]) ?_
      refine exs_to (ρ1 := aE row (.put k v b) (some (.lst ((ks row).map .str))) (some (.tup ((row.filter fun p => p.1 != k).map tD))) (some (tD (k, v))) none none) (h1 := h) (by simp [dD, wn, tD]) ?_
      rw [notin_filter c]
      exact apply_put (b := b) (by simp [dD]) hz
  | strike k =>
    by_cases c : k ∈ ks row
    · simp only [doneF, if_pos c]
      refine exs_to (ρ1 := aE row (.strike k) (some (.lst ((ks row).map .str))) none none none none) (h1 := h) (by simp [dD, in_strs, c, wn]) ?_
      refine exs_to (ρ1 := aE row (.strike k) (some (.lst ((ks row).map .str))) none none none none) (h1 := h) (by simp [dD, wn]) ?_
      refine exs_to s3 (exs_rt ?_)
      rw [erase_things nd c]
      simp [dD, wn, oD, keyT]
    · simp only [doneF, if_neg c]
      refine exs_rt ?_
      simp [dD, in_strs, c, wn, oD]
  | change k v =>
    by_cases c : k ∈ ks row
    · simp only [doneF, if_pos c]
      refine exs_to (ρ1 := aE row (.change k v) (some (.lst ((ks row).map .str))) none none none none) (h1 := h) (by simp [dD, in_strs, c, wn]) ?_
      have ch := ev_compM (G := lev P n) (fl := h.length) (ρ := aE row (.change k v) (some (.lst ((ks row).map .str))) none none none none) (own := [7, 8]) (tg := .t [(.v 7), (.v 8)]) (it := .seq (.var 0)) (cond := none) (elt := .ife (.cmp .eq (.var 7) (.sub (.var 1) (.cst (.int 1)))) (.tup [(.var 7), (.sub (.var 1) (.cst (.int 2)))]) (.tup [(.var 7), (.var 8)])) (h1 := h) (h := h) (s := .fix (row.map tD)) tD (fun p => tD (if p.1 = k then (p.1, v) else p)) row (by simp) rfl (fun p hp => by
        by_cases c : p.1 = k <;> simp [turn, bindT, bindTs, wipe, tD, dD, c])
      rw [set_things nd c]
      refine exs_rt ?_
      have mm : row.map (fun p => tD (if p.1 = k then (p.1, v) else p)) = (row.map fun p => if p.1 = k then (p.1, v) else p).map tD := by rw [List.map_map]; rfl
      rw [mm] at ch
      rw [ex_ifs]
      have tt : evT (lev P n) h.length (.cmp .eq (.sub (.var 1) (.cst (.int 0))) (.cst (.str [99, 104, 97, 110, 103, 101]))) (aE row (.change k v) (some (.lst ((ks row).map .str))) none none none none) h = .ok true h := by simp [dD, wn]
      rw [tt]
      simp only [R.st_ok, if_true]
      rw [exs_cons, ex_ret, ev_blt, evV_cons, ch]
      simp [oD, -List.map_map]
    · simp only [doneF, if_neg c]
      refine exs_rt ?_
      simp [dD, in_strs, c, wn, oD]
  | move k b =>
    by_cases c : k ∈ ks row
    · simp only [doneF, if_pos c]
      have il := idx_lt c
      rw [ks_len] at il
      refine exs_to (ρ1 := aE row (.move k b) (some (.lst ((ks row).map .str))) none none none none) (h1 := h) (by simp [dD, in_strs, c, wn]) ?_
      refine exs_to (ρ1 := aE row (.move k b) (some (.lst ((ks row).map .str))) none none none none) (h1 := h) (by simp [dD, wn]) ?_
      refine exs_to s3 ?_
      refine exs_to (ρ1 := aE row (.move k b) (some (.lst ((ks row).map .str))) (some (.tup ((row.filter fun p => p.1 != k).map tD))) none none none) (h1 := h) (by simp [dD, wn, keyT]) ?_
      have st := sub_things (a := .d (.tup (row.map tD))) (h := h) (i := ((ks row).idxOf k : Int)) rfl (by omega) (by omega)
      rw [Int.toNat_natCast] at st
      refine exs_to (ρ1 := aE row (.move k b) (some (.lst ((ks row).map .str))) (some (.tup ((row.filter fun p => p.1 != k).map tD))) (some (tD (row.getD ((ks row).idxOf k) ([], 0)))) none none) (h1 := h) (by simp [dD, wn, bIndex_strs c, st]) ?_
      rw [erase_things nd c]
      exact apply_put (b := b) (by simp [dD]) (Nat.le_trans (List.length_filter_le _ _) hz)
    · simp only [doneF, if_neg c]
      refine exs_rt ?_
      simp [dD, in_strs, c, wn, oD]
end Cd
end
section
set_option linter.all false
set_option maxRecDepth 100000
set_option maxHeartbeats 1000000
namespace MP
@[simp] theorem ex_tri {G : Fns} {fl : Nat} {ρ : Env} {h : Hp} {kn : List Nat} {b : List Stm} {hs : List (Nat × Stm)} : ex G fl (.tri kn b hs) ρ h = match exs G fl b ρ h with
    | .exc c ρ h => if kn.contains c then exH G fl hs c ρ h else .err
    | r => r := by first | (rw [ex]; done) | (rw [ex]; rfl)
@[simp] theorem exH_nil {G : Fns} {fl : Nat} {ρ : Env} {h : Hp} {c : Nat} : exH G fl [] c ρ h = .exc c ρ h := by first | (rw [exH]; done) | (rw [exH]; rfl)
@[simp] theorem exH_cons {G : Fns} {fl : Nat} {ρ : Env} {h : Hp} {c k : Nat} {s : Stm} {r : List (Nat × Stm)} : exH G fl ((k, s) :: r) c ρ h = if under c k then ex G fl s ρ h else exH G fl r c ρ h := by first | (rw [exH]; done) | (rw [exH]; rfl)
theorem eqD_tD (p q : Txt × Int) : eqD (tD p) (tD q) = decide (p = q) := by
  obtain ⟨a, v⟩ := p
  obtain ⟨b, w⟩ := q
  simp only [tD, eqD, eqL, Bool.and_true]
  by_cases h1 : a = b <;> by_cases h2 : v = w <;> simp [h1, h2]
theorem eqL_map {α : Type} [DecidableEq α] {f : α → D} (hf : ∀ a b, eqD (f a) (f b) = decide (a = b)) : ∀ l r : List α, eqL (l.map f) (r.map f) = decide (l = r)
  | [], [] => by simp [eqL]
  | [], y :: r => by simp [eqL]
  | x :: l, [] => by simp [eqL]
  | x :: l, y :: r => by
    simp only [List.map_cons, eqL, hf, eqL_map hf l r]
    by_cases h1 : x = y <;> by_cases h2 : l = r <;> simp [h1, h2]
theorem sub_last {h : Hp} {r : Nat} {l : List D} {x : D} (hr : h[r]? = some (.lst (l ++ [x]))) : subOp h (.d (.ref r)) (.d (.int (-1))) = some (.d x) := by
  have : ¬ (0 : Int) ≤ -1 := by decide
  have e : atIx (l.length + 1) (-1) = some l.length := by
    simp only [atIx, if_neg this]
    rw [if_pos (by omega)]
    congr 1
    omega
  simp only [subOp, seqOf, hr, List.length_append, List.length_singleton, e]
  simp
theorem sub_four (h : Hp) (x y z w : D) (i : Int) : subOp h (.d (.lst [x, y, z, w])) (.d (.int (i % 4))) = some (.d (if i % 4 = 0 then x else if i % 4 = 1 then y else if i % 4 = 2 then z else w)) := by
  have h1 := Int.emod_nonneg i (by decide : (4 : Int) ≠ 0)
  have h2 := Int.emod_lt_of_pos i (by decide : (0 : Int) < 4)
  have : i % 4 = 0 ∨ i % 4 = 1 ∨ i % 4 = 2 ∨ i % 4 = 3 := by omega
  rcases this with e | e | e | e <;> rw [e] <;> rfl
end MP
namespace Cd
open MP
variable {P : Nat → Option Def} [Ext P]
theorem eq_oD {h : Hp} (o o' : Option Things) : eqVl h (.d (oD o)) (.d (oD o')) = some (decide (o = o')) := by
  cases o with
  | none =>
    cases o' with
    | none => simp [eqVl, dataOf, oD, nrN, eqD]
    | some b => simp [eqVl, dataOf, oD, nrN, eqD]
  | some a =>
    cases o' with
    | none => simp [eqVl, dataOf, oD, nrN, eqD]
    | some b =>
      have : eqD (.tup (a.map tD)) (.tup (b.map tD)) = decide (a = b) := by rw [eqD, eqL_map eqD_tD]
      simp [eqVl, dataOf, oD, nrN, this]
theorem isNon_oD (o : Option Things) : isNon (.d (oD o)) = decide (o = none) := by cases o <;> rfl
theorem fold_bind (ds : List Deed) (o : Option Things) : ds.foldl (fun o d => o.bind (doneF · d)) o = o.bind fun l => ds.foldlM doneF l := by
  induction ds generalizing o with
  | nil => cases o <;> rfl
  | cons d ds ih =>
    rw [List.foldl_cons, ih]
    cases o with
    | none => rfl
    | some l => rw [Option.bind_some, Option.bind_some, List.foldlM_cons]; rfl
theorem p_behind_all {l : Things} {ds : List Deed} (g : Good l) (gd : ∀ d ∈ ds, GoodD d) (hz : ds.length ≤ 800) (n fl : Nat) (h : Hp) : callA (lev P (n + 2)) true 119 [.tup (l.map tD), .lst (ds.map dD)] fl h = .ok (.d (oD (ledF l ds))) h := by
  have l16 := g.len
  obtain ⟨ρ', h', ef, ⟨x, e1⟩, e2⟩ := for_fold (t := .v 3) (body := fun ρ hh => exs (lev P (n + 1)) h.length [(.asg false (.v 2) (.ife (.cmp .isn (.var 2) (.cst .non)) (.cst .non) (.call true 112 [(.var 2), (.var 3)])))] ρ hh) dD (fun (o : Option Things) d => o.bind (doneF · d))
    (fun o ρ hh => (∃ x, ρ = [some (.tup (l.map tD)), some (.lst (ds.map dD)), some (oD o), x]) ∧ hh = h) ds (some l) [some (.tup (l.map tD)), some (.lst (ds.map dD)), some (.tup (l.map tD)), none] h ⟨⟨_, rfl⟩, rfl⟩ fun d x r ρ hh q ⟨⟨y, e1⟩, e2⟩ => by
      subst e1 e2
      have fb := fold_bind d (some l)
      rw [Option.bind_some] at fb
      rw [fb]
      have dl : d.length ≤ 800 := by have := congrArg List.length q; simp at this; omega
      cases qd : d.foldlM doneF l with
      | none => exact ⟨[some (.tup (l.map tD)), some (.lst (ds.map dD)), some (oD none), some (dD x)], by simp [bindT, oD], [some (.tup (l.map tD)), some (.lst (ds.map dD)), some (oD none), some (dD x)], hh, .inl (by simp [oD]), ⟨_, rfl⟩, rfl⟩
      | some row =>
        have gr := fold_goodD d g.goodN (fun z hz => gd z (by rw [q]; simp [hz])) qd
        have rl := gr.len
        have pa := p_apply (P := P) (row := row) (d := x) gr.nd (by omega) n hh.length hh
        exact ⟨[some (.tup (l.map tD)), some (.lst (ds.map dD)), some (oD (some row)), some (dD x)], by simp [bindT, oD], [some (.tup (l.map tD)), some (.lst (ds.map dD)), some (oD (doneF row x)), some (dD x)], hh, .inl (by simp [oD, pa, isNon]), ⟨_, rfl⟩, rfl⟩
  subst e1 e2
  rw [fold_bind, Option.bind_some] at ef
  have nro : ∀ o : Option Things, outV h'.length h' (.d (oD o)) = some (.d (oD o)) := fun o => by cases o <;> simp [oD, outV, nrN]
  refine callM_of (d := c_law_behind_all) (v := .d (oD (ledF l ds))) (h' := h') rfl (run_rt (ρ := [some (.tup (l.map tD)), some (.lst (ds.map dD)), none, none]) rfl rfl ?_) (nro _)
  refine exs_to (ρ1 := [some (.tup (l.map tD)), some (.lst (ds.map dD)), some (.tup (l.map tD)), none]) (h1 := h') (by simp) ?_
  refine exs_to ((ex_for (l := ds.map dD) (h1 := h') (by simp)).trans ef) ?_
  unfold ledF
  cases q : ds.foldlM doneF l with
  | none => simp [oD]
  | some row =>
    by_cases c : row.length ≤ 16
    · have c' : ¬ (16 : Int) < (row.length : Int) := by omega
      simp [oD, c, c', isNon]
    · have c' : (16 : Int) < (row.length : Int) := by omega
      simp [oD, c, c', isNon]
theorem p_leads {l : Things} {ds : List Deed} (goal : Things) (g : Good l) (gd : ∀ d ∈ ds, GoodD d) (hz : ds.length ≤ 800) (n fl : Nat) (h : Hp) : callA (lev P (n + 5)) true 109 [.tup (l.map tD), .lst (ds.map dD), .tup (goal.map tD)] fl h = .ok (.d (.bl (decide (ledF l ds = some goal)))) h := by
  refine callM_of (d := c_leads) (v := .d (.bl (decide (ledF l ds = some goal)))) (h' := h) rfl (run_rt (ρ := [some (.tup (l.map tD)), some (.lst (ds.map dD)), some (.tup (goal.map tD)), none]) rfl rfl ?_) rfl
  have ld := p_led (P := P) g gd (by omega) n h.length h
  have eq1 := eq_oD (h := h) (ledF l ds) (some goal)
  refine exs_to (ρ1 := [some (.tup (l.map tD)), some (.lst (ds.map dD)), some (.tup (goal.map tD)), some (oD (ledF l ds))]) (h1 := h) ?_ ?_
  · cases q : ledF l ds with
    | none => rw [q] at ld; simp [ld, oD, under]
    | some r => rw [q] at ld; simp [ld, oD]
  · have e : oD (some goal) = .tup (goal.map tD) := rfl
    rw [e] at eq1
    simp [eq1]
/-- each deed can be done, none makes it too long -/
def Ok16 : Things → List Deed → Prop
  | _, [] => True
  | l, d :: ds => ∃ r, doneF l d = some r ∧ r.length ≤ 16 ∧ Ok16 r ds
def rowsF : Things → List Deed → List Things
  | l, [] => [l]
  | l, d :: ds => l :: rowsF ((doneF l d).getD []) ds
theorem ok_fold : ∀ {ds : List Deed} {l : Things}, Ok16 l ds → l.length ≤ 16 → ∃ r, ds.foldlM doneF l = some r ∧ r.length ≤ 16
  | [], l, _, h => ⟨l, rfl, h⟩
  | d :: ds, l, ⟨r, e, z, o⟩, _ => by
    obtain ⟨r2, e2, z2⟩ := ok_fold o z
    exact ⟨r2, by rw [List.foldlM_cons, e]; exact e2, z2⟩
theorem ok_led {ds : List Deed} {l : Things} (o : Ok16 l ds) (h : l.length ≤ 16) : ∃ r, ledF l ds = some r ∧ ds.foldlM doneF l = some r ∧ r.length ≤ 16 := by
  obtain ⟨r, e, z⟩ := ok_fold o h
  exact ⟨r, by unfold ledF; rw [e]; simp [z], e, z⟩
theorem ok_snoc : ∀ {ds : List Deed} {l : Things} {d : Deed} {r r' : Things}, Ok16 l ds → ds.foldlM doneF l = some r → doneF r d = some r' → r'.length ≤ 16 → Ok16 l (ds ++ [d])
  | [], l, d, r, r', _, e, e2, z => by
    have : l = r := Option.some.inj e
    subst this
    exact ⟨r', e2, z, trivial⟩
  | x :: ds, l, d, r, r', ⟨q, e1, z1, o⟩, e, e2, z => by
    rw [List.foldlM_cons, e1] at e
    exact ⟨q, e1, z1, ok_snoc o e e2 z⟩
theorem ok_pre : ∀ {a b : List Deed} {l : Things}, Ok16 l (a ++ b) → Ok16 l a
  | [], b, l, _ => trivial
  | d :: a, b, l, ⟨r, e, z, o⟩ => ⟨r, e, z, ok_pre o⟩
theorem rows_snoc : ∀ (ds : List Deed) (l : Things) (d : Deed) (r : Things), ds.foldlM doneF l = some r → rowsF l (ds ++ [d]) = rowsF l ds ++ [(doneF r d).getD []]
  | [], l, d, r, e => by
    have : l = r := Option.some.inj e
    subst this
    rfl
  | x :: ds, l, d, r, e => by
    rw [List.foldlM_cons] at e
    cases q : doneF l x with
    | none => rw [q] at e; cases e
    | some l' =>
      rw [q] at e
      simp only [List.cons_append, rowsF, q, Option.getD_some]
      rw [rows_snoc ds l' d r e]
theorem rows_last : ∀ (ds : List Deed) (l r : Things), ds.foldlM doneF l = some r → ∃ L, rowsF l ds = L ++ [r]
  | [], l, r, e => by
    have : l = r := Option.some.inj e
    subst this
    exact ⟨[], rfl⟩
  | x :: ds, l, r, e => by
    rw [List.foldlM_cons] at e
    cases q : doneF l x with
    | none => rw [q] at e; cases e
    | some l' =>
      rw [q] at e
      obtain ⟨L, hL⟩ := rows_last ds l' r e
      exact ⟨l :: L, by simp [rowsF, q, hL]⟩
theorem rows_len : ∀ (ds : List Deed) (l : Things), (rowsF l ds).length = ds.length + 1
  | [], _ => rfl
  | d :: ds, l => by simp [rowsF, rows_len ds]
def tU (l : Things) : D := .tup (l.map tD)
@[simp] theorem nr_tU (L : List Things) (k : Nat) : nrL (k + 2) (L.map tU) = true := nrL_all fun d hd => by
  obtain ⟨t, _, rfl⟩ := List.mem_map.mp hd
  simp [tU, nrN]
/-- a loop that appends the next row each turn -/
theorem rows_loop {G : Fns} {fl : Nat} {E : D → Option D → Env} {r : Nat} {t : Tg} {e : Ex} {i : Nat} {l : Things} {ds : List Deed} {h : Hp} (hr : ¬ r < fl) (hrl : r = h.length) (g : Good l) (gd : ∀ d ∈ ds, GoodD d) (ok : Ok16 l ds) (hz : ds.length ≤ 800) (x0 : Option D)
    (hv : ∀ x, (E (.ref r) x)[i]? = some (some (.ref r))) (hb : ∀ x d, bindT h t (dD d) (E (.ref r) x) = some (E (.ref r) (some (dD d))) ∧ ∀ o, bindT (h ++ [o]) t (dD d) (E (.ref r) x) = some (E (.ref r) (some (dD d))))
    (he : ∀ (hh : Hp) (row : Things) (row' : Things) (d : Deed) (L : List Things), GoodN 900 row → row.length ≤ 16 → GoodD d → doneF row d = some row' → row'.length ≤ 16 → hh = h ++ [.lst ((L ++ [row]).map tU)] → ev G fl e (E (.ref r) (some (dD d))) hh = .ok (.d (tU row')) hh) :
    ∃ x, forFix t (fun ρ hh => exs G fl [(.exp (.mth .append (.var i) [e]))] ρ hh) (ds.map dD) (E (.ref r) x0) (h ++ [.lst [tU l]]) = .nx (E (.ref r) x) (h ++ [.lst ((rowsF l ds).map tU)]) := by
  subst hrl
  obtain ⟨ρ', h', ef, ⟨x, e1⟩, e2⟩ := for_fold (t := t) (body := fun ρ hh => exs G fl [(.exp (.mth .append (.var i) [e]))] ρ hh) dD (fun (a : List Deed) d => a ++ [d])
    (fun a ρ hh => (∃ x, ρ = E (.ref h.length) x) ∧ hh = h ++ [.lst ((rowsF l a).map tU)]) ds [] (E (.ref h.length) x0) (h ++ [.lst [tU l]]) ⟨⟨_, rfl⟩, rfl⟩ fun d x rr ρ hh q ⟨⟨y, e1⟩, e2⟩ => by
      have fid : ∀ (d a : List Deed), d.foldl (fun (a : List Deed) d => a ++ [d]) a = a ++ d := fun d => by
        induction d with
        | nil => intro a; simp
        | cons x d ih => intro a; rw [List.foldl_cons, ih]; simp
      have fi := fid d []
      rw [List.nil_append] at fi
      rw [fi] at e2 ⊢
      subst e1 e2
      have okd : Ok16 l (d ++ [x]) := ok_pre (b := rr) (by rw [q] at ok; simpa using ok)
      have okd0 : Ok16 l d := ok_pre okd
      obtain ⟨row, f1, f2⟩ := ok_fold okd0 g.len
      have gr := fold_goodD d g.goodN (fun z hz => gd z (by rw [q]; simp [hz])) f1
      have dl : d.length ≤ 800 := by have := congrArg List.length q; simp at this; omega
      obtain ⟨row', f3, f4⟩ := ok_fold okd g.len
      rw [List.foldlM_append, f1] at f3
      have f5 : doneF row x = some row' := by
        have : [x].foldlM doneF row = some row' := f3
        rw [List.foldlM_cons] at this
        cases q2 : doneF row x with
        | none => rw [q2] at this; cases this
        | some z => rw [q2] at this; exact this
      obtain ⟨L, hL⟩ := rows_last d l row f1
      have rs := rows_snoc d l x row f1
      rw [f5, Option.getD_some] at rs
      have ev1 := he (h ++ [.lst ((L ++ [row]).map tU)]) row row' x L (gr.mono (by omega)) f2 (gd x (by rw [q]; simp)) f5 f4 rfl
      rw [hL]
      refine ⟨E (.ref h.length) (some (dD x)), (hb y x).2 _, E (.ref h.length) (some (dD x)), h ++ [.lst ((rowsF l (d ++ [x])).map tU)], .inl ?_, ⟨_, rfl⟩, rfl⟩
      have ll : (L ++ [row]).length ≤ 801 := by rw [← hL, rows_len]; omega
      have lm : ((L ++ [row]).map tU).length < most := by rw [List.length_map]; unfold most; omega
      have hat : (h ++ [.lst ((L ++ [row]).map tU)])[h.length]? = some (.lst ((L ++ [row]).map tU)) := by simp
      have ap := bAppend_d (fl := fl) (x := tU row') hat hr lm
      rw [rs, hL]
      obtain ⟨hh, hhh⟩ : ∃ hh : Hp, hh = h ++ [.lst ((L ++ [row]).map tU)] := ⟨_, rfl⟩
      rw [← hhh] at ev1 ap hat ⊢
      simp [hv, hat, ev1, ap]
      rw [hhh]
      simp
  have fid : ∀ (d a : List Deed), d.foldl (fun (a : List Deed) d => a ++ [d]) a = a ++ d := fun d => by
    induction d with
    | nil => intro a; simp
    | cons x d ih => intro a; rw [List.foldl_cons, ih]; simp
  rw [fid, List.nil_append] at e2
  exact ⟨x, by rw [ef, e1, e2]⟩
end Cd
end
section
set_option linter.all false
set_option maxRecDepth 100000
set_option maxHeartbeats 1000000
namespace Cd
open MP
variable {P : Nat → Option Def} [Ext P]
theorem led_one {row row' : Things} {d : Deed} (e : doneF row d = some row') (h : row'.length ≤ 16) : ledF row [d] = some row' := by
  unfold ledF
  rw [List.foldlM_cons, e]
  show (match some row' with | some r => if r.length ≤ 16 then some r else none | none => none) = _
  simp [h]
theorem p_steps {l : Things} {ds : List Deed} (g : Good l) (gd : ∀ d ∈ ds, GoodD d) (ok : Ok16 l ds) (hz : ds.length ≤ 800) (n fl : Nat) (h : Hp) : callA (lev P (n + 5)) true 108 [.tup (l.map tD), .lst (ds.map dD)] fl h = .ok (.nls ((rowsF l ds).map tU)) h := by
  have ld := p_led (P := P) g gd (by omega) n h.length h
  obtain ⟨r, e1, e2, e3⟩ := ok_led ok g.len
  rw [e1] at ld
  simp only [] at ld
  obtain ⟨x, lo⟩ := rows_loop (G := lev P (n + 4)) (fl := h.length) (E := fun d x => [some (.tup (l.map tD)), some (.lst (ds.map dD)), some d, x]) (r := h.length) (t := .v 3) (e := .call true 44 [(.sub (.var 2) (.neg (.cst (.int 1)))), (.lst [(.var 3)])]) (i := 2) (l := l) (ds := ds) (h := h) (by omega) rfl g gd ok hz none (fun _ => rfl) (fun x d => ⟨by simp [bindT], fun o => by simp [bindT]⟩) (fun hh row row' d L gr z gd1 dn z' eh => by
    have ld := p_led (P := P) (l := row) (ds := [d]) ⟨z, gr.key, gr.val, gr.nd⟩ (fun q hq => by cases List.mem_singleton.mp hq; exact gd1) (by simp) n h.length hh
    rw [led_one dn z'] at ld
    have hat : hh[h.length]? = some (.lst (L.map tU ++ [tU row])) := by rw [eh]; simp
    have sl := sub_last hat
    simp only [List.map_cons, List.map_nil] at ld
    have ld' : callA (lev P (n + 4)) true 44 [tU row, .lst [dD d]] h.length hh = .ok (.d (tU row')) hh := ld
    simp [sl, ld'])
  refine callM_of (d := c_steps) (v := .d (.ref h.length)) (h' := h ++ [.lst ((rowsF l ds).map tU)]) rfl (run_rt (ρ := [some (.tup (l.map tD)), some (.lst (ds.map dD)), none, none]) rfl rfl ?_) (by simp [outV, nrN])
  refine exs_to (ρ1 := [some (.tup (l.map tD)), some (.lst (ds.map dD)), none, none]) (h1 := h) (by simp [ld]) ?_
  refine exs_to (ρ1 := [some (.tup (l.map tD)), some (.lst (ds.map dD)), some (.ref h.length), none]) (h1 := h ++ [.lst [tU l]]) (by simp [tU]) ?_
  refine exs_to ((ex_for (l := ds.map dD) (h1 := h ++ [.lst [tU l]]) (by simp)).trans lo) ?_
  simp
theorem good_led {l r : Things} {ds : List Deed} (g : Good l) (gd : ∀ d ∈ ds, GoodD d) (e : ledF l ds = some r) : Good r := by
  unfold ledF at e
  cases q : ds.foldlM doneF l with
  | none => rw [q] at e; cases e
  | some r' =>
    rw [q] at e
    simp only [] at e
    split at e
    · rename_i z
      cases e
      have gr := fold_goodD ds g.goodN gd q
      exact ⟨z, gr.key, gr.val, gr.nd⟩
    · cases e
theorem p_turned {l r : Things} {ds : List Deed} (g : Good l) (gd : ∀ d ∈ ds, GoodD d) (hz : ds.length ≤ 800) (e : ledF l ds = some r) (n fl : Nat) (h : Hp) : callA (lev P (n + 5)) true 107 [.tup (l.map tD), .lst (ds.map dD)] fl h = .ok (.nls ((deedsT r l).map dD)) h := by
  have ld := p_led (P := P) g gd (by omega) n h.length h
  rw [e] at ld
  simp only [] at ld
  have gr := good_led g gd e
  have dd := p_deeds_of (P := P) gr g (n + 1) h.length h
  rw [← deedsT_D] at dd
  refine callM_of (d := c_turned_about) (v := .nls ((deedsT r l).map dD)) (h' := h) rfl (run_rt (ρ := [some (.tup (l.map tD)), some (.lst (ds.map dD))]) rfl rfl ?_) (by simp [outV, nrN])
  simp [c_turned_about, ld, dd]
theorem mem_erase {ds : List Deed} {i : Nat} {d : Deed} (h : d ∈ ds.take i ++ ds.drop (i + 1)) : d ∈ ds := by
  rcases List.mem_append.mp h with q | q
  · exact List.mem_of_mem_take q
  · exact List.mem_of_mem_drop q
/-- all but one: some[:at] + some[at + 1:] -/
theorem ev_but {G : Fns} {fl : Nat} {ρ : Env} {h : Hp} {i j : Nat} {ds : List Deed} {k : Nat} (hi : ρ[i]? = some (some (.lst (ds.map dD)))) (hj : ρ[j]? = some (some (.int (k : Int)))) (hz : ds.length ≤ 900) : ev G fl (.bin .add (.slc (.var i) none (some (.var j))) (.slc (.var i) (some (.bin .add (.var j) (.cst (.int 1)))) none)) ρ h = .ok (.nls ((ds.take k ++ ds.drop (k + 1)).map dD)) h := by
  have e1 : slcOp h (.d (.lst (ds.map dD))) none (some (k : Int)) = some (.nls ((ds.take k).map dD)) := by rw [slc_lstN, cut_to, List.map_take]
  have e2 : slcOp h (.d (.lst (ds.map dD))) (some ((k : Int) + 1)) none = some (.nls ((ds.drop (k + 1)).map dD)) := by
    rw [slc_lstN, show ((k : Int) + 1) = ((k + 1 : Nat) : Int) by omega, cut_from, List.map_drop]
  have a1 := addV_nn (h := h) (l := (ds.take k).map dD) (r := (ds.drop (k + 1)).map dD) (by simp [most]; omega)
  rw [← List.map_append] at a1
  simp [hi, hj, e1, e2, a1, -List.map_append, -List.map_take, -List.map_drop]
def needF (l : Things) (ds : List Deed) (goal : Things) : List Nat := (List.range ds.length).filter fun k => decide (ledF l (ds.take k ++ ds.drop (k + 1)) = some goal)
theorem p_needless {l r : Things} {ds : List Deed} (g : Good l) (gd : ∀ d ∈ ds, GoodD d) (hz : ds.length ≤ 800) (e : ledF l ds = some r) (n fl : Nat) (h : Hp) : callA (lev P (n + 6)) true 110 [.tup (l.map tD), .lst (ds.map dD)] fl h = .ok (.nls ((needF l ds r).map fun k : Nat => D.int (k : Int))) h := by
  have ld := p_led (P := P) g gd (by omega) (n + 1) h.length h
  rw [e] at ld
  simp only [] at ld
  have rn : ∀ L : List Nat, nrL 63 (L.map fun k : Nat => D.int (k : Int)) = true := fun L => nrL_all fun d hd => by
    obtain ⟨t, _, rfl⟩ := List.mem_map.mp hd
    rfl
  refine callM_of (d := c_needless_deeds) (v := .nls ((needF l ds r).map fun k : Nat => D.int (k : Int))) (h' := h) rfl (run_rt (ρ := [some (.tup (l.map tD)), some (.lst (ds.map dD)), none, none]) rfl rfl ?_) (by simp [outV, nrN, rn])
  refine exs_to (ρ1 := [some (.tup (l.map tD)), some (.lst (ds.map dD)), some (.tup (r.map tD)), none]) (h1 := h) (by simp [ld]) ?_
  have cc := ev_compT (G := lev P (n + 5)) (fl := h.length) (ρ := [some (.tup (l.map tD)), some (.lst (ds.map dD)), some (.tup (r.map tD)), none]) (own := [3]) (tg := .v 3) (it := .rng1 (.blt .len [(.var 1)])) (cond := some (.call true 109 [(.var 0), (.bin .add (.slc (.var 1) none (some (.var 3))) (.slc (.var 1) (some (.bin .add (.var 3) (.cst (.int 1)))) none)), (.var 2)])) (elt := .var 3) (h1 := h) (h := h) (s := .fix (rngD 0 ds.length)) (fun k : Nat => .int (0 + (k : Int))) (fun k => decide (ledF l (ds.take k ++ ds.drop (k + 1)) = some r)) (fun k : Nat => D.int (k : Int)) (List.range ds.length)
    (by rw [evI_rng1 (i := (ds.length : Int)) (by simp) (by omega)]; simp) rfl (fun k hk => by
      have pl := p_leads (P := P) (l := l) (ds := ds.take k ++ ds.drop (k + 1)) r g (fun d hd => gd d (mem_erase hd)) (by simp; omega) n h.length h
      have eb := ev_but (G := lev P (n + 5)) (fl := h.length) (ρ := [some (.tup (l.map tD)), some (.lst (ds.map dD)), some (.tup (r.map tD)), some (.int (k : Int))]) (h := h) (i := 1) (j := 3) (ds := ds) (k := k) rfl rfl (by omega)
      unfold turn
      have e1 : bindT h (.v 3) (.int (0 + (k : Int))) (wipe [some (.tup (l.map tD)), some (.lst (ds.map dD)), some (.tup (r.map tD)), none] [3]) = some [some (.tup (l.map tD)), some (.lst (ds.map dD)), some (.tup (r.map tD)), some (.int (k : Int))] := by simp [bindT, wipe]
      rw [e1]
      simp only [evC_some, evT_call, evL_cons, eb]
      by_cases c : ledF l (ds.take k ++ ds.drop (k + 1)) = some r
      · simp [-List.map_append, -ev_bin, eb, pl, c]
      · simp [-List.map_append, -ev_bin, eb, pl, c])
  rw [exs_cons, ex_ret, cc]
  rfl
/-! lean -/
def leanStep (l : Things) (ds : List Deed) (goal : Things) (a : List Deed) (p : Deed × Nat) : List Deed := if ledF l (a ++ ds.drop (p.2 + 1)) = some goal then a else a ++ [p.1]
def leanF (l : Things) (ds : List Deed) (goal : Things) : List Deed := ds.zipIdx.foldl (leanStep l ds goal) []
theorem lean_sub (l : Things) (ds : List Deed) (goal : Things) : ∀ (z : List (Deed × Nat)) (a : List Deed), (∀ d ∈ z.foldl (leanStep l ds goal) a, d ∈ a ∨ d ∈ z.map (·.1)) ∧ (z.foldl (leanStep l ds goal) a).length ≤ a.length + z.length
  | [], a => ⟨fun d hd => .inl hd, by simp⟩
  | p :: z, a => by
    obtain ⟨h1, h2⟩ := lean_sub l ds goal z (leanStep l ds goal a p)
    have s1 : ∀ d ∈ leanStep l ds goal a p, d ∈ a ∨ d = p.1 := fun d hd => by
      unfold leanStep at hd
      split at hd
      · exact .inl hd
      · rcases List.mem_append.mp hd with q | q
        · exact .inl q
        · exact .inr (List.mem_singleton.mp q)
    have s2 : (leanStep l ds goal a p).length ≤ a.length + 1 := by
      unfold leanStep
      split <;> simp
    refine ⟨fun d hd => ?_, by rw [List.foldl_cons, List.length_cons]; omega⟩
    rcases h1 d hd with q | q
    · rcases s1 d q with q | q
      · exact .inl q
      · exact .inr (by rw [q]; simp)
    · exact .inr (by simp at q ⊢; exact .inr q)
/-- found + some[at + 1:] -/
theorem ev_rest {G : Fns} {fl : Nat} {ρ : Env} {h : Hp} {f i j r : Nat} {ds a : List Deed} {k : Nat} (hf : ρ[f]? = some (some (.ref r))) (hr : h[r]? = some (.lst (a.map dD))) (hi : ρ[i]? = some (some (.lst (ds.map dD)))) (hj : ρ[j]? = some (some (.int (k : Int)))) (hz : ds.length ≤ 900) (hza : a.length ≤ 900) :
    ev G fl (.bin .add (.var f) (.slc (.var i) (some (.bin .add (.var j) (.cst (.int 1)))) none)) ρ h = .ok (.nls ((a ++ ds.drop (k + 1)).map dD)) h := by
  have e2 : slcOp h (.d (.lst (ds.map dD))) (some ((k : Int) + 1)) none = some (.nls ((ds.drop (k + 1)).map dD)) := by
    rw [slc_lstN, show ((k : Int) + 1) = ((k + 1 : Nat) : Int) by omega, cut_from, List.map_drop]
  have a1 : addV h (.d (.ref r)) (.nls ((ds.drop (k + 1)).map dD)) = some (.nls ((a ++ ds.drop (k + 1)).map dD)) := by
    have z : a.length + (ds.length - (k + 1)) ≤ most := by unfold most; omega
    simp only [addV, lstOf, hr, List.length_map, List.length_drop]
    rw [if_pos z, List.map_append]
  simp [hf, hi, hj, e2, a1, -List.map_append, -List.map_drop]
/-- the loop of lean, and of the law -/
theorem lean_loop {G : Fns} {fl : Nat} {E : Option D → Option D → Env} {t : Tg} {c : Ex} {f v r : Nat} {l goal : Things} {ds : List Deed} {h : Hp} (hr : ¬ r < fl) (hrl : r = h.length) (gd : ∀ d ∈ ds, GoodD d) (hz : ds.length ≤ 800) (x0 y0 : Option D)
    (hf : ∀ x y, (E x y)[f]? = some (some (.ref r))) (hv : ∀ x d, (E x (some (dD d)))[v]? = some (some (dD d)))
    (hb : ∀ x y d k hh, bindT hh t (.ltp [.int (k : Int), dD d]) (E x y) = some (E (some (.int (k : Int))) (some (dD d))))
    (hc : ∀ (hh : Hp) (a : List Deed) (k : Nat) (y : Option D), (∀ d ∈ a, GoodD d) → a.length ≤ ds.length → hh = h ++ [.lst (a.map dD)] → evT G fl c (E (some (.int (k : Int))) y) hh = .ok (!decide (ledF l (a ++ ds.drop (k + 1)) = some goal)) hh) :
    ∃ x y, forFix t (fun ρ hh => exs G fl [(.ifs c [(.exp (.mth .append (.var f) [(.var v)]))] [])] ρ hh) (enumD (ds.map dD)) (E x0 y0) (h ++ [.lst []]) = .nx (E x y) (h ++ [.lst ((leanF l ds goal).map dD)]) := by
  subst hrl
  rw [enumD_map]
  obtain ⟨ρ', h', ef, ⟨x, y, e1⟩, e2⟩ := for_fold (t := t) (body := fun ρ hh => exs G fl [(.ifs c [(.exp (.mth .append (.var f) [(.var v)]))] [])] ρ hh) (fun p : Deed × Nat => D.ltp [.int (p.2 : Int), dD p.1]) (leanStep l ds goal)
    (fun a ρ hh => (∃ x y, ρ = E x y) ∧ hh = h ++ [.lst (a.map dD)]) ds.zipIdx [] (E x0 y0) (h ++ [.lst []]) ⟨⟨_, _, rfl⟩, rfl⟩ fun d p rr ρ hh q ⟨⟨x, y, e1⟩, e2⟩ => by
      subst e1 e2
      obtain ⟨s1, s2⟩ := lean_sub l ds goal d []
      have dl : d.length ≤ 800 := by have := congrArg List.length q; simp at this; omega
      have sub : ∀ z ∈ d.map (·.1), z ∈ ds := fun z hz => by
        have : z ∈ ds.zipIdx.map (·.1) := by rw [q]; simp at hz ⊢; exact .inl hz
        rwa [List.zipIdx_map_fst] at this
      obtain ⟨a, ha⟩ : ∃ a, a = d.foldl (leanStep l ds goal) [] := ⟨_, rfl⟩
      rw [← ha] at s1 s2 ⊢
      have ga : ∀ z ∈ a, GoodD z := fun z hz => by
        rcases s1 z hz with q | q
        · cases q
        · exact gd z (sub z q)
      have dl2 : d.length ≤ ds.length := by have := congrArg List.length q; simp at this; omega
      have al : a.length ≤ ds.length := by simp at s2; omega
      have tc := hc (h ++ [.lst (a.map dD)]) a p.2 (some (dD p.1)) ga al rfl
      refine ⟨E (some (.int (p.2 : Int))) (some (dD p.1)), hb _ _ _ _ _, E (some (.int (p.2 : Int))) (some (dD p.1)), h ++ [.lst ((leanStep l ds goal a p).map dD)], .inl ?_, ⟨_, _, rfl⟩, rfl⟩
      have hat : (h ++ [.lst (a.map dD)])[h.length]? = some (.lst (a.map dD)) := by simp
      have lm : (a.map dD).length < most := by rw [List.length_map]; unfold most; omega
      have ap := bAppend_d (fl := fl) (x := dD p.1) hat hr lm
      obtain ⟨hh, hhh⟩ : ∃ hh : Hp, hh = h ++ [.lst (a.map dD)] := ⟨_, rfl⟩
      rw [← hhh] at tc ap hat ⊢
      unfold leanStep
      by_cases cc : ledF l (a ++ ds.drop (p.2 + 1)) = some goal
      · rw [decide_eq_true cc] at tc
        rw [if_pos cc]
        simp [tc]
        rw [hhh]
      · rw [decide_eq_false cc] at tc
        rw [if_neg cc]
        simp [tc, hf, hv, hat, ap]
        rw [hhh]
        simp
  exact ⟨x, y, by rw [ef, e1, e2]; rfl⟩
theorem lean_good {l goal : Things} {ds : List Deed} (gd : ∀ d ∈ ds, GoodD d) : (∀ d ∈ leanF l ds goal, GoodD d) ∧ (leanF l ds goal).length ≤ ds.length := by
  obtain ⟨s1, s2⟩ := lean_sub l ds goal ds.zipIdx []
  refine ⟨fun d hd => ?_, by unfold leanF; simpa using s2⟩
  rcases s1 d hd with q | q
  · cases q
  · rw [List.zipIdx_map_fst] at q
    exact gd d q
theorem p_lean {l r : Things} {ds : List Deed} (g : Good l) (gd : ∀ d ∈ ds, GoodD d) (hz : ds.length ≤ 400) (e : ledF l ds = some r) (n fl : Nat) (h : Hp) : callA (lev P (n + 6)) true 111 [.tup (l.map tD), .lst (ds.map dD)] fl h = .ok (.nls ((leanF l ds r).map dD)) h := by
  have ld := p_led (P := P) g gd (by omega) (n + 1) h.length h
  rw [e] at ld
  simp only [] at ld
  obtain ⟨x, y, lo⟩ := lean_loop (G := lev P (n + 5)) (fl := h.length) (E := fun x y => [some (.tup (l.map tD)), some (.lst (ds.map dD)), some (.tup (r.map tD)), some (.ref h.length), x, y]) (t := .t [(.v 4), (.v 5)]) (c := .not (.call true 109 [(.var 0), (.bin .add (.var 3) (.slc (.var 1) (some (.bin .add (.var 4) (.cst (.int 1)))) none)), (.var 2)])) (f := 3) (v := 5) (r := h.length) (l := l) (goal := r) (ds := ds) (h := h) (by omega) rfl gd (by omega) none none (fun _ _ => rfl) (fun _ _ => rfl) (fun x y d k hh => by simp [bindT, bindTs]) (fun hh a k y ga al eh => by
    have pl := p_leads (P := P) (l := l) (ds := a ++ ds.drop (k + 1)) r g (fun d hd => (List.mem_append.mp hd).elim (ga d) fun q => gd d (List.mem_of_mem_drop q)) (by simp; omega) n h.length hh
    have eb := ev_rest (G := lev P (n + 5)) (fl := h.length) (ρ := [some (.tup (l.map tD)), some (.lst (ds.map dD)), some (.tup (r.map tD)), some (.ref h.length), some (.int (k : Int)), y]) (h := hh) (f := 3) (i := 1) (j := 4) (r := h.length) (ds := ds) (a := a) (k := k) rfl (by rw [eh]; simp) rfl rfl (by omega) (by omega)
    simp only [evT_not, evT_call, evL_cons, eb]
    simp [-List.map_append, -ev_bin, eb, pl])
  refine callM_of (d := c_lean) (v := .d (.ref h.length)) (h' := h ++ [.lst ((leanF l ds r).map dD)]) rfl (run_rt (ρ := [some (.tup (l.map tD)), some (.lst (ds.map dD)), none, none, none, none]) rfl rfl ?_) (by simp [outV, nrN])
  refine exs_to (ρ1 := [some (.tup (l.map tD)), some (.lst (ds.map dD)), some (.tup (r.map tD)), none, none, none]) (h1 := h) (by simp [ld]) ?_
  refine exs_to (ρ1 := [some (.tup (l.map tD)), some (.lst (ds.map dD)), some (.tup (r.map tD)), some (.ref h.length), none, none]) (h1 := h ++ [.lst []]) (by simp) ?_
  refine exs_to ((ex_for (l := enumD (ds.map dD)) (h1 := h ++ [.lst []]) (by rw [evI]; simp)).trans lo) ?_
  simp
end Cd
end
section
set_option linter.all false
set_option maxRecDepth 100000
set_option maxHeartbeats 1000000
namespace Cd
open MP
variable {P : Nat → Option Def} [Ext P]
/-! ### deeds that are drawn -/
def sdKey (o : Int) (keys : List Txt) : Txt := if keys ≠ [] ∧ 0 < o / 5 % 4 then keys.getD (o / 11 % (keys.length : Int)).toNat [] else keyF (seedF o 1)
def sdBehind (o : Int) (keys : List Txt) : Option Txt := if o / 13 % 4 = 0 ∨ keys = [] then none else some (keys.getD (o / 17 % (keys.length : Int)).toNat [])
def sdVal (o : Int) : Int := o / 19 % (if o / 23 % 2 = 0 then 1000 else 3)
def sdDeed (o : Int) (keys : List Txt) : Deed := if o / 29 % 4 = 0 then .strike (sdKey o keys) else if o / 29 % 4 = 1 then .put (sdKey o keys) (sdVal o) (sdBehind o keys) else if o / 29 % 4 = 2 then .move (sdKey o keys) (sdBehind o keys) else .change (sdKey o keys) (sdVal o)
def sdStep (s : Int) (st : Things × List Deed) (k : Nat) : Things × List Deed := match doneF st.1 (sdDeed (seedF s k) (ks st.1)) with
  | some r => if r.length ≤ 16 then (r, st.2 ++ [sdDeed (seedF s k) (ks st.1)]) else st
  | none => st
def someF (l : Things) (s : Int) : List Deed := ((List.range (s / 7 % 7).toNat).foldl (sdStep s) (l, [])).2
theorem ix_mod (o : Int) {keys : List Txt} (h : keys ≠ []) : 0 ≤ o % (keys.length : Int) ∧ o % (keys.length : Int) < (keys.length : Int) := by
  have hl : 0 < (keys.length : Int) := by have := List.length_pos_iff.mpr h; omega
  exact ⟨mod_lo _ hl, mod_hi _ hl⟩
theorem getD_good {keys : List Txt} (hk : ∀ x ∈ keys, goodKey x) {i : Int} (h0 : 0 ≤ i) (h1 : i < (keys.length : Int)) : goodKey (keys.getD i.toNat []) := by
  have : i.toNat < keys.length := by omega
  rw [List.getD_eq_getElem?_getD, List.getElem?_eq_getElem this]
  exact hk _ (List.getElem_mem _)
theorem sdKey_good (o : Int) {keys : List Txt} (hk : ∀ x ∈ keys, goodKey x) : goodKey (sdKey o keys) := by
  unfold sdKey
  split
  · rename_i h
    obtain ⟨a, b⟩ := ix_mod (o / 11) h.1
    exact getD_good hk a b
  · exact key_good _
theorem sdBehind_good (o : Int) {keys : List Txt} (hk : ∀ x ∈ keys, goodKey x) : goodB (sdBehind o keys) := by
  unfold sdBehind
  split
  · trivial
  · rename_i h
    obtain ⟨a, b⟩ := ix_mod (o / 17) (fun q => h (.inr q))
    exact getD_good hk a b
theorem sdVal_ok (o : Int) : 0 ≤ sdVal o ∧ sdVal o ≤ 999 := by
  unfold sdVal
  split
  · have a := mod_lo (o / 19) (by decide : (0 : Int) < 1000)
    have b := mod_hi (o / 19) (by decide : (0 : Int) < 1000)
    omega
  · have a := mod_lo (o / 19) (by decide : (0 : Int) < 3)
    have b := mod_hi (o / 19) (by decide : (0 : Int) < 3)
    omega
theorem sdDeed_good (o : Int) {keys : List Txt} (hk : ∀ x ∈ keys, goodKey x) : GoodD (sdDeed o keys) := by
  unfold sdDeed
  split
  · exact sdKey_good o hk
  · split
    · exact ⟨sdKey_good o hk, sdVal_ok o, sdBehind_good o hk⟩
    · split
      · exact ⟨sdKey_good o hk, sdBehind_good o hk⟩
      · exact ⟨sdKey_good o hk, sdVal_ok o⟩
structure SdInv (l : Things) (n : Nat) (st : Things × List Deed) : Prop where
  ok : Ok16 l st.2
  at_ : st.2.foldlM doneF l = some st.1
  gd : ∀ d ∈ st.2, GoodD d
  len : st.2.length ≤ n
  z : st.1.length ≤ 16
theorem SdInv.good {l : Things} (g : Good l) {n : Nat} {st : Things × List Deed} (I : SdInv l n st) : Good st.1 := by
  have gr := fold_goodD st.2 g.goodN I.gd I.at_
  exact ⟨I.z, gr.key, gr.val, gr.nd⟩
theorem ks_good {l : Things} (g : Good l) : ∀ x ∈ ks l, goodKey x := fun x hx => by
  obtain ⟨p, hp, e⟩ := List.mem_map.mp hx
  rw [← e]; exact g.key p hp
theorem sd_inv {l : Things} (g : Good l) (s : Int) : ∀ (r : List Nat) (n : Nat) (st : Things × List Deed), SdInv l n st → SdInv l (n + r.length) (r.foldl (sdStep s) st)
  | [], n, st, I => I
  | k :: r, n, st, I => by
    have I1 : SdInv l (n + 1) (sdStep s st k) := by
      unfold sdStep
      have gs := I.good g
      have gdd := sdDeed_good (seedF s k) (ks_good gs)
      cases q : doneF st.1 (sdDeed (seedF s k) (ks st.1)) with
      | none => exact ⟨I.ok, I.at_, I.gd, Nat.le_succ_of_le I.len, I.z⟩
      | some rr =>
        simp only []
        split
        · rename_i z
          refine ⟨ok_snoc I.ok I.at_ q z, ?_, fun d hd => ?_, by simp; exact I.len, z⟩
          · rw [List.foldlM_append, I.at_]
            show [sdDeed (seedF s k) (ks st.1)].foldlM doneF st.1 = some rr
            rw [List.foldlM_cons, q]; rfl
          · rcases List.mem_append.mp hd with w | w
            · exact I.gd d w
            · cases List.mem_singleton.mp w; exact gdd
        · exact ⟨I.ok, I.at_, I.gd, Nat.le_succ_of_le I.len, I.z⟩
    have := sd_inv g s r (n + 1) _ I1
    rw [List.foldl_cons, List.length_cons, show n + (r.length + 1) = n + 1 + r.length by omega]
    exact this
theorem some_inv {l : Things} (g : Good l) (s : Int) : SdInv l 6 ((List.range (s / 7 % 7).toNat).foldl (sdStep s) (l, [])) := by
  have h1 := mod_lo (s / 7) (by decide : (0 : Int) < 7)
  have h2 := mod_hi (s / 7) (by decide : (0 : Int) < 7)
  have := sd_inv g s (List.range (s / 7 % 7).toNat) 0 (l, []) ⟨trivial, rfl, (fun _ h => nomatch h), Nat.le_refl 0, g.len⟩
  exact ⟨this.ok, this.at_, this.gd, by have := this.len; simp at this ⊢; omega, this.z⟩
abbrev dsE (l : Things) (s : Int) (row : Things) (r : Nat) (x4 x5 x6 x7 x8 x9 x10 x11 x12 : Option D) : Env := [some (.tup (l.map tD)), some (.int s), some (.tup (row.map tD)), some (.ref r), x4, x5, x6, x7, x8, x9, x10, x11, x12]
abbrev sDeedsBody : List Stm := [(.asg false (.v 5) (.call true 13 [(.var 1), (.var 4)])), (.asg false (.v 6) (.comp [7, 9] (.t [(.v 7), (.v 9)]) (.seq (.var 2)) none (.var 7))), (.asg false (.v 7) (.ife (.and (.cmp .ne (.var 6) (.lst [])) (.cmp .gt (.bin .mod (.bin .fdv (.var 5) (.cst (.int 5))) (.cst (.int 4))) (.cst (.int 0)))) (.sub (.var 6) (.bin .mod (.bin .fdv (.var 5) (.cst (.int 11))) (.blt .len [(.var 6)]))) (.call true 15 [(.call true 13 [(.var 5), (.cst (.int 1))])]))), (.asg false (.v 8) (.ife (.or (.cmp .eq (.bin .mod (.bin .fdv (.var 5) (.cst (.int 13))) (.cst (.int 4))) (.cst (.int 0))) (.cmp .eq (.var 6) (.lst []))) (.cst .non) (.sub (.var 6) (.bin .mod (.bin .fdv (.var 5) (.cst (.int 17))) (.blt .len [(.var 6)]))))), (.asg false (.v 9) (.bin .mod (.bin .fdv (.var 5) (.cst (.int 19))) (.sub (.lst [(.cst (.int 1000)), (.cst (.int 3))]) (.bin .mod (.bin .fdv (.var 5) (.cst (.int 23))) (.cst (.int 2)))))), (.asg false (.v 10) (.lst [(.tup [(.cst (.str [115, 116, 114, 105, 107, 101])), (.var 7)]), (.tup [(.cst (.str [112, 117, 116])), (.var 7), (.var 9), (.var 8)]), (.tup [(.cst (.str [109, 111, 118, 101])), (.var 7), (.var 8)]), (.tup [(.cst (.str [99, 104, 97, 110, 103, 101])), (.var 7), (.var 9)])])), (.asg false (.v 11) (.sub (.var 10) (.bin .mod (.bin .fdv (.var 5) (.cst (.int 29))) (.cst (.int 4))))), (.asg false (.v 12) (.call true 112 [(.var 2), (.var 11)])), (.ifs (.and (.cmp .notn (.var 12) (.cst .non)) (.cmp .le (.blt .len [(.var 12)]) (.cst (.int 16)))) [(.asg false (.v 2) (.var 12)), (.exp (.mth .append (.var 3) [(.var 11)]))] [])]
theorem eq_strsN {h : Hp} (a : List Txt) : eqVl h (.d (.lst (a.map .str))) (.nls []) = some (decide (a = [])) := by
  have : eqD (.lst (a.map .str)) (.lst []) = decide (a = []) := by
    rw [eqD, eqL_nil]
    cases a <;> simp
  simp [eqVl, dataOf, nrN, nrL, this]
theorem sd_turn {l row : Things} {ds : List Deed} {s : Int} {r k n fl : Nat} {h : Hp} {x5 x6 x7 x8 x9 x10 x11 x12 : Option D} (g : Good row) (hr : h[r]? = some (.lst (ds.map dD))) (hf : ¬ r < fl) (hz : ds.length ≤ 800) :
    ∃ y5 y6 y7 y8 y9 y10 y11 y12, exs (lev P (n + 3)) fl sDeedsBody (dsE l s row r (some (.int k)) x5 x6 x7 x8 x9 x10 x11 x12) h = .nx (dsE l s (sdStep s (row, ds) k).1 r (some (.int k)) y5 y6 y7 y8 y9 y10 y11 y12) (h.set r (.lst ((sdStep s (row, ds) k).2.map dD))) := by
  obtain ⟨o, ho⟩ : ∃ o, o = seedF s k := ⟨_, rfl⟩
  obtain ⟨keys, hk⟩ : ∃ keys, keys = ks row := ⟨_, rfl⟩
  have r16 := g.len
  have same : h.set r (.lst (ds.map dD)) = h := by
    obtain ⟨hl, he⟩ := List.getElem?_eq_some_iff.mp hr
    rw [← he]; simp
  have e1 := p_seed (P := P) s k (n + 2) fl h
  rw [← ho] at e1
  have kk := ev_keysT (G := lev P (n + 3)) (fl := fl) (ρ := dsE l s row r (some (.int k)) (some (.int o)) x6 x7 x8 x9 x10 x11 x12) (h := h) (i := 2) (a := 7) (b := 9) row rfl (by simp) (by simp) (by decide)
  have km : row.map (fun p => D.str p.1) = keys.map .str := by rw [hk]; simp [ks]
  rw [km] at kk
  have pk : ∀ hh, callA (lev P (n + 3)) true 15 [.int (seedF o 1)] fl hh = .ok (.d (.str (keyF (seedF o 1)))) hh := fun hh => p_key (P := P) (seedF o 1) (n + 1) fl hh
  have key1 : ex (lev P (n + 3)) fl (.asg false (.v 7) (.ife (.and (.cmp .ne (.var 6) (.lst [])) (.cmp .gt (.bin .mod (.bin .fdv (.var 5) (.cst (.int 5))) (.cst (.int 4))) (.cst (.int 0)))) (.sub (.var 6) (.bin .mod (.bin .fdv (.var 5) (.cst (.int 11))) (.blt .len [(.var 6)]))) (.call true 15 [(.call true 13 [(.var 5), (.cst (.int 1))])]))) (dsE l s row r (some (.int k)) (some (.int o)) (some (.lst (keys.map .str))) x7 x8 x9 x10 x11 x12) h = .nx (dsE l s row r (some (.int k)) (some (.int o)) (some (.lst (keys.map .str))) (some (.str (sdKey o keys))) x8 x9 x10 x11 x12) h := by
    unfold sdKey
    by_cases c1 : keys = []
    · subst c1
      have en := eq_strsN (h := h) []
      simp only [List.map_nil] at en
      simp [en, p_seed, pk]
    · have en := eq_strsN (h := h) keys
      obtain ⟨m1, m2⟩ := ix_mod (o / 11) c1
      have sb := sub_strs (h := h) (a := .d (.lst (keys.map .str))) (l := keys) (i := o / 11 % (keys.length : Int)) rfl m1 m2
      by_cases c2 : 0 < o / 5 % 4
      · simp [en, c1, c2, sb]
      · simp [en, c1, c2, p_seed, pk]
  have bh1 : ex (lev P (n + 3)) fl (.asg false (.v 8) (.ife (.or (.cmp .eq (.bin .mod (.bin .fdv (.var 5) (.cst (.int 13))) (.cst (.int 4))) (.cst (.int 0))) (.cmp .eq (.var 6) (.lst []))) (.cst .non) (.sub (.var 6) (.bin .mod (.bin .fdv (.var 5) (.cst (.int 17))) (.blt .len [(.var 6)]))))) (dsE l s row r (some (.int k)) (some (.int o)) (some (.lst (keys.map .str))) (some (.str (sdKey o keys))) x8 x9 x10 x11 x12) h = .nx (dsE l s row r (some (.int k)) (some (.int o)) (some (.lst (keys.map .str))) (some (.str (sdKey o keys))) (some (bD (sdBehind o keys))) x9 x10 x11 x12) h := by
    unfold sdBehind
    have en := eq_strsN (h := h) keys
    by_cases c1 : o / 13 % 4 = 0
    · simp [c1, bD]
    · by_cases c2 : keys = []
      · subst c2
        simp only [List.map_nil] at en
        simp [c1, en, bD]
      · obtain ⟨m1, m2⟩ := ix_mod (o / 17) c2
        have sb := sub_strs (h := h) (a := .d (.lst (keys.map .str))) (l := keys) (i := o / 17 % (keys.length : Int)) rfl m1 m2
        simp [c1, c2, en, sb, bD]
  have s2 : subOp h (.nls [.int 1000, .int 3]) (.d (.int (o / 23 % 2))) = some (.d (.int (if o / 23 % 2 = 0 then 1000 else 3))) := by
    rw [sub_two]; split <;> rfl
  have m0 : (0 : Int) < (if o / 23 % 2 = 0 then 1000 else 3) := by split <;> decide
  have s4 := sub_four h (dD (.strike (sdKey o keys))) (dD (.put (sdKey o keys) (sdVal o) (sdBehind o keys))) (dD (.move (sdKey o keys) (sdBehind o keys))) (dD (.change (sdKey o keys) (sdVal o))) (o / 29)
  have s4' : (if o / 29 % 4 = 0 then dD (.strike (sdKey o keys)) else if o / 29 % 4 = 1 then dD (.put (sdKey o keys) (sdVal o) (sdBehind o keys)) else if o / 29 % 4 = 2 then dD (.move (sdKey o keys) (sdBehind o keys)) else dD (.change (sdKey o keys) (sdVal o))) = dD (sdDeed o keys) := by
    unfold sdDeed
    repeat (split; rfl)
    rfl
  rw [s4'] at s4
  have pa := p_apply (P := P) (row := row) (d := sdDeed o keys) g.nd (by omega) (n + 2) fl h
  have pre : ∀ Q, exs (lev P (n + 3)) fl [(.ifs (.and (.cmp .notn (.var 12) (.cst .non)) (.cmp .le (.blt .len [(.var 12)]) (.cst (.int 16)))) [(.asg false (.v 2) (.var 12)), (.exp (.mth .append (.var 3) [(.var 11)]))] [])] (dsE l s row r (some (.int k)) (some (.int o)) (some (.lst (keys.map .str))) (some (.str (sdKey o keys))) (some (bD (sdBehind o keys))) (some (.int (sdVal o))) (some (.lst [dD (.strike (sdKey o keys)), dD (.put (sdKey o keys) (sdVal o) (sdBehind o keys)), dD (.move (sdKey o keys) (sdBehind o keys)), dD (.change (sdKey o keys) (sdVal o))])) (some (dD (sdDeed o keys))) (some (oD (doneF row (sdDeed o keys))))) h = Q → exs (lev P (n + 3)) fl sDeedsBody (dsE l s row r (some (.int k)) x5 x6 x7 x8 x9 x10 x11 x12) h = Q := fun Q hQ => by
    refine exs_to (ρ1 := dsE l s row r (some (.int k)) (some (.int o)) x6 x7 x8 x9 x10 x11 x12) (h1 := h) (by simp [e1]) ?_
    refine exs_to (ρ1 := dsE l s row r (some (.int k)) (some (.int o)) (some (.lst (keys.map .str))) x7 x8 x9 x10 x11 x12) (h1 := h) (by rw [ex_asgV, kk]; simp) ?_
    refine exs_to key1 (exs_to bh1 ?_)
    refine exs_to (ρ1 := dsE l s row r (some (.int k)) (some (.int o)) (some (.lst (keys.map .str))) (some (.str (sdKey o keys))) (some (bD (sdBehind o keys))) (some (.int (sdVal o))) x10 x11 x12) (h1 := h) (by simp [s2, m0, sdVal]) ?_
    refine exs_to (ρ1 := dsE l s row r (some (.int k)) (some (.int o)) (some (.lst (keys.map .str))) (some (.str (sdKey o keys))) (some (bD (sdBehind o keys))) (some (.int (sdVal o))) (some (.lst [dD (.strike (sdKey o keys)), dD (.put (sdKey o keys) (sdVal o) (sdBehind o keys)), dD (.move (sdKey o keys) (sdBehind o keys)), dD (.change (sdKey o keys) (sdVal o))])) x11 x12) (h1 := h) (by simp [dD, strikeT, putT, moveT, changeT]) ?_
    refine exs_to (ρ1 := dsE l s row r (some (.int k)) (some (.int o)) (some (.lst (keys.map .str))) (some (.str (sdKey o keys))) (some (bD (sdBehind o keys))) (some (.int (sdVal o))) (some (.lst [dD (.strike (sdKey o keys)), dD (.put (sdKey o keys) (sdVal o) (sdBehind o keys)), dD (.move (sdKey o keys) (sdBehind o keys)), dD (.change (sdKey o keys) (sdVal o))])) (some (dD (sdDeed o keys))) x12) (h1 := h) (by simp [s4]) ?_
    refine exs_to (ρ1 := dsE l s row r (some (.int k)) (some (.int o)) (some (.lst (keys.map .str))) (some (.str (sdKey o keys))) (some (bD (sdBehind o keys))) (some (.int (sdVal o))) (some (.lst [dD (.strike (sdKey o keys)), dD (.put (sdKey o keys) (sdVal o) (sdBehind o keys)), dD (.move (sdKey o keys) (sdBehind o keys)), dD (.change (sdKey o keys) (sdVal o))])) (some (dD (sdDeed o keys))) (some (oD (doneF row (sdDeed o keys))))) (h1 := h) (by simp [pa]) ?_
    exact hQ
  obtain ⟨X10, hX⟩ : ∃ X, X = (some (D.lst [dD (.strike (sdKey o keys)), dD (.put (sdKey o keys) (sdVal o) (sdBehind o keys)), dD (.move (sdKey o keys) (sdBehind o keys)), dD (.change (sdKey o keys) (sdVal o))])) := ⟨_, rfl⟩
  rw [← hX] at pre
  unfold sdStep
  simp only []
  rw [← ho, ← hk]
  have hm : ds.length < most := by unfold most; omega
  cases q : doneF row (sdDeed o keys) with
  | none =>
    refine ⟨some (.int o), some (.lst (keys.map .str)), some (.str (sdKey o keys)), some (bD (sdBehind o keys)), some (.int (sdVal o)), X10, some (dD (sdDeed o keys)), some (oD none), pre _ ?_⟩
    rw [q]
    simp [oD, same]
  | some rr =>
    by_cases c : rr.length ≤ 16
    · have c' : (rr.length : Int) ≤ 16 := by omega
      refine ⟨some (.int o), some (.lst (keys.map .str)), some (.str (sdKey o keys)), some (bD (sdBehind o keys)), some (.int (sdVal o)), X10, some (dD (sdDeed o keys)), some (oD (some rr)), pre _ ?_⟩
      rw [q]
      simp [oD, isNon, c, c', hr, hf, hm]
    · have c' : ¬ (rr.length : Int) ≤ 16 := by omega
      refine ⟨some (.int o), some (.lst (keys.map .str)), some (.str (sdKey o keys)), some (bD (sdBehind o keys)), some (.int (sdVal o)), X10, some (dD (sdDeed o keys)), some (oD (some rr)), pre _ ?_⟩
      rw [q]
      simp [oD, isNon, c, c', same]
theorem p_some {l : Things} (g : Good l) (s : Int) (n fl : Nat) (h : Hp) : callA (lev P (n + 4)) true 113 [.tup (l.map tD), .int s] fl h = .ok (.nls ((someF l s).map dD)) h := by
  have h1 := mod_lo (s / 7) (by decide : (0 : Int) < 7)
  have h2 := mod_hi (s / 7) (by decide : (0 : Int) < 7)
  obtain ⟨ρ', h', ef, ⟨x4, x5, x6, x7, x8, x9, x10, x11, x12, e1⟩, e2⟩ := for_fold (t := .v 4) (body := fun ρ hh => exs (lev P (n + 3)) h.length sDeedsBody ρ hh) (fun k : Nat => .int (0 + (k : Int))) (sdStep s)
    (fun st ρ hh => (∃ x4 x5 x6 x7 x8 x9 x10 x11 x12, ρ = dsE l s st.1 h.length x4 x5 x6 x7 x8 x9 x10 x11 x12) ∧ hh = h ++ [.lst (st.2.map dD)]) (List.range (s / 7 % 7).toNat) (l, []) (dsE l s l h.length none none none none none none none none none) (h ++ [.lst []]) ⟨⟨_, _, _, _, _, _, _, _, _, rfl⟩, rfl⟩ fun d k rr ρ hh q ⟨⟨x4, x5, x6, x7, x8, x9, x10, x11, x12, e1⟩, e2⟩ => by
      subst e1 e2
      have I := sd_inv g s d 0 (l, []) ⟨trivial, rfl, (fun _ h => nomatch h), Nat.le_refl 0, g.len⟩
      have dl : d.length ≤ 6 := by have := congrArg List.length q; simp at this; omega
      have il := I.len
      obtain ⟨y5, y6, y7, y8, y9, y10, y11, y12, tt⟩ := sd_turn (P := P) (l := l) (row := (d.foldl (sdStep s) (l, [])).1) (ds := (d.foldl (sdStep s) (l, [])).2) (s := s) (r := h.length) (k := k) (n := n) (fl := h.length) (h := h ++ [.lst ((d.foldl (sdStep s) (l, [])).2.map dD)]) (x5 := x5) (x6 := x6) (x7 := x7) (x8 := x8) (x9 := x9) (x10 := x10) (x11 := x11) (x12 := x12) (I.good g) (by simp) (by omega) (by omega)
      refine ⟨dsE l s (d.foldl (sdStep s) (l, [])).1 h.length (some (.int k)) x5 x6 x7 x8 x9 x10 x11 x12, by simp [bindT], _, _, .inl tt, ⟨_, _, _, _, _, _, _, _, _, rfl⟩, by simp⟩
  subst e1 e2
  refine callM_of (d := c_law_some_deeds) (v := .d (.ref h.length)) (h' := h ++ [.lst ((someF l s).map dD)]) rfl (run_rt (ρ := [some (.tup (l.map tD)), some (.int s), none, none, none, none, none, none, none, none, none, none, none]) rfl rfl ?_) (by simp [outV, nrN])
  refine exs_to (ρ1 := [some (.tup (l.map tD)), some (.int s), some (.tup (l.map tD)), none, none, none, none, none, none, none, none, none, none]) (h1 := h) (by simp) ?_
  refine exs_to (ρ1 := dsE l s l h.length none none none none none none none none none) (h1 := h ++ [.lst []]) (by simp) ?_
  refine exs_to ((ex_for (evI_rng1 (i := s / 7 % 7) (by simp) (by omega))).trans ef) ?_
  simp [someF]
end Cd
end
section
set_option linter.all false
set_option maxRecDepth 100000
set_option maxHeartbeats 1000000
namespace Cd
open MP
variable {P : Nat → Option Def} [Ext P]
/-! ### equal things -/
theorem eq_tup {h : Hp} (l : Things) : eqVl h (.d (.tup (l.map tD))) (.d (.tup (l.map tD))) = some true := by
  have : eqD (.tup (l.map tD)) (.tup (l.map tD)) = true := eqD_self _ 64 (nrL_things l 62)
  simp [eqVl, dataOf, nrN, this]
theorem eq_nls {h : Hp} {a b : List D} (e : a = b) (hn : nrL 63 a = true) : eqVl h (.nls a) (.nls b) = some true := by
  subst e
  have : eqD (.lst a) (.lst a) = true := eqD_self _ 64 hn
  simp [eqVl, dataOf, nrN, hn, this]
theorem eq_lstN {h : Hp} {a b : List D} (e : a = b) (hn : nrL 63 a = true) : eqVl h (.d (.lst a)) (.nls b) = some true := by
  subst e
  have : eqD (.lst a) (.lst a) = true := eqD_self _ 64 hn
  simp [eqVl, dataOf, nrN, hn, this]
theorem eq_nlsL {h : Hp} {a b : List D} (e : a = b) (hn : nrL 63 a = true) : eqVl h (.nls a) (.d (.lst b)) = some true := by
  subst e
  have : eqD (.lst a) (.lst a) = true := eqD_self _ 64 hn
  simp [eqVl, dataOf, nrN, hn, this]
theorem eq_lstL {h : Hp} {a b : List D} (e : a = b) (hn : nrL 63 a = true) : eqVl h (.d (.lst a)) (.d (.lst b)) = some true := by
  subst e
  have : eqD (.lst a) (.lst a) = true := eqD_self _ 64 hn
  simp [eqVl, dataOf, nrN, hn, this]
theorem eq_nlsR {h : Hp} {a b : List D} {r : Nat} (hr : h[r]? = some (.lst b)) (e : a = b) (hn : nrL 63 a = true) : eqVl h (.nls a) (.d (.ref r)) = some true := by
  subst e
  have : eqD (.lst a) (.lst a) = true := eqD_self _ 64 hn
  simp [eqVl, dataOf, nrN, hn, hr, this]
theorem eq_deedsN {h : Hp} (ds : List Deed) : eqVl h (.d (.lst (ds.map dD))) (.nls []) = some (decide (ds = [])) := by
  have : eqD (.lst (ds.map dD)) (.lst []) = decide (ds = []) := by
    rw [eqD, eqL_nil]
    cases ds <;> simp
  simp [eqVl, dataOf, nrN, nrL, this]
theorem p_deedsT {l r : Things} (gl : Good l) (gr : Good r) (n fl : Nat) (h : Hp) : callA (lev P (n + 4)) true 11 [.tup (l.map tD), .tup (r.map tD)] fl h = .ok (.nls ((deedsT l r).map dD)) h := by
  rw [deedsT_D]; exact p_deeds gl gr n fl h
theorem nr_ints (L : List Nat) (k : Nat) : nrL k (L.map fun i : Nat => D.int (i : Int)) = true := nrL_all fun d hd => by
  obtain ⟨t, _, rfl⟩ := List.mem_map.mp hd
  rfl
end Cd
end
section
set_option linter.all false
set_option maxRecDepth 100000
set_option maxHeartbeats 1000000
namespace MP
theorem ex_forL {G : Fns} {fl : Nat} {ρ : Env} {h : Hp} {t : Tg} {it : It} {b : List Stm} {n k : Nat} {h1 : Hp} (hi : evI G fl it ρ h = .ok (.live n k) h1) : ex G fl (.fors t it b) ρ h = forLive t (fun ρ h => exs G fl b ρ h) n k k 0 ρ h1 := by
  rw [ex, hi]
  rfl
/-- a loop over a list that lies in the heap and stays there -/
theorem for_liveM {α σ : Type} {t : Tg} {body : Env → Hp → RS} (enc : α → D) (stp : σ → α → Option σ) (c : Nat) (Rl : σ → Env → Hp → Prop) (xs : List α) (s0 : σ) (n : Nat) (hn : ∀ s ρ h, Rl s ρ h → h[n]? = some (.lst (xs.map enc)))
    (hs : ∀ d x r s ρ h, xs = d ++ x :: r → d.foldlM stp s0 = some s → Rl s ρ h → ∃ ρ1, bindT h t (enc x) ρ = some ρ1 ∧ ∃ ρ2 h2, match stp s x with | some s' => body ρ1 h = .nx ρ2 h2 ∧ Rl s' ρ2 h2 | none => body ρ1 h = .exc c ρ2 h2) :
    ∀ (xs2 d : List α) (s : σ) (ρ : Env) (h : Hp), xs = d ++ xs2 → d.foldlM stp s0 = some s → Rl s ρ h →
    ∃ ρ' h', match xs2.foldlM stp s with | some s' => forLive t body n xs.length xs2.length d.length ρ h = .nx ρ' h' ∧ Rl s' ρ' h' | none => forLive t body n xs.length xs2.length d.length ρ h = .exc c ρ' h'
  | [], d, s, ρ, h, _, _, p => ⟨ρ, h, by
      refine ⟨?_, p⟩
      show (if stillAt h n xs.length then RS.nx ρ h else .err) = .nx ρ h
      have := hn s ρ h p
      simp [stillAt, this]⟩
  | x :: l, d, s, ρ, h, ex, ed, p => by
    obtain ⟨ρ1, b, ρ2, h2, e⟩ := hs d x l s ρ h ex ed p
    have hat := hn s ρ h p
    have hi : d.length < xs.length := by rw [ex]; simp
    have it : itemAt h n xs.length d.length = some (enc x) := by
      have : xs[d.length]? = some x := by rw [ex]; simp
      simp [itemAt, hat, this]
    rw [List.foldlM_cons]
    cases q : stp s x with
    | none =>
      rw [q] at e
      refine ⟨ρ2, h2, ?_⟩
      show forLive t body n xs.length (l.length + 1) d.length ρ h = _
      unfold forLive
      rw [it]
      simp only [b, e]
      rfl
    | some s' =>
      rw [q] at e
      have ed' : (d ++ [x]).foldlM stp s0 = some s' := by
        rw [List.foldlM_append, ed]
        show [x].foldlM stp s = some s'
        rw [List.foldlM_cons, q]
        rfl
      obtain ⟨ρ', h', e'⟩ := for_liveM enc stp c Rl xs s0 n hn hs l (d ++ [x]) s' ρ2 h2 (by rw [ex]; simp) ed' e.2
      refine ⟨ρ', h', ?_⟩
      have ff : forLive t body n xs.length (x :: l).length d.length ρ h = forLive t body n xs.length l.length (d ++ [x]).length ρ2 h2 := by
        show forLive t body n xs.length (l.length + 1) d.length ρ h = _
        conv => lhs; unfold forLive
        rw [it]
        simp only [b, e.1]
        rw [List.length_append]
        rfl
      show match l.foldlM stp s' with | some s' => forLive t body n xs.length (x :: l).length d.length ρ h = .nx ρ' h' ∧ Rl s' ρ' h' | none => forLive t body n xs.length (x :: l).length d.length ρ h = .exc c ρ' h'
      rw [ff]
      exact e'
end MP
namespace Cd
open MP
variable {P : Nat → Option Def} [Ext P]
/-- led, the deeds in a list of the heap -/
theorem p_ledR {l : Things} {ds : List Deed} (g : Good l) (gd : ∀ d ∈ ds, GoodD d) (hz : ds.length ≤ 900) (n fl : Nat) {r : Nat} {h : Hp} (hr : h[r]? = some (.lst (ds.map dD))) :
    callA (lev P (n + 4)) true 44 [.tup (l.map tD), .ref r] fl h = match ledF l ds with | some r => .ok (.d (.tup (r.map tD))) h | none => .exc 2 h := by
  have hl := g.len
  have hm : l.length ≤ most := by unfold most; omega
  have hrl : r < h.length := (List.getElem?_eq_some_iff.mp hr).1
  have odd := evT_compT (G := lev P (n + 3)) (fl := h.length) (ρ := [some (.tup (l.map tD)), some (.ref r), none, none, none]) (own := [3]) (tg := .v 3) (it := .seq (.var 1)) (cond := some (.not (.call true 41 [(.var 3)]))) (elt := .var 3) (h1 := h) (h := h) (s := .live r (ds.map dD).length) dD (fun _ => false) dD ds (by simp [hr]) ⟨hr, rfl⟩ (fun d hd => by
    simp [turn, bindT, wipe, p_is_deed (gd d hd)])
  have odd' : ds.any (fun _ => false) = false := by simp
  rw [odd'] at odd
  have isl : isiV h .list (.d (.ref r)) = some true := by simp [isiV, hr]
  have s1 : ex (lev P (n + 3)) h.length (.exp (.call true 4 [(.var 0)])) [some (.tup (l.map tD)), some (.ref r), none, none, none] h = .nx [some (.tup (l.map tD)), some (.ref r), none, none, none] h := by
    simp [p_look g]
  have s2 : ex (lev P (n + 3)) h.length (.ifs (.or (.not (.blt (.isi .list) [(.var 1)])) (.comp [3] (.v 3) (.seq (.var 1)) (some (.not (.call true 41 [(.var 3)]))) (.var 3))) [(.rai 2)] []) [some (.tup (l.map tD)), some (.ref r), none, none, none] h = .nx [some (.tup (l.map tD)), some (.ref r), none, none, none] h := by
    simp [odd, isl]
  have s3 : ex (lev P (n + 3)) h.length (.asg true (.v 2) (.blt .list [(.var 0)])) [some (.tup (l.map tD)), some (.ref r), none, none, none] h = .nx [some (.tup (l.map tD)), some (.ref r), some (.ref h.length), none, none] (h ++ [.lst (l.map tD)]) := by
    simp [bList, hm]
  obtain ⟨ρ', h', ef⟩ := for_liveM (t := .v 3) (body := fun ρ hh => exs (lev P (n + 3)) h.length [(.ifs (.not (.call false 43 [(.var 2), (.var 3)])) [(.rai 2)] [])] ρ hh) dD doneF 2
    (fun row ρ hh => (∃ x, ρ = [some (.tup (l.map tD)), some (.ref r), some (.ref h.length), x, none]) ∧ hh = h ++ [.lst (row.map tD)]) ds l r (fun row ρ hh ⟨_, e⟩ => by rw [e, List.getElem?_append_left hrl]; exact hr) (fun d x r' row ρ hh q ed ⟨⟨y, e1⟩, e2⟩ => by
      subst e1 e2
      have dl : d.length ≤ 900 := by
        have := congrArg List.length q
        simp at this; omega
      have gr := fold_goodD d g.goodN (fun z hz => gd z (by rw [q]; simp [hz])) ed
      have rl := gr.len
      refine ⟨[some (.tup (l.map tD)), some (.ref r), some (.ref h.length), some (dD x), none], by simp [bindT], ?_⟩
      have cd := c_doneD (P := P) (row := row) (d := x) (r := h.length) (n := n) (fl := h.length) (h := h ++ [.lst (row.map tD)]) (by simp) (by omega) (by omega)
      cases qd : doneF row x with
      | some row' =>
        rw [qd] at cd
        refine ⟨[some (.tup (l.map tD)), some (.ref r), some (.ref h.length), some (dD x), none], h ++ [.lst (row'.map tD)], ?_, ⟨_, rfl⟩, rfl⟩
        simp at cd
        simp [cd]
      | none =>
        rw [qd] at cd
        obtain ⟨h2, cd⟩ := cd
        refine ⟨[some (.tup (l.map tD)), some (.ref r), some (.ref h.length), some (dD x), none], h2, ?_⟩
        simp [cd]) ds [] l [some (.tup (l.map tD)), some (.ref r), some (.ref h.length), none, none] (h ++ [.lst (l.map tD)]) rfl rfl ⟨⟨_, rfl⟩, rfl⟩
  have hr' : (h ++ [O.lst (l.map tD)])[r]? = some (.lst (ds.map dD)) := by rw [List.getElem?_append_left hrl]; exact hr
  have efor := ex_forL (G := lev P (n + 3)) (fl := h.length) (ρ := [some (.tup (l.map tD)), some (.ref r), some (.ref h.length), none, none]) (t := .v 3) (it := .seq (.var 1)) (b := [(.ifs (.not (.call false 43 [(.var 2), (.var 3)])) [(.rai 2)] [])]) (n := r) (k := ds.length) (h := h ++ [.lst (l.map tD)]) (h1 := h ++ [.lst (l.map tD)]) (by simp only [evI_seq, ev_var, List.getElem?_cons_succ, List.getElem?_cons_zero, R.bind_ok]; rw [srcOf_ref hr']; simp)
  unfold ledF
  cases qf : ds.foldlM doneF l with
  | none =>
    rw [qf] at ef
    exact callM_exc (d := c_led) rfl (run_exc (ρ := [some (.tup (l.map tD)), some (.ref r), none, none, none]) rfl rfl (exs_to s1 (exs_to s2 (exs_to s3 (exs_stop (efor.trans ef))))))
  | some row =>
    rw [qf] at ef
    obtain ⟨e0, ⟨y, e1⟩, e2⟩ := ef
    subst e1 e2
    have gr := fold_goodD ds g.goodN gd qf
    have pl := p_is_listN (P := P) gr (n + 1) h.length (h ++ [.lst (row.map tD)])
    by_cases c : row.length ≤ 16
    · simp only [if_pos c]
      rw [decide_eq_true c] at pl
      refine callM_of (d := c_led) (v := .d (.tup (row.map tD))) (h' := h ++ [.lst (row.map tD)]) rfl (run_rt (ρ := [some (.tup (l.map tD)), some (.ref r), none, none, none]) rfl rfl (exs_to s1 (exs_to s2 (exs_to s3 (exs_to (efor.trans e0) ?_))))) (by simp [outV, nrN])
      simp [pl]
    · simp only [if_neg c]
      rw [decide_eq_false c] at pl
      refine callM_exc (d := c_led) (h' := h ++ [.lst (row.map tD)]) rfl (run_exc (ρ := [some (.tup (l.map tD)), some (.ref r), none, none, none]) (ρ' := [some (.tup (l.map tD)), some (.ref r), some (.ref h.length), y, some (.tup (row.map tD))]) rfl rfl (exs_to s1 (exs_to s2 (exs_to s3 (exs_to (efor.trans e0) ?_)))))
      simp [pl]
end Cd
end
section
set_option linter.all false
set_option maxRecDepth 100000
set_option maxHeartbeats 1000000
namespace Cd
open MP
variable {P : Nat → Option Def} [Ext P]
theorem p_lkeysL (l : Things) (n fl : Nat) (h : Hp) : callA (lev P (n + 1)) true 20 [.lst (l.map tD)] fl h = .ok (.nls ((ks l).map .str)) h := by
  have hc := ev_compM (G := lev P n) (fl := h.length) (ρ := [some (.lst (l.map tD)), none, none]) (own := [1, 2]) (tg := .t [.v 1, .v 2]) (it := .seq (.var 0)) (cond := none) (elt := .var 1) (h1 := h) (h := h) (s := .fix (l.map tD)) tD (fun p => .str p.1) l (by simp) rfl (fun p hp => by simp [turn, tD, bindT, bindTs, wipe])
  have hm : l.map (fun p => D.str p.1) = (ks l).map .str := by simp [ks]
  rw [hm] at hc
  refine callM_of (d := c_law_keys) (v := .nls ((ks l).map .str)) (h' := h) rfl (run_rt rfl rfl ?_) ?_
  · simp [c_law_keys, start, hc]
  · simp [outV, nrN]
def oL : Option Things → D
  | none => .non
  | some r => .lst (r.map tD)
def keysO : Option Things → List Txt
  | none => []
  | some r => ks r
/-! ### a drawn deed -/
def ldHere (s : Int) (keys : List Txt) : Txt := if keys ≠ [] ∧ 0 < s / 11 % 9 then keys.getD (s / 7 % (keys.length : Int)).toNat [] else keyF (seedF s 1)
def ldBehind (s : Int) (keys : List Txt) : Option Txt := if keys ≠ [] ∧ 0 < s / 17 % 9 then some (keys.getD (s / 13 % (keys.length : Int)).toNat []) else if s / 19 % 9 / 8 = 0 then none else some [122, 122]
def ldDeed (s : Int) (keys : List Txt) : Deed := if pickF s 6 < 2 then .put (keyF (seedF s 2)) (s / 23 % 1000) (ldBehind s keys) else if pickF s 6 < 4 then .move (ldHere s keys) (ldBehind s keys) else if pickF s 6 = 4 then .strike (ldHere s keys) else .change (ldHere s keys) (s / 23 % 1000)
theorem zz_good : goodKey [122, 122] := by refine ⟨by decide, by decide, fun c hc => ?_⟩; simp at hc; omega
theorem ldDeed_good (s : Int) {keys : List Txt} (hk : ∀ x ∈ keys, goodKey x) : GoodD (ldDeed s keys) := by
  have gh : goodKey (ldHere s keys) := by
    unfold ldHere
    split
    · rename_i h
      obtain ⟨a, b⟩ := ix_mod (s / 7) h.1
      exact getD_good hk a b
    · exact key_good _
  have gb : goodB (ldBehind s keys) := by
    unfold ldBehind
    split
    · rename_i h
      obtain ⟨a, b⟩ := ix_mod (s / 13) h.1
      exact getD_good hk a b
    · split
      · trivial
      · exact zz_good
  have gv : 0 ≤ s / 23 % 1000 ∧ s / 23 % 1000 ≤ 999 := by
    have a := mod_lo (s / 23) (by decide : (0 : Int) < 1000)
    have b := mod_hi (s / 23) (by decide : (0 : Int) < 1000)
    omega
  unfold ldDeed
  split
  · exact ⟨key_good _, gv, gb⟩
  · split
    · exact ⟨gh, gb⟩
    · split
      · exact gh
      · exact ⟨gh, gv⟩
theorem sub_fourN (h : Hp) (x y z w : D) (i : Int) (h0 : 0 ≤ i) (h1 : i < 4) : subOp h (.nls [x, y, z, w]) (.d (.int i)) = some (.d (if i = 0 then x else if i = 1 then y else if i = 2 then z else w)) := by
  have : i = 0 ∨ i = 1 ∨ i = 2 ∨ i = 3 := by omega
  rcases this with e | e | e | e <;> rw [e] <;> rfl
theorem p_ldeed (o : Option Things) (s : Int) (n fl : Nat) (h : Hp) : callA (lev P (n + 3)) true 48 [oL o, .int s] fl h = .ok (.d (dD (ldDeed s (keysO o)))) h := by
  obtain ⟨keys, hk⟩ : ∃ keys, keys = keysO o := ⟨_, rfl⟩
  rw [← hk]
  let E (x2 x3 x4 x5 x6 : Option D) : Env := [some (oL o), some (.int s), x2, x3, x4, x5, x6]
  have nrd : outV h.length h (.d (dD (ldDeed s keys))) = some (.d (dD (ldDeed s keys))) := by
    have := nr_deed (ldDeed s keys) 63
    cases q : ldDeed s keys <;> rw [q] at this <;> simp [dD] at this <;> simp [dD, outV, this]
  refine callM_of (d := c_law_deed) (v := .d (dD (ldDeed s keys))) (h' := h) rfl (run_rt (ρ := E none none none none none) rfl rfl ?_) nrd
  have pk1 : callA (lev P (n + 2)) true 15 [.int (seedF s 1)] h.length h = .ok (.d (.str (keyF (seedF s 1)))) h := p_key (P := P) (seedF s 1) n h.length h
  have pk2 : callA (lev P (n + 2)) true 15 [.int (seedF s 2)] h.length h = .ok (.d (.str (keyF (seedF s 2)))) h := p_key (P := P) (seedF s 2) n h.length h
  have en := eq_strsN (h := h) keys
  refine exs_to (ρ1 := E (some (.lst (keys.map .str))) none none none none) (h1 := h) ?_ ?_
  · rw [hk]
    cases o with
    | none => simp [E, oL, keysO]
    | some r =>
      have := p_lkeysL (P := P) r (n + 1) h.length h
      simp [E, oL, keysO, this, isNon]
  refine exs_to (ρ1 := E (some (.lst (keys.map .str))) (some (.str (ldHere s keys))) none none none) (h1 := h) ?_ ?_
  · unfold ldHere
    by_cases c1 : keys = []
    · subst c1
      simp only [List.map_nil] at en
      simp [E, en, p_seed, pk1]
    · obtain ⟨m1, m2⟩ := ix_mod (s / 7) c1
      have sb := sub_strs (h := h) (a := .d (.lst (keys.map .str))) (l := keys) (i := s / 7 % (keys.length : Int)) rfl m1 m2
      by_cases c2 : 0 < s / 11 % 9
      · simp [E, en, c1, c2, sb]
      · simp [E, en, c1, c2, p_seed, pk1]
  refine exs_to (ρ1 := E (some (.lst (keys.map .str))) (some (.str (ldHere s keys))) (some (bD (ldBehind s keys))) none none) (h1 := h) ?_ ?_
  · have a0 := mod_lo (s / 19) (by decide : (0 : Int) < 9)
    have a1 := mod_hi (s / 19) (by decide : (0 : Int) < 9)
    have s8 : subOp h (.nls [.non, .str [122, 122]]) (.d (.int (s / 19 % 9 / 8))) = some (.d (if s / 19 % 9 / 8 = 0 then .non else .str [122, 122])) := by
      have : s / 19 % 9 / 8 = 0 ∨ s / 19 % 9 / 8 = 1 := by omega
      rcases this with e | e <;> rw [e] <;> rfl
    unfold ldBehind
    by_cases c1 : keys = []
    · subst c1
      simp only [List.map_nil] at en
      by_cases c3 : s / 19 % 9 / 8 = 0
      · rw [if_pos c3] at s8; rw [c3] at s8; simp [E, en, s8, c3, bD]
      · rw [if_neg c3] at s8; simp [E, en, s8, c3, bD]
    · obtain ⟨m1, m2⟩ := ix_mod (s / 13) c1
      have sb := sub_strs (h := h) (a := .d (.lst (keys.map .str))) (l := keys) (i := s / 13 % (keys.length : Int)) rfl m1 m2
      by_cases c2 : 0 < s / 17 % 9
      · simp [E, en, c1, c2, sb, bD]
      · by_cases c3 : s / 19 % 9 / 8 = 0
        · rw [if_pos c3] at s8; rw [c3] at s8; simp [E, en, c1, c2, s8, c3, bD]
        · rw [if_neg c3] at s8; simp [E, en, c1, c2, s8, c3, bD]
  refine exs_to (ρ1 := E (some (.lst (keys.map .str))) (some (.str (ldHere s keys))) (some (bD (ldBehind s keys))) (some (.int (pickF s 6))) none) (h1 := h) (by simp [E, p_pick]) ?_
  have p0 : 0 ≤ pickF s 6 := mod_lo (s / 97) (by decide : (0 : Int) < 6)
  have p1 : pickF s 6 < 6 := mod_hi (s / 97) (by decide : (0 : Int) < 6)
  unfold ldDeed
  by_cases c1 : pickF s 6 < 2
  · refine exs_rt ?_
    simp [E, c1, p_seed, pk2, dD, putT]
  · refine exs_to (ρ1 := E (some (.lst (keys.map .str))) (some (.str (ldHere s keys))) (some (bD (ldBehind s keys))) (some (.int (pickF s 6))) none) (h1 := h) (by simp [E, c1]) ?_
    refine exs_to (ρ1 := E (some (.lst (keys.map .str))) (some (.str (ldHere s keys))) (some (bD (ldBehind s keys))) (some (.int (pickF s 6))) (some (dD (.change (ldHere s keys) (s / 23 % 1000))))) (h1 := h) (by simp [E, dD, changeT]) ?_
    have s4 := sub_fourN h (dD (.move (ldHere s keys) (ldBehind s keys))) (dD (.move (ldHere s keys) (ldBehind s keys))) (dD (.strike (ldHere s keys))) (dD (.change (ldHere s keys) (s / 23 % 1000))) (pickF s 6 - 2) (by omega) (by omega)
    have s4' : (if pickF s 6 - 2 = 0 then dD (.move (ldHere s keys) (ldBehind s keys)) else if pickF s 6 - 2 = 1 then dD (.move (ldHere s keys) (ldBehind s keys)) else if pickF s 6 - 2 = 2 then dD (.strike (ldHere s keys)) else dD (.change (ldHere s keys) (s / 23 % 1000))) = dD (if pickF s 6 < 4 then .move (ldHere s keys) (ldBehind s keys) else if pickF s 6 = 4 then .strike (ldHere s keys) else .change (ldHere s keys) (s / 23 % 1000)) := by
      have : pickF s 6 = 2 ∨ pickF s 6 = 3 ∨ pickF s 6 = 4 ∨ pickF s 6 = 5 := by omega
      rcases this with e | e | e | e <;> rw [e] <;> rfl
    rw [s4'] at s4
    rw [if_neg c1]
    obtain ⟨dd, hdd⟩ : ∃ dd, dd = dD (.change (ldHere s keys) (s / 23 % 1000)) := ⟨_, rfl⟩
    obtain ⟨dr, hdr⟩ : ∃ dr, dr = dD (if pickF s 6 < 4 then .move (ldHere s keys) (ldBehind s keys) else if pickF s 6 = 4 then .strike (ldHere s keys) else .change (ldHere s keys) (s / 23 % 1000)) := ⟨_, rfl⟩
    rw [← hdd, ← hdr] at s4
    rw [← hdd, ← hdr]
    simp only [dD, moveT, strikeT] at s4
    simp [E, s4]
/-! ### a deed done -/
abbrev nE (row : Things) (d : Deed) (x2 x3 x4 x5 : Option D) : Env := [some (.lst (row.map tD)), some (dD d), x2, x3, x4, x5]
abbrev sNext : List Stm := [
  (.ifs (.and (.cmp .notn (.sub (.var 1) (.neg (.cst (.int 1)))) (.cst .non)) (.cmp .notin (.sub (.var 1) (.neg (.cst (.int 1)))) (.call true 20 [(.var 3)]))) [(.ret (.cst .non))] []),
  (.asg false (.v 5) (.ife (.cmp .isn (.sub (.var 1) (.neg (.cst (.int 1)))) (.cst .non)) (.cst (.int 0)) (.bin .add (.mth .index (.call true 20 [(.var 3)]) [(.sub (.var 1) (.neg (.cst (.int 1))))]) (.cst (.int 1))))),
  (.ret (.bin .add (.bin .add (.slc (.var 3) none (some (.var 5))) (.lst [(.var 4)])) (.slc (.var 3) (some (.var 5)) none)))]
def oN : Option Things → Vl
  | none => .d .non
  | some r => .nls (r.map tD)
theorem bIndexN {fl : Nat} {h : Hp} {x : Txt} {l : List Txt} (hx : x ∈ l) : bIndex fl h [.nls (l.map .str), .d (.str x)] = some ((.d (.int (l.idxOf x))), h) := by
  simp [bIndex, lstOf, dataOf, nrN, flat_strs, indexD_strs x l hx, flat]
theorem next_put {n fl : Nat} {row rest : Things} {d : Deed} {p : Txt × Int} {b : Option Txt} {x2 : Option D} {h : Hp} (hb : subOp h (.d (dD d)) (.d (.int (-1))) = some (.d (bD b))) (hz : rest.length ≤ 900) :
    exs (lev P (n + 1)) fl sNext (nE row d x2 (some (.lst (rest.map tD))) (some (tD p)) none) h = .rt (oN (putBehindF rest p b)) h := by
  have kk := p_lkeysL (P := P) rest n fl h
  have fin : ∀ i : Nat, i ≤ rest.length → exs (lev P (n + 1)) fl [(.ret (.bin .add (.bin .add (.slc (.var 3) none (some (.var 5))) (.lst [(.var 4)])) (.slc (.var 3) (some (.var 5)) none)))] (nE row d x2 (some (.lst (rest.map tD))) (some (tD p)) (some (.int (i : Int)))) h = .rt (.nls ((insertAt rest i p).map tD)) h := fun i hi => by
    have e1 : slcOp h (.d (.lst (rest.map tD))) none (some (i : Int)) = some (.nls ((rest.take i).map tD)) := by rw [slc_lstN, cut_to, List.map_take]
    have e2 : slcOp h (.d (.lst (rest.map tD))) (some (i : Int)) none = some (.nls ((rest.drop i).map tD)) := by rw [slc_lstN, cut_from, List.map_drop]
    have a1 := addV_nn (h := h) (l := (rest.take i).map tD) (r := [tD p]) (by simp [most]; omega)
    have a2 := addV_nn (h := h) (l := (rest.take i).map tD ++ [tD p]) (r := (rest.drop i).map tD) (by simp [most]; omega)
    have f : (rest.take i).map tD ++ [tD p] ++ (rest.drop i).map tD = (insertAt rest i p).map tD := by simp [insertAt]
    rw [f] at a2
    simp [e1, e2, a1, a2, -List.map_take, -List.map_drop]
  cases b with
  | none =>
    simp only [bD] at hb
    refine exs_to (ρ1 := nE row d x2 (some (.lst (rest.map tD))) (some (tD p)) none) (h1 := h) (by simp [hb]) ?_
    refine exs_to (ρ1 := nE row d x2 (some (.lst (rest.map tD))) (some (tD p)) (some (.int ((0 : Nat) : Int)))) (h1 := h) (by simp [hb]) ?_
    exact fin 0 (Nat.zero_le _)
  | some k =>
    simp only [bD] at hb
    by_cases c : k ∈ ks rest
    · have il := idx_lt c
      rw [ks_len] at il
      refine exs_to (ρ1 := nE row d x2 (some (.lst (rest.map tD))) (some (tD p)) none) (h1 := h) (by simp [hb, kk, in_strsN, c]) ?_
      refine exs_to (ρ1 := nE row d x2 (some (.lst (rest.map tD))) (some (tD p)) (some (.int (((ks rest).idxOf k + 1 : Nat) : Int)))) (h1 := h) (by simp [hb, kk, bIndexN c]) ?_
      simp only [putBehindF, if_pos c]
      exact fin _ (by omega)
    · simp only [putBehindF, if_neg c]
      refine exs_rt ?_
      simp [hb, kk, in_strsN, c, oN]
theorem p_ldone {row : Things} {d : Deed} (nd : (ks row).Nodup) (hz : row.length ≤ 900) (n fl : Nat) (h : Hp) : ∃ v, callA (lev P (n + 2)) true 49 [.lst (row.map tD), dD d] fl h = .ok v h ∧ keep h v = (oL (doneF row d), h) := by
  suffices main : ∃ v, exs (lev P (n + 1)) h.length c_law_done.body (nE row d none none none none) h = .rt v h ∧ outV h.length h v = some v ∧ keep h v = (oL (doneF row d), h) by
    obtain ⟨v, e1, e2, e3⟩ := main
    exact ⟨v, callM_of (d := c_law_done) (v := v) (h' := h) rfl (run_rt (ρ := nE row d none none none none) rfl rfl e1) e2, e3⟩
  have onv : ∀ o : Option Things, outV h.length h (oN o) = some (oN o) ∧ keep h (oN o) = (oL o, h) := fun o => by cases o <;> simp [oN, oL, outV, nrN]
  have kk := p_lkeysL (P := P) row n h.length h
  have wn := wordsNe
  have rs := ev_compT (G := lev P (n + 1)) (fl := h.length) (ρ := nE row d (some (.lst ((ks row).map .str))) none none none) (own := [4]) (tg := .v 4) (it := .seq (.var 0)) (cond := some (.cmp .ne (.sub (.var 4) (.cst (.int 0))) (.sub (.var 1) (.cst (.int 1))))) (elt := .var 4) (h1 := h) (h := h) (s := .fix (row.map tD)) tD (fun p => p.1 != keyT d) tD row (by simp) rfl (fun p hp => by
    by_cases c : p.1 = keyT d <;> simp [turn, bindT, wipe, tD, sub_keyT, c])
  have s1 : ex (lev P (n + 1)) h.length (.asg false (.v 2) (.call true 20 [(.var 0)])) (nE row d none none none none) h = .nx (nE row d (some (.lst ((ks row).map .str))) none none none) h := by simp [kk]
  have s2 : ex (lev P (n + 1)) h.length (.asg false (.v 3) (.comp [4] (.v 4) (.seq (.var 0)) (some (.cmp .ne (.sub (.var 4) (.cst (.int 0))) (.sub (.var 1) (.cst (.int 1))))) (.var 4))) (nE row d (some (.lst ((ks row).map .str))) none none none) h = .nx (nE row d (some (.lst ((ks row).map .str))) (some (.lst ((row.filter fun p => p.1 != keyT d).map tD))) none none) h := by
    rw [ex_asgV, rs]; simp
  cases d with
  | put k v b =>
    by_cases c : k ∈ ks row
    · refine ⟨.d .non, exs_to s1 (exs_to s2 (exs_rt ?_)), rfl, by simp [doneF, c, oL]⟩
      simp [dD, in_strs, c, wn]
    · refine ⟨oN (putBehindF row (k, v) b), exs_to s1 (exs_to s2 ?_), (onv _).1, by rw [(onv _).2]; simp [doneF, c]⟩
      simp only [keyT]
      rw [notin_filter c]
      refine exs_to (ρ1 := nE row (.put k v b) (some (.lst ((ks row).map .str))) (some (.lst (row.map tD))) none none) (h1 := h) (by simp [dD, in_strs, c, wn]) ?_
      refine exs_to (ρ1 := nE row (.put k v b) (some (.lst ((ks row).map .str))) (some (.lst (row.map tD))) none none) (h1 := h) (by simp [dD, show (putT = [115, 116, 114, 105, 107, 101]) = False by decide]) ?_
      refine exs_to (ρ1 := nE row (.put k v b) (some (.lst ((ks row).map .str))) (some (.lst (row.map tD))) none none) (h1 := h) (by simp [dD, show (putT = [99, 104, 97, 110, 103, 101]) = False by decide]) ?_
      refine exs_to (ρ1 := nE row (.put k v b) (some (.lst ((ks row).map .str))) (some (.lst (row.map tD))) (some (tD (k, v))) none) (h1 := h) (by simp [dD, wn, tD]) ?_
      exact next_put (b := b) (by simp [dD]) hz
  | strike k =>
    by_cases c : k ∈ ks row
    · refine ⟨.d (.lst ((row.filter fun p => p.1 != k).map tD)), exs_to s1 (exs_to s2 (exs_to (ρ1 := nE row (.strike k) (some (.lst ((ks row).map .str))) (some (.lst ((row.filter fun p => p.1 != k).map tD))) none none) (h1 := h) (by simp [dD, in_strs, c, wn, keyT]) (exs_rt ?_))), by simp [outV, nrN], ?_⟩
      · simp [dD, wn]
      · simp only [doneF, if_pos c]
        rw [erase_things nd c]
        rfl
    · refine ⟨.d .non, exs_to s1 (exs_to s2 (exs_rt ?_)), rfl, by simp [doneF, c, oL]⟩
      simp [dD, in_strs, c, wn]
  | change k v =>
    by_cases c : k ∈ ks row
    · have ch := ev_compM (G := lev P (n + 1)) (fl := h.length) (ρ := nE row (.change k v) (some (.lst ((ks row).map .str))) (some (.lst ((row.filter fun p => p.1 != k).map tD))) none none) (own := [4]) (tg := .v 4) (it := .seq (.var 0)) (cond := none) (elt := .ife (.cmp .eq (.sub (.var 4) (.cst (.int 0))) (.sub (.var 1) (.cst (.int 1)))) (.tup [(.sub (.var 1) (.cst (.int 1))), (.sub (.var 1) (.cst (.int 2)))]) (.var 4)) (h1 := h) (h := h) (s := .fix (row.map tD)) tD (fun p => tD (if p.1 = k then (p.1, v) else p)) row (by simp) rfl (fun p hp => by
        by_cases c : p.1 = k <;> simp [turn, bindT, wipe, tD, dD, c])
      have mm : row.map (fun p => tD (if p.1 = k then (p.1, v) else p)) = (row.map fun p => if p.1 = k then (p.1, v) else p).map tD := by rw [List.map_map]; rfl
      rw [mm, ← set_things nd c] at ch
      refine ⟨.nls ((row.set ((ks row).idxOf k) (k, v)).map tD), exs_to s1 (exs_to s2 (exs_to (ρ1 := nE row (.change k v) (some (.lst ((ks row).map .str))) (some (.lst ((row.filter fun p => p.1 != k).map tD))) none none) (h1 := h) (by simp [dD, in_strs, c, wn, keyT]) (exs_to (ρ1 := nE row (.change k v) (some (.lst ((ks row).map .str))) (some (.lst ((row.filter fun p => p.1 != k).map tD))) none none) (h1 := h) (by simp [dD, wn]) (exs_rt ?_)))), by simp [outV, nrN, -List.map_set], by simp only [doneF, if_pos c, oL]; rfl⟩
      have tt : evT (lev P (n + 1)) h.length (.cmp .eq (.sub (.var 1) (.cst (.int 0))) (.cst (.str [99, 104, 97, 110, 103, 101]))) (nE row (.change k v) (some (.lst ((ks row).map .str))) (some (.lst ((row.filter fun p => p.1 != k).map tD))) none none) h = .ok true h := by simp [dD, wn]
      rw [ex_ifs, tt]
      simp only [R.st_ok, if_true]
      rw [exs_cons, ex_ret, ch]
      rfl
    · refine ⟨.d .non, exs_to s1 (exs_to s2 (exs_rt ?_)), rfl, by simp [doneF, c, oL]⟩
      simp [dD, in_strs, c, wn]
  | move k b =>
    by_cases c : k ∈ ks row
    · obtain ⟨v, hv⟩ := lookup_in row k c
      have gk : row.getD ((ks row).idxOf k) ([], 0) = (k, v) := by
        obtain ⟨g1, g2⟩ := getD_key c
        have := lookup_nodup nd _ g2
        rw [g1, hv] at this
        cases this
        exact Prod.ext g1 rfl
      refine ⟨oN (putBehindF (row.filter fun p => p.1 != k) (k, v) b), exs_to s1 (exs_to s2 ?_), (onv _).1, by rw [(onv _).2]; simp only [doneF, if_pos c]; rw [erase_things nd c, gk]⟩
      simp only [keyT]
      refine exs_to (ρ1 := nE row (.move k b) (some (.lst ((ks row).map .str))) (some (.lst ((row.filter fun p => p.1 != k).map tD))) none none) (h1 := h) (by simp [dD, in_strs, c, wn]) ?_
      refine exs_to (ρ1 := nE row (.move k b) (some (.lst ((ks row).map .str))) (some (.lst ((row.filter fun p => p.1 != k).map tD))) none none) (h1 := h) (by simp [dD, wn]) ?_
      refine exs_to (ρ1 := nE row (.move k b) (some (.lst ((ks row).map .str))) (some (.lst ((row.filter fun p => p.1 != k).map tD))) none none) (h1 := h) (by simp [dD, wn]) ?_
      have dct : bDict h [.d (.lst (row.map tD))] = some (.ndc (dK row), h) := by simp [bDict, dcOf, pairs_things, merge0 nd]
      have sb : subOp h (.ndc (dK row)) (.d (.str k)) = some (.d (.int v)) := by simp [subOp, seqOf, dicOf, kyOf, look_dK, hv]
      refine exs_to (ρ1 := nE row (.move k b) (some (.lst ((ks row).map .str))) (some (.lst ((row.filter fun p => p.1 != k).map tD))) (some (tD (k, v))) none) (h1 := h) (by simp [dD, wn, dct, sb, tD]) ?_
      exact next_put (b := b) (by simp [dD]) (Nat.le_trans (List.length_filter_le _ _) hz)
    · refine ⟨.d .non, exs_to s1 (exs_to s2 (exs_rt ?_)), rfl, by simp [doneF, c, oL]⟩
      simp [dD, in_strs, c, wn]
end Cd
end
section
set_option linter.all false
set_option maxRecDepth 100000
set_option maxHeartbeats 1000000
namespace Cd
open MP
variable {P : Nat → Option Def} [Ext P]
theorem p_is_keyA (n fl : Nat) (h : Hp) : callA (lev P (n + 1)) true 2 [.str [65]] fl h = .ok (.d (.bl false)) h := by
  refine callM_of (d := c_is_key) (v := .d (.bl false)) (h' := h) rfl (run_rt (ρ := [some (.str [65]), none]) rfl rfl ?_) rfl
  have hc := ev_compT (G := lev P n) (fl := h.length) (ρ := [some (.str [65]), none]) (h := h) (own := [1]) (tg := .v 1) (it := .seq (.var 0)) (cond := some (.cmp .notin (.var 1) (.glb 0 (.str abc)))) (elt := .var 1) (h1 := h) (s := .fix [.str [65]]) (fun _ : Unit => D.str [65]) (fun _ => true) (fun _ => D.str [65]) [()] (by simp [srcOf, most]) rfl (fun x hx => by simp [turn, bindT, wipe, inOp, abc])
  have m1 : bLen h [.d (.str [65])] = some (.d (.int 1), h) := by simp [bLen, most]
  simp only [abc] at hc
  simp [c_is_key, hc, m1, -bLen_str]
theorem p_is_keyI (i : Int) (n fl : Nat) (h : Hp) : callA (lev P (n + 1)) true 2 [.int i] fl h = .ok (.d (.bl false)) h := by
  refine callM_of (d := c_is_key) (v := .d (.bl false)) (h' := h) rfl (run_rt (ρ := [some (.int i), none]) rfl rfl ?_) rfl
  simp [c_is_key]
def oddL : List D := [.non, .str strikeT, .tup [.str strikeT], .tup [.str strikeT, .str [65]], .tup [.str putT, .str [122, 122, 122], .int 1], .tup [.str putT, .str [122, 122, 122], .int 1000, .non], .tup [.str moveT, .str [97]],
  .tup [.str putT, .str [122, 122, 122], .int 1, .str [65]], .tup [.str moveT, .str [97], .int 7], .tup [.str changeT, .str [97], .int (-1)], .tup [.str changeT, .str [97]], .tup [.str [103, 111], .str [97]], .lst [.str strikeT, .str [97]]]
theorem key_zzz : goodKey [122, 122, 122] := by refine ⟨by decide, by decide, fun c hc => ?_⟩; simp at hc; omega
theorem key_a : goodKey [97] := by refine ⟨by decide, by decide, fun c hc => ?_⟩; simp at hc; omega
theorem sz_go : sizesK.lookup [103, 111] = none := by decide
theorem isNon_int (i : Int) : isNon (.d (.int i)) = false := rfl
theorem p_odd (n fl : Nat) (h : Hp) : ∀ x ∈ oddL, callA (lev P (n + 2)) true 41 [x] fl h = .ok (.d (.bl false)) h := by
  intro x hx
  refine callM_of (d := c_is_deed_AT_changes) (v := .d (.bl false)) (h' := h) rfl (run_rt (ρ := [some x]) rfl rfl ?_) rfl
  have in1 : ∀ x y z : Txt, ([x, y].contains z) = (decide (z = x) || decide (z = y)) := fun x y z => by simp [List.contains_cons]
  have in2 : (strikeT = [112, 117, 116]) = False ∧ (strikeT = [109, 111, 118, 101]) = False ∧ (strikeT = [99, 104, 97, 110, 103, 101]) = False ∧ (putT = [112, 117, 116]) = True ∧ (moveT = [112, 117, 116]) = False ∧ (moveT = [109, 111, 118, 101]) = True ∧ (moveT = [99, 104, 97, 110, 103, 101]) = False ∧ (changeT = [112, 117, 116]) = False ∧ (changeT = [109, 111, 118, 101]) = False ∧ (changeT = [99, 104, 97, 110, 103, 101]) = True := by decide
  have kz := p_is_key (P := P) key_zzz n h.length h
  have ka := p_is_key (P := P) key_a n h.length h
  have kA := p_is_keyA (P := P) n h.length h
  have kI := fun i => p_is_keyI (P := P) i n h.length h
  simp only [oddL, List.mem_cons, List.not_mem_nil, or_false] at hx
  rcases hx with rfl | rfl | rfl | rfl | rfl | rfl | rfl | rfl | rfl | rfl | rfl | rfl | rfl <;>
    simp [c_is_deed_AT_changes, sz_strike, sz_put, sz_move, sz_change, sz_go, in_tup2, in1, in2, kz, ka, kA, kI, p_is_within, isNon_int]
/-- what are no deeds -/
inductive Bad : D → Prop
  | one {x : D} (h : x ∈ oddL) : Bad (.lst [x])
  | non : Bad .non
  | tup : Bad (.tup [])
  | str : Bad (.str [120])
theorem p_ledBad {l : Things} {b : D} (g : Good l) (hb : Bad b) (n fl : Nat) (h : Hp) : callA (lev P (n + 4)) true 44 [.tup (l.map tD), b] fl h = .exc 2 h := by
  have s1 : ex (lev P (n + 3)) h.length (.exp (.call true 4 [(.var 0)])) [some (.tup (l.map tD)), some b, none, none, none] h = .nx [some (.tup (l.map tD)), some b, none, none, none] h := by simp [p_look g]
  refine callM_exc (d := c_led) (h' := h) rfl (run_exc (ρ := [some (.tup (l.map tD)), some b, none, none, none]) (ρ' := [some (.tup (l.map tD)), some b, none, none, none]) rfl rfl (exs_to s1 (exs_stop ?_)))
  cases hb with
  | @one x hx =>
    have odd := evT_compT (G := lev P (n + 3)) (fl := h.length) (ρ := [some (.tup (l.map tD)), some (.lst [x]), none, none, none]) (own := [3]) (tg := .v 3) (it := .seq (.var 1)) (cond := some (.not (.call true 41 [(.var 3)]))) (elt := .var 3) (h1 := h) (h := h) (s := .fix [x]) (fun _ : Unit => x) (fun _ => true) (fun _ => x) [()] (by simp) rfl (fun d hd => by
      simp [turn, bindT, wipe, p_odd (P := P) (n + 1) h.length h x hx])
    simp [odd]
  | non => simp
  | tup => simp
  | str => simp
theorem p_nodeeds (ns : List Int) {l : Things} (g : Good l) (n fl : Nat) (h : Hp) : callA (lev P (n + 5)) true 50 [.ctp (ns.map .int), .tup (l.map tD)] fl h = .ok (.d (.bl true)) h := by
  let E (x2 x3 x4 : Option D) : Env := [some (.ctp (ns.map .int)), some (.tup (l.map tD)), x2, x3, x4]
  obtain ⟨o7, ho7⟩ : ∃ o, o = oddL.take 7 := ⟨_, rfl⟩
  obtain ⟨o12, ho12⟩ : ∃ o, o = oddL.take 12 := ⟨_, rfl⟩
  obtain ⟨o5, ho5⟩ : ∃ o, o = (oddL.take 12).drop 7 := ⟨_, rfl⟩
  have l7 : o7.length = 7 := by rw [ho7]; rfl
  have l5 : o5.length = 5 := by rw [ho5]; rfl
  have l12 : o12.length = 12 := by rw [ho12]; rfl
  have cat : o7 ++ o5 = o12 := by rw [ho7, ho5, ho12]; rfl
  obtain ⟨h1, hh1⟩ : ∃ h1 : Hp, h1 = h ++ [.lst o7] := ⟨_, rfl⟩
  have h1l : h1.length = h.length + 1 := by rw [hh1]; simp
  obtain ⟨h2, hh2⟩ : ∃ h2 : Hp, h2 = h1 ++ [.lst o12] := ⟨_, rfl⟩
  obtain ⟨h3, hh3⟩ : ∃ h3 : Hp, h3 = h1 ++ [.lst oddL] := ⟨_, rfl⟩
  have at1 : h1[h.length]? = some (.lst o7) := by rw [hh1]; simp
  have at2 : h2[h1.length]? = some (.lst o12) := by rw [hh2]; simp
  have at3 : h3[h1.length]? = some (.lst oddL) := by rw [hh3]; simp
  have c5 := p_cellI (P := P) ns 5 (by decide) (n + 3) h.length h3
  have c6 := p_cellI (P := P) ns 6 (by decide) (n + 3) h.length h3
  simp only [show (5 : Int).toNat = 5 from rfl, show (6 : Int).toNat = 6 from rfl] at c5 c6
  have m0 := mod_lo (cellF ns 5) (by decide : (0 : Int) < 13)
  have m1 := mod_hi (cellF ns 5) (by decide : (0 : Int) < 13)
  have hi : (cellF ns 5 % 13).toNat < oddL.length := by show _ < 13; omega
  have sb : subOp h3 (.d (.ref h1.length)) (.d (.int (cellF ns 5 % 13))) = some (.d oddL[(cellF ns 5 % 13).toNat]) := sub_at (l := oddL) (by simp [at3]) m0 (List.getElem?_eq_getElem hi)
  obtain ⟨x, hx⟩ : ∃ x, x = oddL[(cellF ns 5 % 13).toNat] := ⟨_, rfl⟩
  have xm : x ∈ oddL := by rw [hx]; exact List.getElem_mem hi
  rw [← hx] at sb
  obtain ⟨b, hb⟩ : ∃ b, b = (if cellF ns 6 % 4 = 0 then D.lst [x] else if cellF ns 6 % 4 = 1 then .non else if cellF ns 6 % 4 = 2 then .tup [] else .str [120]) := ⟨_, rfl⟩
  have bad : Bad b := by
    rw [hb]
    split
    · exact .one xm
    · split
      · exact .non
      · split
        · exact .tup
        · exact .str
  have s4 := sub_four h3 (.lst [x]) .non (.tup []) (.str [120]) (cellF ns 6)
  rw [← hb] at s4
  have ld := p_ledBad (P := P) g bad n h.length h3
  refine callM_of (d := c_law_no_deeds) (v := .d (.bl true)) (h' := h3) rfl (run_rt (ρ := E none none none) rfl rfl ?_) rfl
  refine exs_to (ρ1 := E (some (.ref h.length)) none none) (h1 := h1) (by rw [hh1, ho7]; simp [E, oddL, strikeT, putT, moveT]) ?_
  have a1 : addV h1 (.d (.ref h.length)) (.nls o5) = some (.nls o12) := by
    have z : o7.length + o5.length ≤ most := by rw [l7, l5]; decide
    simp only [addV, lstOf, at1]
    rw [if_pos z, cat]
  refine exs_to (ρ1 := E (some (.ref h1.length)) none none) (h1 := h2) ?_ ?_
  · rw [ho5] at a1
    simp only [oddL, List.take, List.drop, putT, moveT, changeT] at a1
    rw [hh2]
    simp [E, a1]
  refine exs_to (ρ1 := E (some (.ref h1.length)) none none) (h1 := h3) ?_ ?_
  · have lm : o12.length < most := by rw [l12]; decide
    have ap := bAppend_n (fl := h.length) (r := [.str [115, 116, 114, 105, 107, 101], .str [97]]) at2 (by omega) lm
    have e : h2.set h1.length (.lst (o12 ++ [.lst [.str [115, 116, 114, 105, 107, 101], .str [97]]])) = h3 := by
      rw [hh2, hh3, ho12]
      simp
      rfl
    rw [e] at ap
    simp [E, at2, ap]
  refine exs_to (ρ1 := E (some (.ref h1.length)) (some (.lst [.lst [x], .non, .tup [], .str [120]])) none) (h1 := h3) (by simp [E, c5, sb]) ?_
  refine exs_to (ρ1 := E (some (.ref h1.length)) (some (.lst [.lst [x], .non, .tup [], .str [120]])) (some (.int 0))) (h1 := h3) (by simp [E]) ?_
  refine exs_to (ρ1 := E (some (.ref h1.length)) (some (.lst [.lst [x], .non, .tup [], .str [120]])) (some (.int 1))) (h1 := h3) (by simp [E, c6, s4, ld, under]) ?_
  simp [E]
def wordT : Deed → Txt
  | .strike _ => strikeT
  | .put _ _ _ => putT
  | .move _ _ => moveT
  | .change _ _ => changeT
theorem sub_word {h : Hp} (d : Deed) : subOp h (.d (dD d)) (.d (.int 0)) = some (.d (.str (wordT d))) := by cases d <;> simp [dD, wordT]
end Cd
end
section
set_option linter.all false
set_option maxRecDepth 100000
set_option maxHeartbeats 1000000
namespace Cd
open MP
/-! ### plain: lean deeds -/
theorem zip_drop {ds : List Deed} {d : List (Deed × Nat)} {p : Deed × Nat} {r : List (Deed × Nat)} (h : ds.zipIdx = d ++ p :: r) : p.2 = d.length ∧ ds.drop d.length = p.1 :: ds.drop (d.length + 1) := by
  have e : ds.zipIdx[d.length]? = some p := by rw [h]; simp
  rw [List.getElem?_zipIdx] at e
  cases q : ds[d.length]? with
  | none => rw [q] at e; cases e
  | some x =>
    rw [q] at e
    cases e
    obtain ⟨hl, hx⟩ := List.getElem?_eq_some_iff.mp q
    exact ⟨by simp, by rw [List.drop_eq_getElem_cons hl, hx]⟩
theorem lean_at (l : Things) (ds : List Deed) (goal : Things) (h0 : ledF l ds = some goal) : ∀ (r d : List (Deed × Nat)), ds.zipIdx = d ++ r → ledF l (d.foldl (leanStep l ds goal) [] ++ ds.drop d.length) = some goal → ledF l (leanF l ds goal) = some goal
  | [], d, e, h => by
    have : d = ds.zipIdx := by rw [e]; simp
    rw [this] at h
    simp at h
    exact h
  | p :: r, d, e, h => by
    obtain ⟨e1, e2⟩ := zip_drop e
    refine lean_at l ds goal h0 r (d ++ [p]) (by rw [e]; simp) ?_
    rw [List.foldl_append, List.length_append, List.length_singleton]
    show ledF l (leanStep l ds goal (d.foldl (leanStep l ds goal) []) p ++ _) = _
    unfold leanStep
    rw [e1]
    split
    · assumption
    · rw [List.append_assoc]
      show ledF l (_ ++ p.1 :: ds.drop (d.length + 1)) = _
      rw [← e2]
      exact h
theorem lean_led {l : Things} {ds : List Deed} {goal : Things} (h : ledF l ds = some goal) : ledF l (leanF l ds goal) = some goal := lean_at l ds goal h ds.zipIdx [] rfl (by simpa using h)
theorem lean_sublist (l : Things) (ds : List Deed) (goal : Things) : ∀ (z : List (Deed × Nat)) (a : List Deed), ∃ b, z.foldl (leanStep l ds goal) a = a ++ b ∧ b.Sublist (z.map (·.1))
  | [], a => ⟨[], by simp, by simp⟩
  | p :: z, a => by
    rw [List.foldl_cons]
    unfold leanStep
    split
    · obtain ⟨b, e1, e2⟩ := lean_sublist l ds goal z a
      exact ⟨b, e1, e2.cons _⟩
    · obtain ⟨b, e1, e2⟩ := lean_sublist l ds goal z (a ++ [p.1])
      exact ⟨p.1 :: b, by
        have : z.foldl (leanStep l ds goal) (a ++ [p.1]) = a ++ p.1 :: b := by rw [e1]; simp
        exact this, e2.cons_cons _⟩
theorem lean_subl (l : Things) (ds : List Deed) (goal : Things) : (leanF l ds goal).Sublist ds := by
  obtain ⟨b, e1, e2⟩ := lean_sublist l ds goal ds.zipIdx []
  rw [List.zipIdx_map_fst] at e2
  unfold leanF
  rw [e1]
  simpa using e2
/-! greedy: all of a row within another one are met -/
def meet (small : List Deed) (at_ : Nat) (d : Deed) : Nat := if at_ < small.length ∧ small[at_]? = some d then at_ + 1 else at_
theorem meet_all (small : List Deed) : ∀ (ds : List Deed) (a : Nat), a ≤ small.length → (small.drop a).Sublist ds → ds.foldl (meet small) a = small.length
  | [], a, ha, h => by
    have := List.sublist_nil.mp h
    have : small.length ≤ a := List.drop_eq_nil_iff.mp this
    show a = _
    omega
  | d :: ds, a, ha, h => by
    rw [List.foldl_cons]
    by_cases lt : a < small.length
    · have e := List.drop_eq_getElem_cons lt
      rw [e] at h
      by_cases c : small[a] = d
      · have m : meet small a d = a + 1 := by
          unfold meet
          rw [if_pos ⟨lt, by rw [List.getElem?_eq_getElem lt, c]⟩]
        rw [m]
        refine meet_all small ds (a + 1) lt ?_
        rw [c] at h
        exact List.cons_sublist_cons.mp h
      · have m : meet small a d = a := by
          unfold meet
          rw [if_neg]
          intro x
          rw [List.getElem?_eq_getElem lt] at x
          exact c (Option.some.inj x.2)
        rw [m]
        refine meet_all small ds a ha ?_
        rw [e]
        cases h with
        | cons _ h => exact h
        | cons_cons _ h => exact absurd rfl c
    · have m : meet small a d = a := by
        unfold meet
        rw [if_neg (fun x => lt x.1)]
      rw [m]
      have : a = small.length := by omega
      subst this
      refine meet_all small ds _ (Nat.le_refl _) ?_
      simp
/-! sizes on the way -/
theorem putB_len {row row' : Things} {p : Txt × Int} {b : Option Txt} (e : putBehindF row p b = some row') : row'.length = row.length + 1 := by
  cases b with
  | none => cases e; exact len_insertAt _ _ _
  | some k =>
    simp only [putBehindF] at e
    split at e
    · cases e; exact len_insertAt _ _ _
    · cases e
def isStrike : Deed → Bool
  | .strike _ => true
  | _ => false
theorem done_len {row row' : Things} {d : Deed} (e : doneF row d = some row') : (isStrike d = true → row'.length ≤ row.length) ∧ (isStrike d = false → row.length ≤ row'.length) := by
  cases d with
  | put k v b =>
    simp only [doneF] at e
    split at e
    · cases e
    · exact ⟨fun h => (by cases h), fun _ => by rw [putB_len e]; omega⟩
  | strike k =>
    simp only [doneF] at e
    split at e
    · cases e; exact ⟨fun _ => (List.eraseIdx_sublist _ _).length_le, fun h => by cases h⟩
    · cases e
  | change k v =>
    simp only [doneF] at e
    split at e
    · cases e; exact ⟨fun h => (by cases h), fun _ => by simp⟩
    · cases e
  | move k b =>
    simp only [doneF] at e
    split at e
    · rename_i c
      have il := idx_lt c
      rw [ks_len] at il
      refine ⟨fun h => (by cases h), fun _ => ?_⟩
      rw [putB_len e, List.length_eraseIdx_of_lt il]
      omega
    · cases e
theorem ok_strikes : ∀ {ds : List Deed} {l r : Things}, (∀ d ∈ ds, isStrike d = true) → l.length ≤ 16 → ds.foldlM doneF l = some r → Ok16 l ds ∧ r.length ≤ 16
  | [], l, r, _, h, e => by
    have : l = r := Option.some.inj e
    subst this
    exact ⟨trivial, h⟩
  | d :: ds, l, r, hd, h, e => by
    rw [List.foldlM_cons] at e
    cases q : doneF l d with
    | none => rw [q] at e; cases e
    | some l' =>
      rw [q] at e
      have := (done_len q).1 (hd d List.mem_cons_self)
      obtain ⟨o, z⟩ := ok_strikes (fun x hx => hd x (List.mem_cons_of_mem _ hx)) (by omega) e
      exact ⟨⟨l', q, by omega, o⟩, z⟩
theorem ok_grow : ∀ {ds : List Deed} {l r : Things}, (∀ d ∈ ds, isStrike d = false) → r.length ≤ 16 → ds.foldlM doneF l = some r → Ok16 l ds ∧ l.length ≤ 16
  | [], l, r, _, h, e => by
    have : l = r := Option.some.inj e
    subst this
    exact ⟨trivial, h⟩
  | d :: ds, l, r, hd, h, e => by
    rw [List.foldlM_cons] at e
    cases q : doneF l d with
    | none => rw [q] at e; cases e
    | some l' =>
      rw [q] at e
      have := (done_len q).2 (hd d List.mem_cons_self)
      obtain ⟨o, z⟩ := ok_grow (fun x hx => hd x (List.mem_cons_of_mem _ hx)) h e
      exact ⟨⟨l', q, z, o⟩, by omega⟩
theorem ok_app : ∀ {a b : List Deed} {l r : Things}, Ok16 l a → a.foldlM doneF l = some r → Ok16 r b → Ok16 l (a ++ b)
  | [], b, l, r, _, e, o => by
    have : l = r := Option.some.inj e
    subst this
    exact o
  | d :: a, b, l, r, ⟨q, e1, z, o1⟩, e, o => by
    rw [List.foldlM_cons, e1] at e
    exact ⟨q, e1, z, ok_app o1 e o⟩
theorem mids_strike (l r : Things) (mv : List Txt) : ∀ (t : Things) (i : Nat), ∀ d ∈ midsT l r mv i t, isStrike d = false
  | [], _, d, h => by cases h
  | p :: t, i, d, h => by
    rcases List.mem_append.mp h with h | h
    · unfold midT at h
      split at h
      · split at h
        · cases List.mem_singleton.mp h; rfl
        · cases h
      · cases List.mem_singleton.mp h; rfl
    · exact mids_strike l r mv t (i + 1) d h
theorem deeds_ok {l r : Things} (gl : Good l) (gr : Good r) : Ok16 l (deedsT l r) := by
  have dl := deeds_lead gl.nd gr.nd
  unfold deedsT at dl ⊢
  rw [List.append_assoc] at dl ⊢
  rw [List.foldlM_append] at dl
  cases q : (strikesT l r).foldlM doneF l with
  | none => rw [q] at dl; cases dl
  | some l' =>
    rw [q] at dl
    have dl' : (midsT l r (movedF (ks l) (ks r)) 0 r ++ changesT l r).foldlM doneF l' = some r := dl
    obtain ⟨o1, z1⟩ := ok_strikes (fun d hd => by obtain ⟨x, _, rfl⟩ := List.mem_map.mp hd; rfl) gl.len q
    obtain ⟨o2, _⟩ := ok_grow (fun d hd => by
      rcases List.mem_append.mp hd with h | h
      · exact mids_strike _ _ _ _ _ d h
      · obtain ⟨x, _, rfl⟩ := List.mem_map.mp h; rfl) gr.len dl'
    exact ok_app o1 q o2
theorem deedsT_self {l : Things} (h : (ks l).Nodup) : deedsT l l = [] := by
  have := deeds_self h
  rw [← deedsT_D] at this
  exact List.map_eq_nil_iff.mp this
theorem deedsT_nil {l r : Things} (gl : Good l) (gr : Good r) : deedsT l r = [] ↔ l = r := by
  constructor
  · intro h
    have := deeds_lead gl.nd gr.nd
    rw [h] at this
    exact Option.some.inj this
  · intro h
    subst h
    exact deedsT_self gl.nd
theorem led_nil {l : Things} (h : l.length ≤ 16) : ledF l [] = some l := by
  unfold ledF
  show (if l.length ≤ 16 then some l else none) = _
  rw [if_pos h]
end Cd
end
section
set_option linter.all false
set_option maxRecDepth 100000
set_option maxHeartbeats 1000000
namespace Cd
open MP
/- CODE -/
/-- script, base, some, goal, back, small, at, deed, other, there, new -/
def c_law : MP.Def := ⟨11, 1, [
  (.asg false (.v 1) (.call true 16 [(.call true 13 [(.call true 12 [(.var 0), (.cst (.int 0))]), (.cst (.int 0))]), (.cst (.int 12))])),
  (.asg false (.v 2) (.call true 113 [(.var 1), (.call true 13 [(.call true 12 [(.var 0), (.cst (.int 1))]), (.cst (.int 1))])])),
  (.asg false (.v 3) (.call true 44 [(.var 1), (.var 2)])),
  (.asg false (.v 4) (.call true 107 [(.var 1), (.var 2)])),
  (.ifs (.or (.cmp .ne (.call true 44 [(.var 3), (.var 4)]) (.var 1)) (.cmp .ne (.call true 44 [(.var 1), (.call true 107 [(.var 3), (.var 4)])]) (.var 3))) [(.ret (.cst (.bl false)))] []),
  (.asg false (.v 5) (.call true 111 [(.var 1), (.var 2)])),
  (.ifs (.or (.cmp .ne (.call true 119 [(.var 1), (.var 5)]) (.var 3)) (.cmp .gt (.blt .len [(.var 5)]) (.blt .len [(.var 2)]))) [(.ret (.cst (.bl false)))] []),
  (.asg false (.v 6) (.cst (.int 0))),
  (.fors (.v 7) (.seq (.var 2)) [(.asg false (.v 6) (.bin .add (.var 6) (.blt .int [(.and (.cmp .lt (.var 6) (.blt .len [(.var 5)])) (.cmp .eq (.sub (.var 5) (.var 6)) (.var 7)))])))]),
  (.ifs (.or (.cmp .ne (.var 6) (.blt .len [(.var 5)])) (.and (.cmp .eq (.call true 111 [(.var 1), (.var 5)]) (.lst [])) (.and (.cmp .ne (.var 5) (.lst [])) (.cmp .ne (.var 3) (.var 1))))) [(.ret (.cst (.bl false)))] []),
  (.asg false (.v 8) (.call true 17 [(.var 1), (.call true 13 [(.call true 12 [(.var 0), (.cst (.int 2))]), (.cst (.int 2))]), (.cst (.int 6))])),
  (.asg false (.v 9) (.call true 11 [(.var 1), (.var 8)])),
  (.ifs (.or (.cmp .ne (.call true 107 [(.var 1), (.var 9)]) (.call true 11 [(.var 8), (.var 1)])) (.cmp .ne (.cmp .eq (.var 9) (.lst [])) (.cmp .eq (.var 1) (.var 8)))) [(.ret (.cst (.bl false)))] []),
  (.ifs (.or (.cmp .ne (.sub (.call true 108 [(.var 1), (.var 9)]) (.cst (.int 0))) (.var 1)) (.or (.cmp .ne (.sub (.call true 108 [(.var 1), (.var 9)]) (.neg (.cst (.int 1)))) (.var 8)) (.cmp .ne (.blt .len [(.call true 108 [(.var 1), (.var 9)])]) (.bin .add (.blt .len [(.var 9)]) (.cst (.int 1)))))) [(.ret (.cst (.bl false)))] []),
  (.fors (.v 7) (.seq (.var 2)) [(.asg false (.v 10) (.call true 112 [(.var 1), (.var 7)])), (.ifs (.and (.cmp .notn (.var 10) (.cst .non)) (.and (.cmp .le (.blt .len [(.var 10)]) (.cst (.int 16))) (.cmp .ne (.call true 110 [(.var 1), (.lst [(.var 7)])]) (.ife (.cmp .eq (.var 10) (.var 1)) (.lst [(.cst (.int 0))]) (.lst []))))) [(.ret (.cst (.bl false)))] [])]),
  (.ret (.and (.cmp .eq (.call true 110 [(.var 1), (.lst [])]) (.lst [])) (.cmp .eq (.call true 107 [(.var 1), (.lst [])]) (.lst []))))]⟩
def progL : Nat → Option MP.Def
  | 0 => some c_law
  | f => prog f
instance : Ext progL where
  ext f d h := by
    cases f with
    | zero => cases h
    | succ f => exact h
/- BODY -/
theorem eqD_strD (x y : Txt) : eqD (.str x) (.str y) = decide (x = y) := by
  rw [eqD]
  by_cases h : x = y <;> simp [h]
theorem eqD_intD (x y : Int) : eqD (.int x) (.int y) = decide (x = y) := by
  rw [eqD]
  by_cases h : x = y <;> simp [h]
theorem eqD_tupD (l r : List D) : eqD (.tup l) (.tup r) = eqL l r := by rw [eqD]
theorem eqL_cc (a b : D) (l r : List D) : eqL (a :: l) (b :: r) = (eqD a b && eqL l r) := by rw [eqL]
theorem eqL_nn : eqL [] [] = true := by rw [eqL]
theorem eqL_nc (b : D) (r : List D) : eqL [] (b :: r) = false := by simp [eqL]
theorem eqL_cn (b : D) (r : List D) : eqL (b :: r) [] = false := by simp [eqL]
theorem eqD_bD (a b : Option Txt) : eqD (bD a) (bD b) = decide (a = b) := by
  cases a with
  | none => cases b <;> simp [bD, eqD]
  | some x =>
    cases b with
    | none => simp [bD, eqD]
    | some y => simp only [bD, eqD_strD]; by_cases h : x = y <;> simp [h]
theorem eqD_dD (a b : Deed) : eqD (dD a) (dD b) = decide (a = b) := by
  have w : (strikeT = putT) = False ∧ (strikeT = moveT) = False ∧ (strikeT = changeT) = False ∧ (putT = strikeT) = False ∧ (putT = moveT) = False ∧ (putT = changeT) = False ∧ (moveT = strikeT) = False ∧ (moveT = putT) = False ∧ (moveT = changeT) = False ∧ (changeT = strikeT) = False ∧ (changeT = putT) = False ∧ (changeT = moveT) = False := by decide
  cases a <;> cases b <;> simp only [dD, eqD_tupD, eqL_cc, eqL_nn, eqL_nc, eqL_cn, eqD_strD, eqD_intD, eqD_bD, w] <;> simp
theorem eq_dD {h : Hp} (a b : Deed) : eqVl h (.d (dD a)) (.d (dD b)) = some (decide (a = b)) := by
  have ha := nr_deed a 63
  have hb := nr_deed b 63
  have e := eqD_dD a b
  have da : ∀ d : Deed, nrN 64 (dD d) = true → dataOf h (.d (dD d)) = some (dD d) := fun d hd => by
    cases d <;> simp only [dD] at hd ⊢ <;> simp [dataOf, hd]
  simp only [eqVl, da a ha, da b hb, e]
theorem eq_deedsNN {h : Hp} (ds : List Deed) : eqVl h (.nls (ds.map dD)) (.nls []) = some (decide (ds = [])) := by
  have : eqD (.lst (ds.map dD)) (.lst []) = decide (ds = []) := by
    rw [eqD, eqL_nil]
    cases ds <;> simp
  simp [eqVl, dataOf, nrN, nrL, this]
theorem eq_tt {h : Hp} (a b : Things) : eqVl h (.d (.tup (a.map tD))) (.d (.tup (b.map tD))) = some (decide (a = b)) := by
  have := eq_oD (h := h) (some a) (some b)
  simpa [oD] using this
theorem meet_le (small : List Deed) : ∀ (ds : List Deed) (a : Nat), a ≤ small.length → ds.foldl (meet small) a ≤ small.length
  | [], a, h => h
  | d :: ds, a, h => by
    rw [List.foldl_cons]
    refine meet_le small ds _ ?_
    unfold meet
    split
    · rename_i x; omega
    · exact h
theorem need_one (l new : Things) (d : Deed) (h : l.length ≤ 16) : needF l [d] new = if l = new then [0] else [] := by
  unfold needF
  have e : ([d] : List Deed).take 0 ++ [d].drop 1 = [] := rfl
  show (List.range 1).filter (fun k => decide (ledF l ([d].take k ++ [d].drop (k + 1)) = some new)) = _
  have r1 : List.range 1 = [0] := rfl
  rw [r1]
  by_cases c : l = new
  · rw [List.filter_cons_of_pos (by rw [e, led_nil h, c]; simp), if_pos c]; rfl
  · rw [List.filter_cons_of_neg (by rw [e, led_nil h]; simpa using c), if_neg c]; rfl
theorem rows_first : ∀ (ds : List Deed) (l : Things), ∃ L, rowsF l ds = l :: L
  | [], l => ⟨[], rfl⟩
  | d :: ds, l => ⟨_, rfl⟩
theorem law_k23 (ns : List Int) (n : Nat) (fl : Nat) (h : Hp) : ∃ h', runDef (lev progL (n + 8)) c_law [.ctp (ns.map .int)] fl h = .ok (.d (.bl true)) h' := by
  obtain ⟨l, hl⟩ : ∃ l, l = listF (seedF (cellF ns 0) 0) 12 := ⟨_, rfl⟩
  have gl : Good l := hl ▸ list_good _ 12 (by decide) (by decide)
  obtain ⟨ds, hds⟩ : ∃ ds, ds = someF l (seedF (cellF ns 1) 1) := ⟨_, rfl⟩
  have I := some_inv gl (seedF (cellF ns 1) 1)
  have ok : Ok16 l ds := hds ▸ I.ok
  have gd : ∀ d ∈ ds, GoodD d := hds ▸ I.gd
  have len : ds.length ≤ 6 := hds ▸ I.len
  obtain ⟨goal, eg, _, _⟩ := ok_led ok gl.len
  have gg : Good goal := good_led gl gd eg
  obtain ⟨o, ho⟩ : ∃ o, o = otherF l (seedF (cellF ns 2) 2) 6 := ⟨_, rfl⟩
  have go : Good o := ho ▸ other_good gl _ _
  obtain ⟨sm, hsm⟩ : ∃ sm, sm = leanF l ds goal := ⟨_, rfl⟩
  obtain ⟨gsm, lsm⟩ := lean_good (l := l) (goal := goal) gd
  rw [← hsm] at gsm lsm
  have esm : ledF l sm = some goal := hsm ▸ lean_led eg
  have ssm : sm.Sublist ds := hsm ▸ lean_subl l ds goal
  have c0 := p_cellI (P := progL) ns 0 (by decide) (n + 7) fl h
  have c1 := p_cellI (P := progL) ns 1 (by decide) (n + 7) fl h
  have c2 := p_cellI (P := progL) ns 2 (by decide) (n + 7) fl h
  simp only [show (0 : Int).toNat = 0 from rfl, show (1 : Int).toNat = 1 from rfl, show (2 : Int).toNat = 2 from rfl] at c0 c1 c2
  have ll := p_list' (P := progL) (seedF (cellF ns 0) 0) 12 (by decide) (by decide) (n + 5) fl h
  rw [← hl] at ll
  have ps := p_some (P := progL) gl (seedF (cellF ns 1) 1) (n + 4) fl h
  rw [← hds] at ps
  let E (x2 x3 x4 x5 x6 x7 x8 x9 x10 : Option D) : Env := [some (.ctp (ns.map .int)), some (.tup (l.map tD)), x2, x3, x4, x5, x6, x7, x8, x9, x10]
  refine ⟨h, run_rt (ρ := [some (.ctp (ns.map .int)), none, none, none, none, none, none, none, none, none, none]) rfl rfl ?_⟩
  refine exs_to (ρ1 := E none none none none none none none none none) (h1 := h) (by simp [E, c0, p_seed, ll]) ?_
  refine exs_to (ρ1 := E (some (.lst (ds.map dD))) none none none none none none none none) (h1 := h) (by simp [E, c1, p_seed, ps]) ?_
  have ld := p_led (P := progL) gl gd (by omega) (n + 4) fl h
  rw [eg] at ld
  simp only [] at ld
  refine exs_to (ρ1 := E (some (.lst (ds.map dD))) (some (.tup (goal.map tD))) none none none none none none none) (h1 := h) (by simp [E, ld]) ?_
  have tu := p_turned (P := progL) gl gd (by omega) eg (n + 3) fl h
  refine exs_to (ρ1 := E (some (.lst (ds.map dD))) (some (.tup (goal.map tD))) (some (.lst ((deedsT goal l).map dD))) none none none none none none) (h1 := h) (by simp [E, tu]) ?_
  have z1 := deedsT_len gg gl
  have z2 := deedsT_len gl gg
  have gb := deedsT_good gg gl
  have eb := led_deeds gg gl
  have ld2 := p_led (P := progL) gg gb (by omega) (n + 4) fl h
  rw [eb] at ld2
  simp only [] at ld2
  have tu2 := p_turned (P := progL) gg gb (by omega) eb (n + 3) fl h
  have ld3 := p_led (P := progL) gl (deedsT_good gl gg) (by omega) (n + 4) fl h
  rw [led_deeds gl gg] at ld3
  simp only [] at ld3
  refine exs_to (ρ1 := E (some (.lst (ds.map dD))) (some (.tup (goal.map tD))) (some (.lst ((deedsT goal l).map dD))) none none none none none none) (h1 := h) (by simp [E, ld2, tu2, ld3, eq_tup]) ?_
  have le := p_lean (P := progL) gl gd (by omega) eg (n + 2) fl h
  rw [← hsm] at le
  refine exs_to (ρ1 := E (some (.lst (ds.map dD))) (some (.tup (goal.map tD))) (some (.lst ((deedsT goal l).map dD))) (some (.lst (sm.map dD))) none none none none none) (h1 := h) (by simp [E, le]) ?_
  have ba := p_behind_all (P := progL) gl gsm (by omega) (n + 6) fl h
  rw [esm] at ba
  have ba' : callA (lev progL (n + 8)) true 119 [.tup (l.map tD), .lst (sm.map dD)] fl h = .ok (.d (.tup (goal.map tD))) h := ba
  have nlt : ¬ (ds.length : Int) < (sm.length : Int) := by omega
  refine exs_to (ρ1 := E (some (.lst (ds.map dD))) (some (.tup (goal.map tD))) (some (.lst ((deedsT goal l).map dD))) (some (.lst (sm.map dD))) none none none none none) (h1 := h) (by simp [E, ba', eq_tup, lsm]) ?_
  refine exs_to (ρ1 := E (some (.lst (ds.map dD))) (some (.tup (goal.map tD))) (some (.lst ((deedsT goal l).map dD))) (some (.lst (sm.map dD))) (some (.int ((0 : Nat) : Int))) none none none none) (h1 := h) (by simp [E]) ?_
  obtain ⟨ρ1, h1, ef, ⟨x7, e1⟩, e2⟩ := for_fold (t := .v 7) (body := fun ρ hh => exs (lev progL (n + 8)) fl [(.asg false (.v 6) (.bin .add (.var 6) (.blt .int [(.and (.cmp .lt (.var 6) (.blt .len [(.var 5)])) (.cmp .eq (.sub (.var 5) (.var 6)) (.var 7)))])))] ρ hh) dD (meet sm)
    (fun a ρ hh => (∃ x7, ρ = E (some (.lst (ds.map dD))) (some (.tup (goal.map tD))) (some (.lst ((deedsT goal l).map dD))) (some (.lst (sm.map dD))) (some (.int (a : Int))) x7 none none none) ∧ hh = h) ds 0 (E (some (.lst (ds.map dD))) (some (.tup (goal.map tD))) (some (.lst ((deedsT goal l).map dD))) (some (.lst (sm.map dD))) (some (.int ((0 : Nat) : Int))) none none none none) h ⟨⟨_, rfl⟩, rfl⟩ fun d x rr ρ hh q ⟨⟨y, e1⟩, e2⟩ => by
      subst e1 e2
      obtain ⟨a, ha⟩ : ∃ a, a = d.foldl (meet sm) 0 := ⟨_, rfl⟩
      have al : a ≤ sm.length := ha ▸ meet_le sm d 0 (Nat.zero_le _)
      rw [← ha]
      refine ⟨E (some (.lst (ds.map dD))) (some (.tup (goal.map tD))) (some (.lst ((deedsT goal l).map dD))) (some (.lst (sm.map dD))) (some (.int (a : Int))) (some (dD x)) none none none, by simp [E, bindT], E (some (.lst (ds.map dD))) (some (.tup (goal.map tD))) (some (.lst ((deedsT goal l).map dD))) (some (.lst (sm.map dD))) (some (.int ((meet sm a x : Nat) : Int))) (some (dD x)) none none none, hh, .inl ?_, ⟨_, rfl⟩, rfl⟩
      unfold meet
      by_cases lt : a < sm.length
      · have sb : subOp hh (.d (.lst (sm.map dD))) (.d (.int (a : Int))) = some (.d (dD sm[a])) := sub_at (l := sm.map dD) rfl (by omega) (by simp [lt])
        have eq1 := eq_dD (h := hh) sm[a] x
        by_cases c : sm[a] = x
        · rw [decide_eq_true c] at eq1
          rw [c] at eq1 sb
          simp [E, lt, sb, eq1, bInt, b2i, c, bltOp]
        · rw [decide_eq_false c] at eq1
          simp [E, lt, sb, eq1, bInt, b2i, c, bltOp]
      · simp [E, lt, bInt, b2i, bltOp]
  subst e1 e2
  rw [meet_all sm ds 0 (Nat.zero_le _) (by simpa using ssm)] at ef
  refine exs_to ((ex_for (l := ds.map dD) (h1 := h1) (by simp [E])).trans ef) ?_
  have le2 := p_lean (P := progL) gl gsm (by omega) esm (n + 2) fl h1
  have enl := eq_deedsNN (h := h1) (leanF l sm goal)
  have ens := eq_deedsN (h := h1) sm
  have egl := eq_tt (h := h1) goal l
  refine exs_to (ρ1 := E (some (.lst (ds.map dD))) (some (.tup (goal.map tD))) (some (.lst ((deedsT goal l).map dD))) (some (.lst (sm.map dD))) (some (.int (sm.length : Int))) x7 none none none) (h1 := h1) ?_ ?_
  · by_cases c : leanF l sm goal = []
    · have e := lean_led esm
      rw [c, led_nil gl.len] at e
      have e' : goal = l := (Option.some.inj e).symm
      rw [decide_eq_true e'] at egl
      rw [c] at le2
      simp only [List.map_nil] at le2
      have en0 : eqVl h1 (.nls []) (.nls []) = some true := by simp [eqVl, dataOf, nrN, eqD, eqL_nil, nrL]
      by_cases c2 : sm = []
      · rw [decide_eq_true c2] at ens
        simp [E, le2, en0, ens]
      · rw [decide_eq_false c2] at ens
        simp [E, le2, en0, ens, egl]
    · rw [decide_eq_false c] at enl
      simp [E, le2, enl]
  have oo := p_other' (P := progL) gl (seedF (cellF ns 2) 2) 6 (by decide) (by decide) (n + 5) fl h1
  rw [← ho] at oo
  refine exs_to (ρ1 := E (some (.lst (ds.map dD))) (some (.tup (goal.map tD))) (some (.lst ((deedsT goal l).map dD))) (some (.lst (sm.map dD))) (some (.int (sm.length : Int))) x7 (some (.tup (o.map tD))) none none) (h1 := h1) (by simp [E, c2, p_seed, oo]) ?_
  have dd := p_deedsT (P := progL) gl go (n + 4) fl h1
  refine exs_to (ρ1 := E (some (.lst (ds.map dD))) (some (.tup (goal.map tD))) (some (.lst ((deedsT goal l).map dD))) (some (.lst (sm.map dD))) (some (.int (sm.length : Int))) x7 (some (.tup (o.map tD))) (some (.lst ((deedsT l o).map dD))) none) (h1 := h1) (by simp [E, dd]) ?_
  have z3 := deedsT_len gl go
  have gth := deedsT_good gl go
  have eth := led_deeds gl go
  have tu3 := p_turned (P := progL) gl gth (by omega) eth (n + 3) fl h1
  have dd3 := p_deedsT (P := progL) go gl (n + 4) fl h1
  have eq3 : eqVl h1 (.nls ((deedsT o l).map dD)) (.nls ((deedsT o l).map dD)) = some true := eq_nls rfl (nr_deeds _ 62)
  have ent := eq_deedsN (h := h1) (deedsT l o)
  have elo := eq_tt (h := h1) l o
  have iff1 : decide (deedsT l o = []) = decide (l = o) := by
    by_cases c : l = o
    · rw [decide_eq_true c, decide_eq_true ((deedsT_nil gl go).mpr c)]
    · rw [decide_eq_false c, decide_eq_false (fun q => c ((deedsT_nil gl go).mp q))]
  rw [iff1] at ent
  refine exs_to (ρ1 := E (some (.lst (ds.map dD))) (some (.tup (goal.map tD))) (some (.lst ((deedsT goal l).map dD))) (some (.lst (sm.map dD))) (some (.int (sm.length : Int))) x7 (some (.tup (o.map tD))) (some (.lst ((deedsT l o).map dD))) none) (h1 := h1) (by simp [E, tu3, dd3, eq3, ent, elo]) ?_
  have st := p_steps (P := progL) gl gth (deeds_ok gl go) (by omega) (n + 3) fl h1
  obtain ⟨L1, hL1⟩ := rows_first (deedsT l o) l
  obtain ⟨L2, hL2⟩ := rows_last (deedsT l o) l o (deeds_lead gl.nd go.nd)
  have rl := rows_len (deedsT l o) l
  have sb0 : subOp h1 (.nls ((rowsF l (deedsT l o)).map tU)) (.d (.int 0)) = some (.d (.tup (l.map tD))) := by
    rw [hL1]
    simp [subOp, atIx, tU]
  have sb1 : subOp h1 (.nls ((rowsF l (deedsT l o)).map tU)) (.d (.int (-1))) = some (.d (.tup (o.map tD))) := by
    rw [hL2, List.map_append]
    have : ¬ (0 : Int) ≤ -1 := by decide
    have e : atIx (L2.length + 1) (-1) = some L2.length := by
      simp only [atIx, if_neg this]
      rw [if_pos (by omega)]
      congr 1
      omega
    simp only [subOp, seqOf, List.length_append, List.length_map, List.length_singleton, List.map_cons, List.map_nil, e]
    simp [tU]
  have bl : bLen h1 [.nls ((rowsF l (deedsT l o)).map tU)] = some (.d (.int (((deedsT l o).length : Int) + 1)), h1) := by
    rw [bLen_nls, List.length_map, rl]; rfl
  refine exs_to (ρ1 := E (some (.lst (ds.map dD))) (some (.tup (goal.map tD))) (some (.lst ((deedsT goal l).map dD))) (some (.lst (sm.map dD))) (some (.int (sm.length : Int))) x7 (some (.tup (o.map tD))) (some (.lst ((deedsT l o).map dD))) none) (h1 := h1) (by simp [E, st, sb0, sb1, bl, eq_tup, -bLen_nls]) ?_
  obtain ⟨ρ2, h2, ef2, ⟨y7, y10, e1⟩, e2⟩ := for_fold (t := .v 7) (body := fun ρ hh => exs (lev progL (n + 8)) fl [(.asg false (.v 10) (.call true 112 [(.var 1), (.var 7)])), (.ifs (.and (.cmp .notn (.var 10) (.cst .non)) (.and (.cmp .le (.blt .len [(.var 10)]) (.cst (.int 16))) (.cmp .ne (.call true 110 [(.var 1), (.lst [(.var 7)])]) (.ife (.cmp .eq (.var 10) (.var 1)) (.lst [(.cst (.int 0))]) (.lst []))))) [(.ret (.cst (.bl false)))] [])] ρ hh) dD (fun (u : Unit) _ => u)
    (fun _ ρ hh => (∃ y7 y10, ρ = E (some (.lst (ds.map dD))) (some (.tup (goal.map tD))) (some (.lst ((deedsT goal l).map dD))) (some (.lst (sm.map dD))) (some (.int (sm.length : Int))) y7 (some (.tup (o.map tD))) (some (.lst ((deedsT l o).map dD))) y10) ∧ hh = h1) ds () (E (some (.lst (ds.map dD))) (some (.tup (goal.map tD))) (some (.lst ((deedsT goal l).map dD))) (some (.lst (sm.map dD))) (some (.int (sm.length : Int))) x7 (some (.tup (o.map tD))) (some (.lst ((deedsT l o).map dD))) none) h1 ⟨⟨_, _, rfl⟩, rfl⟩ fun d x rr ρ hh q ⟨⟨y7, y10, e1⟩, e2⟩ => by
      subst e1 e2
      have gx : GoodD x := gd x (by rw [q]; simp)
      have pa := p_apply (P := progL) (row := l) (d := x) gl.nd (by have := gl.len; omega) (n + 7) fl hh
      refine ⟨E (some (.lst (ds.map dD))) (some (.tup (goal.map tD))) (some (.lst ((deedsT goal l).map dD))) (some (.lst (sm.map dD))) (some (.int (sm.length : Int))) (some (dD x)) (some (.tup (o.map tD))) (some (.lst ((deedsT l o).map dD))) y10, by simp [E, bindT], E (some (.lst (ds.map dD))) (some (.tup (goal.map tD))) (some (.lst ((deedsT goal l).map dD))) (some (.lst (sm.map dD))) (some (.int (sm.length : Int))) (some (dD x)) (some (.tup (o.map tD))) (some (.lst ((deedsT l o).map dD))) (some (oD (doneF l x))), hh, .inl ?_, ⟨_, _, rfl⟩, rfl⟩
      refine exs_to (ρ1 := E (some (.lst (ds.map dD))) (some (.tup (goal.map tD))) (some (.lst ((deedsT goal l).map dD))) (some (.lst (sm.map dD))) (some (.int (sm.length : Int))) (some (dD x)) (some (.tup (o.map tD))) (some (.lst ((deedsT l o).map dD))) (some (oD (doneF l x)))) (h1 := hh) (by simp [E, pa]) ?_
      cases qd : doneF l x with
      | none => simp [E, oD]
      | some new =>
        by_cases c : new.length ≤ 16
        · have c' : (new.length : Int) ≤ 16 := by omega
          have nd := p_needless (P := progL) (l := l) (ds := [x]) gl (fun z hz => by cases List.mem_singleton.mp hz; exact gx) (by simp) (led_one qd c) (n + 2) fl hh
          rw [need_one l new x gl.len] at nd
          simp only [List.map_cons, List.map_nil] at nd
          have et := eq_tt (h := hh) new l
          by_cases c2 : l = new
          · rw [if_pos c2] at nd
            rw [decide_eq_true c2.symm] at et
            have e0 : eqVl hh (.nls [.int 0]) (.nls [.int 0]) = some true := eq_nls rfl rfl
            have nd' : callA (lev progL (n + 8)) true 110 [.tup (l.map tD), .lst [dD x]] fl hh = .ok (.nls [.int 0]) hh := nd
            simp [E, oD, isNon, c', nd', et, e0]
          · rw [if_neg c2] at nd
            rw [decide_eq_false (fun q => c2 q.symm)] at et
            have e0 : eqVl hh (.nls []) (.nls []) = some true := eq_nls rfl rfl
            have nd' : callA (lev progL (n + 8)) true 110 [.tup (l.map tD), .lst [dD x]] fl hh = .ok (.nls []) hh := nd
            simp [E, oD, isNon, c', nd', et, e0]
        · have c' : ¬ (new.length : Int) ≤ 16 := by omega
          simp [E, oD, isNon, c']
  subst e1 e2
  refine exs_to ((ex_for (l := ds.map dD) (h1 := h2) (by simp [E])).trans ef2) ?_
  have ndn := p_needless (P := progL) (l := l) (ds := []) gl (fun _ hz => nomatch hz) (by simp) (led_nil gl.len) (n + 2) fl h2
  have tun := p_turned (P := progL) (l := l) (ds := []) gl (fun _ hz => nomatch hz) (by simp) (led_nil gl.len) (n + 3) fl h2
  rw [deedsT_self gl.nd] at tun
  have nn : needF l [] l = [] := rfl
  rw [nn] at ndn
  simp only [List.map_nil] at ndn tun
  have e0 : eqVl h2 (.nls []) (.nls []) = some true := eq_nls rfl rfl
  simp [E, ndn, tun, e0]
theorem law_true (ns : List Int) : ∃ h', lev progL 50 false 0 [.ctp (ns.map .int)] 0 [] = .ok (.d (.bl true)) h' := by
  obtain ⟨h', e⟩ := law_k23 ns 41 0 []
  exact ⟨h', by rw [lev_call (d := c_law) rfl]; exact e⟩
end Cd
end
namespace Cd
open PySem PySem.Spec PyProof.Rows
def top (i : Nat) : Stmt := PySem.Challenge.pw_threelists_k23_whole_turned_about.main.body.getD i (.Pass ⟨0, 0, 0, 0⟩)
def cst (i j : Nat) : Stmt := match top i with
  | .ClassDef (body := b) .. => b.getD j (.Pass ⟨0, 0, 0, 0⟩)
  | _ => .Pass ⟨0, 0, 0, 0⟩
def u_is_within : MPS.Fu := ⟨1, "is_within", "is_within", L2.defArgs (top 8), L2.defBody (top 8), L2.defScope (top 8), ["thing", "low", "high"], ["thing", "low", "high"], c_is_within⟩
def u_is_key : MPS.Fu := ⟨2, "is_key", "is_key", L2.defArgs (top 9), L2.defBody (top 9), L2.defScope (top 9), ["thing", "sign"], ["thing"], c_is_key⟩
def u_is_list : MPS.Fu := ⟨3, "is_list", "is_list", L2.defArgs (top 10), L2.defBody (top 10), L2.defScope (top 10), ["thing", "one", "key", "value"], ["thing"], c_is_list⟩
def u_look : MPS.Fu := ⟨4, "look", "look", L2.defArgs (top 11), L2.defBody (top 11), L2.defScope (top 11), ["thing"], ["thing"], c_look⟩
def u_keys_of : MPS.Fu := ⟨5, "keys_of", "keys_of", L2.defArgs (top 12), L2.defBody (top 12), L2.defScope (top 12), ["some", "key", "value"], ["some"], c_keys_of⟩
def u_stays_of : MPS.Fu := ⟨6, "stays_of", "stays_of", L2.defArgs (top 15), L2.defBody (top 15), L2.defScope (top 15), ["base", "other", "both", "places", "longest", "at", "behind", "found", "want", "last", "key"], ["base", "other"], c_stays_of⟩
def u_moved_of : MPS.Fu := ⟨8, "moved_of", "moved_of", L2.defArgs (top 16), L2.defBody (top 16), L2.defScope (top 16), ["base", "other", "some", "key"], ["base", "other"], c_moved_of⟩
def u_ahead_of : MPS.Fu := ⟨9, "ahead_of", "ahead_of", L2.defArgs (top 17), L2.defBody (top 17), L2.defScope (top 17), ["row", "at"], ["row", "at"], c_ahead_of⟩
def u_deeds_of : MPS.Fu := ⟨10, "deeds_of", "deeds_of", L2.defArgs (top 18), L2.defBody (top 18), L2.defScope (top 18), ["base", "other", "first", "row", "moved", "old", "found", "at", "key", "value"], ["base", "other"], c_deeds_of⟩
def u_deeds : MPS.Fu := ⟨11, "deeds", "deeds", L2.defArgs (top 19), L2.defBody (top 19), L2.defScope (top 19), ["base", "other"], ["base", "other"], c_deeds⟩
def u_is_deed_AT_changes : MPS.Fu := ⟨41, "is_deed", "is_deed", L2.defArgs (top 20), L2.defBody (top 20), L2.defScope (top 20), ["thing"], ["thing"], c_is_deed_AT_changes⟩
def u_put_behind : MPS.Fu := ⟨42, "put_behind", "put_behind", L2.defArgs (top 21), L2.defBody (top 21), L2.defScope (top 21), ["row", "thing", "behind", "keys"], ["row", "thing", "behind"], c_put_behind⟩
def u_done : MPS.Fu := ⟨43, "done", "done", L2.defArgs (top 22), L2.defBody (top 22), L2.defScope (top 22), ["row", "deed", "keys", "at", "thing"], ["row", "deed"], c_done⟩
def u_led : MPS.Fu := ⟨44, "led", "led", L2.defArgs (top 23), L2.defBody (top 23), L2.defScope (top 23), ["base", "some", "row", "deed", "found"], ["base", "some"], c_led⟩
def u_turned_about : MPS.Fu := ⟨107, "turned_about", "turned_about", L2.defArgs (top 25), L2.defBody (top 25), L2.defScope (top 25), ["base", "some"], ["base", "some"], c_turned_about⟩
def u_steps : MPS.Fu := ⟨108, "steps", "steps", L2.defArgs (top 26), L2.defBody (top 26), L2.defScope (top 26), ["base", "some", "found", "deed"], ["base", "some"], c_steps⟩
def u_leads : MPS.Fu := ⟨109, "leads", "leads", L2.defArgs (top 27), L2.defBody (top 27), L2.defScope (top 27), ["base", "some", "goal", "found"], ["base", "some", "goal"], c_leads⟩
def u_needless_deeds : MPS.Fu := ⟨110, "needless_deeds", "needless_deeds", L2.defArgs (top 28), L2.defBody (top 28), L2.defScope (top 28), ["base", "some", "goal", "at"], ["base", "some"], c_needless_deeds⟩
def u_lean : MPS.Fu := ⟨111, "lean", "lean", L2.defArgs (top 29), L2.defBody (top 29), L2.defScope (top 29), ["base", "some", "goal", "found", "at", "deed"], ["base", "some"], c_lean⟩
def u_law_cell : MPS.Fu := ⟨12, "_law_cell", "_law_cell", L2.defArgs (top 31), L2.defBody (top 31), L2.defScope (top 31), ["script", "k"], ["script", "k"], c_law_cell⟩
def u_law_seed : MPS.Fu := ⟨13, "_law_seed", "_law_seed", L2.defArgs (top 32), L2.defBody (top 32), L2.defScope (top 32), ["seed", "k"], ["seed", "k"], c_law_seed⟩
def u_law_pick : MPS.Fu := ⟨14, "_law_pick", "_law_pick", L2.defArgs (top 33), L2.defBody (top 33), L2.defScope (top 33), ["seed", "many"], ["seed", "many"], c_law_pick⟩
def u_law_key : MPS.Fu := ⟨15, "_law_key", "_law_key", L2.defArgs (top 34), L2.defBody (top 34), L2.defScope (top 34), ["seed", "letters", "few", "k"], ["seed"], c_law_key⟩
def u_law_list : MPS.Fu := ⟨16, "_law_list", "_law_list", L2.defArgs (top 35), L2.defBody (top 35), L2.defScope (top 35), ["seed", "most", "found", "k", "one", "key", "other"], ["seed", "most"], c_law_list⟩
def u_law_other : MPS.Fu := ⟨17, "_law_other", "_law_other", L2.defArgs (top 36), L2.defBody (top 36), L2.defScope (top 36), ["some", "seed", "many", "row", "k", "one", "pick", "at", "thing", "key"], ["some", "seed", "many"], c_law_other⟩
def u_law_apply : MPS.Fu := ⟨112, "_law_apply", "_law_apply", L2.defArgs (top 37), L2.defBody (top 37), L2.defScope (top 37), ["row", "deed", "keys", "rest", "thing", "left", "at", "key", "value"], ["row", "deed"], c_law_apply⟩
def u_law_behind_all : MPS.Fu := ⟨119, "_law_behind_all", "_law_behind_all", L2.defArgs (top 38), L2.defBody (top 38), L2.defScope (top 38), ["base", "some", "row", "deed"], ["base", "some"], c_law_behind_all⟩
def u_law_some_deeds : MPS.Fu := ⟨113, "_law_some_deeds", "_law_some_deeds", L2.defArgs (top 39), L2.defBody (top 39), L2.defScope (top 39), ["base", "seed", "row", "found", "k", "one", "keys", "key", "behind", "value", "ways", "deed", "new"], ["base", "seed"], c_law_some_deeds⟩
def u_law : MPS.Fu := ⟨0, "law", "law", L2.defArgs (top 40), L2.defBody (top 40), L2.defScope (top 40), ["script", "base", "some", "goal", "back", "small", "at", "deed", "other", "there", "new"], ["script"], c_law⟩
def us : List MPS.Fu := u_is_within :: u_is_key :: u_is_list :: u_look :: u_keys_of :: u_stays_of :: u_moved_of :: u_ahead_of :: u_deeds_of :: u_deeds :: u_is_deed_AT_changes :: u_put_behind :: u_done :: u_led :: u_turned_about :: u_steps :: u_leads :: u_needless_deeds :: u_lean :: u_law_cell :: u_law_seed :: u_law_pick :: u_law_key :: u_law_list :: u_law_other :: u_law_apply :: u_law_behind_all :: u_law_some_deeds :: u_law :: []
def M : MPS.Mx := ⟨([(1, "is_within", 3), (2, "is_key", 1), (3, "is_list", 1), (4, "look", 1), (5, "keys_of", 1), (6, "stays_of", 2), (8, "moved_of", 2), (9, "ahead_of", 2), (10, "deeds_of", 2), (11, "deeds", 2), (41, "is_deed", 1), (42, "put_behind", 3), (43, "done", 2), (44, "led", 2), (107, "turned_about", 2), (108, "steps", 2), (109, "leads", 3), (110, "needless_deeds", 2), (111, "lean", 2), (12, "_law_cell", 2)] : List (Nat × PySem.Str × Nat)) ++ ([(13, "_law_seed", 2), (14, "_law_pick", 2), (15, "_law_key", 1), (16, "_law_list", 2), (17, "_law_other", 3), (112, "_law_apply", 2), (119, "_law_behind_all", 2), (113, "_law_some_deeds", 2), (0, "law", 1)] : List (Nat × PySem.Str × Nat)), ([("SMALL", (.str [97, 98, 99, 100, 101, 102, 103, 104, 105, 106, 107, 108, 109, 110, 111, 112, 113, 114, 115, 116, 117, 118, 119, 120, 121, 122])), ("MOST_THINGS", (.int 16)), ("MOST_VALUE", (.int 999))] : List (PySem.Str × MP.D)), (["bool", "dict", "enumerate", "int", "isinstance", "len", "list", "max", "range", "set", "str", "tuple"] : List PySem.Str), ([(0, "ThreeError"), (1, "BadList"), (2, "BadDeeds")] : List (Nat × PySem.Str)), [("SIZES", [([115, 116, 114, 105, 107, 101], 2), ([112, 117, 116], 4), ([109, 111, 118, 101], 3), ([99, 104, 97, 110, 103, 101], 3)])]⟩
theorem tabs : MPS.tabB progL M us = true := by decide +kernel
theorem progs : ∀ u ∈ us, progL u.id = some u.code := by
  intro u hu
  simp only [us, List.mem_cons, List.not_mem_nil, or_false] at hu
  rcases hu with rfl | rfl | rfl | rfl | rfl | rfl | rfl | rfl | rfl | rfl | rfl | rfl | rfl | rfl | rfl | rfl | rfl | rfl | rfl | rfl | rfl | rfl | rfl | rfl | rfl | rfl | rfl | rfl | rfl
  all_goals rfl
theorem binds {K : PySem.W.Frag} : ∀ u ∈ us, ∀ (kws : List (Str × L2.V)) (f : Addr) (fd : FuncData), L2.FunD K u.name u.qual u.params u.body u.scope [] kws f fd → L2.Binds K fd u.ps [] := by
  intro u hu kws f fd F
  simp only [us, List.mem_cons, List.not_mem_nil, or_false] at hu
  rcases hu with rfl | rfl | rfl | rfl | rfl | rfl | rfl | rfl | rfl | rfl | rfl | rfl | rfl | rfl | rfl | rfl | rfl | rfl | rfl | rfl | rfl | rfl | rfl | rfl | rfl | rfl | rfl | rfl | rfl
  · exact F.bindsN fun _ _ _ _ _ _ us hl => match us, hl with | [_, _, _], _ => by kernel_rfl
  · exact F.bindsN fun _ _ _ _ _ _ us hl => match us, hl with | [_], _ => by kernel_rfl
  · exact F.bindsN fun _ _ _ _ _ _ us hl => match us, hl with | [_], _ => by kernel_rfl
  · exact F.bindsN fun _ _ _ _ _ _ us hl => match us, hl with | [_], _ => by kernel_rfl
  · exact F.bindsN fun _ _ _ _ _ _ us hl => match us, hl with | [_], _ => by kernel_rfl
  · exact F.bindsN fun _ _ _ _ _ _ us hl => match us, hl with | [_, _], _ => by kernel_rfl
  · exact F.bindsN fun _ _ _ _ _ _ us hl => match us, hl with | [_, _], _ => by kernel_rfl
  · exact F.bindsN fun _ _ _ _ _ _ us hl => match us, hl with | [_, _], _ => by kernel_rfl
  · exact F.bindsN fun _ _ _ _ _ _ us hl => match us, hl with | [_, _], _ => by kernel_rfl
  · exact F.bindsN fun _ _ _ _ _ _ us hl => match us, hl with | [_, _], _ => by kernel_rfl
  · exact F.bindsN fun _ _ _ _ _ _ us hl => match us, hl with | [_], _ => by kernel_rfl
  · exact F.bindsN fun _ _ _ _ _ _ us hl => match us, hl with | [_, _, _], _ => by kernel_rfl
  · exact F.bindsN fun _ _ _ _ _ _ us hl => match us, hl with | [_, _], _ => by kernel_rfl
  · exact F.bindsN fun _ _ _ _ _ _ us hl => match us, hl with | [_, _], _ => by kernel_rfl
  · exact F.bindsN fun _ _ _ _ _ _ us hl => match us, hl with | [_, _], _ => by kernel_rfl
  · exact F.bindsN fun _ _ _ _ _ _ us hl => match us, hl with | [_, _], _ => by kernel_rfl
  · exact F.bindsN fun _ _ _ _ _ _ us hl => match us, hl with | [_, _, _], _ => by kernel_rfl
  · exact F.bindsN fun _ _ _ _ _ _ us hl => match us, hl with | [_, _], _ => by kernel_rfl
  · exact F.bindsN fun _ _ _ _ _ _ us hl => match us, hl with | [_, _], _ => by kernel_rfl
  · exact F.bindsN fun _ _ _ _ _ _ us hl => match us, hl with | [_, _], _ => by kernel_rfl
  · exact F.bindsN fun _ _ _ _ _ _ us hl => match us, hl with | [_, _], _ => by kernel_rfl
  · exact F.bindsN fun _ _ _ _ _ _ us hl => match us, hl with | [_, _], _ => by kernel_rfl
  · exact F.bindsN fun _ _ _ _ _ _ us hl => match us, hl with | [_], _ => by kernel_rfl
  · exact F.bindsN fun _ _ _ _ _ _ us hl => match us, hl with | [_, _], _ => by kernel_rfl
  · exact F.bindsN fun _ _ _ _ _ _ us hl => match us, hl with | [_, _, _], _ => by kernel_rfl
  · exact F.bindsN fun _ _ _ _ _ _ us hl => match us, hl with | [_, _], _ => by kernel_rfl
  · exact F.bindsN fun _ _ _ _ _ _ us hl => match us, hl with | [_, _], _ => by kernel_rfl
  · exact F.bindsN fun _ _ _ _ _ _ us hl => match us, hl with | [_, _], _ => by kernel_rfl
  · exact F.bindsN fun _ _ _ _ _ _ us hl => match us, hl with | [_], _ => by kernel_rfl
abbrev R : PySem.W.OpenRow := PySem.W.OpenLaw.row PySem.Challenge.rw_threelists_k23_whole_turned_about
abbrev hk : PySem.W.Hook := He.hookX 5 (MPS.faOf M us) (us.map MPS.Fu.dd) (MPS.tsOf M) [] (MPS.exOf M)
def ob (s : PySem.W.SharedT) : He.AlX := He.obsX 5 (MPS.faOf M us) (us.map MPS.Fu.dd) (MPS.tsOf M) [] (MPS.exOf M) (HandSHeadRun.getT s)
theorem ob_eq (s : PySem.W.SharedT) : ob s = hk.obs s.abs := He.obsX_eq (HandSHeadRun.getT_eq s)
def loose : List Str := (["ThreeError", "BadList", "BadDeeds", "SMALL", "MOST_THINGS", "MOST_VALUE", "is_within", "is_key", "is_list", "look", "keys_of", "SIZES", "stays_of", "moved_of", "ahead_of", "deeds_of", "deeds", "is_deed", "put_behind", "done"] : List Str) ++ (["led", "turned_about", "steps", "leads", "needless_deeds", "lean", "_law_cell", "_law_seed", "_law_pick", "_law_key", "_law_list", "_law_other", "_law_apply", "_law_behind_all", "_law_some_deeds"] : List Str)
theorem run (w : World) : HandSHeadRun.RunEq R (PySem.W.view R.prog [40]) hk ob 40000 loose w := by
  refine PySem.W.byRow2 "special-get-raises" (P := fun w => HandSHeadRun.RunEq R (PySem.W.view R.prog [40]) hk ob 40000 loose w) ?_ ?_ w
  · intro w os
    kernel_rfl
  · intro w os
    kernel_rfl
end Cd
open PySem PySem.W PySem.Calls PyProof.Rows
theorem PySem.Challenge.cw_threelists_k23_whole_turned_about_holds : PySem.Challenge.rw_threelists_k23_whole_turned_about.Holds := by
  w_on; o_law
  refine HandSHeadRun.head_any (r := OpenLaw.row PySem.Challenge.rw_threelists_k23_whole_turned_about) (q := view (OpenLaw.row PySem.Challenge.rw_threelists_k23_whole_turned_about).prog [40]) (H := Cd.hk) (ob := Cd.ob) (M := 40000) (loose := Cd.loose)
    (d := HandSHeadRun.topDef (OpenLaw.row PySem.Challenge.rw_threelists_k23_whole_turned_about).prog 40) (kwd := []) Cd.ob_eq (by kernel_rfl) (fun s => by kernel_rfl) Cd.run (by kernel_rfl) (by kernel_rfl) (by kernel_rfl) (by rfl) (by first | assumption | decide +kernel) (by decide +kernel) ⟨rfl, rfl, rfl, rfl, rfl, by decide +kernel⟩ ?hw ?hc
  case hw => w_witness2
  case hc =>
    refine MPS.end_mp (k := 50) (Pf := Cd.progL) (M := Cd.M) (us := Cd.us) (ul := Cd.u_law) rfl (by kernel_rfl) ⟨rfl, by decide, by decide⟩ (fun w h Y => Y) (by simp [Cd.us]) (by kernel_rfl) rfl Cd.tabs Cd.progs (fun u hu => Cd.binds u hu) (fun kws f fd F s u => ?_) fun ns hz => Cd.law_true ns
    exact L2.FunD.bindsA (ps := ["script"]) F (fun _ _ _ _ _ _ us hl => match us, hl with | [_], _ => by kernel_rfl) s [u] rfl
