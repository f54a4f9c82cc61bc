import PyProof.Rows.All
import Wide.All
import OpenK.AllK
import Wide.FinOn
import HandS.ForMost
import HandS.Wide
import HandS.Flow
import PyProof.ReprText
import PyProof.P3Statements
import HandS.Text
import HandS.TupMul
import HandS.TupAny
import HandS.Star
import HandS.SortInts
import HandS.RaiseMore
import HandS.More
import HandS.Zip
import HandS.Style
import HandS.Defaults
import HandS.Ends
import HandS.Head0
import HandS.Head1
import HandS.Head2
import HandS.HeadEnd
import HandS.HeadHook1
import HandS.HeadHook2
import PyProof.ReprLen
import PySem.Challenge.RW_asmuchas_k13_rows_reckoned
set_option Elab.async false
set_option linter.all false
set_option maxRecDepth 100000
set_option maxHeartbeats 4000000
section
namespace A46
open PySem (Str PyData)

inductive Val where
  | non | bl (b : Bool) | int (i : Int) | str (x : Str) | tup (xs : List Val) | scr (xs : List Val) | ref (i : Nat) | ty (n : String) | glo (x : Str)
  deriving Inhabited

abbrev KeyV := Sum Int Str
inductive Ob where
  | lst (xs : List Val)
  | dct (kvs : List (KeyV × Val))
  deriving Inhabited

abbrev Sto := List Ob
inductive Rs (α : Type) where
  | ok (a : α) (S : Sto)
  | no
def Rs.bind {α β : Type} (m : Rs α) (f : α → Sto → Rs β) : Rs β := match m with
  | .ok a S => f a S
  | .no => .no
@[simp] theorem Rs.bind_ok {α β : Type} (a : α) (S : Sto) (f : α → Sto → Rs β) : (Rs.ok a S).bind f = f a S := rfl
@[simp] theorem Rs.bind_no {α β : Type} (f : α → Sto → Rs β) : (Rs.no : Rs α).bind f = .no := rfl
def Rs.of {α : Type} (o : Option α) (S : Sto) : Rs α := match o with
  | some a => .ok a S
  | none => .no
@[simp] theorem Rs.of_some {α : Type} (a : α) (S : Sto) : Rs.of (some a) S = .ok a S := rfl
@[simp] theorem Rs.of_none {α : Type} (S : Sto) : Rs.of (none : Option α) S = .no := rfl
def alloc (o : Ob) (S : Sto) : Rs Val := .ok (.ref S.length) (S ++ [o])

def optAll {α β : Type} (f : α → Option β) : List α → Option (List β)
  | [] => some []
  | x :: xs => match f x with
    | none => none
    | some y => match optAll f xs with
      | none => none
      | some ys => some (y :: ys)

/-- the tree that a value is, to a depth -/
def toD : Nat → Sto → Val → Option PyData
  | 0, _, _ => none
  | n + 1, S, v => match v with
    | .non => some .none
    | .bl b => some (.bool b)
    | .int i => some (.int i)
    | .str x => some (.str x)
    | .tup xs => (optAll (toD n S) xs).map .tuple
    | .scr xs => (optAll (toD n S) xs).map .list
    | .ref i => match S[i]? with
      | some (.lst xs) => (optAll (toD n S) xs).map .list
      | _ => none
    | .ty _ => none
    | .glo _ => none
abbrev deepN : Nat := 40

def lim : Nat := 16777216
/-- may be laid and compared -/
def dataOk (d : PyData) : Bool := d.canLay0 && decide (d.depth ≤ 64)
def showOk (d : PyData) : Bool := d.canLay0 && d.showable && decide (d.depth ≤ 64) && decide (d.shown.length ≤ lim)

def seqOf (S : Sto) (v : Val) : Option (List Val) := match v with
  | .tup xs => some xs
  | .scr xs => some xs
  | .ref i => match S[i]? with
    | some (.lst xs) => some xs
    | _ => none
  | _ => none

/-- a list -/
def lstOf (S : Sto) (v : Val) : Option (List Val) := match v with
  | .scr xs => some xs
  | .ref i => match S[i]? with
    | some (.lst xs) => some xs
    | _ => none
  | _ => none

def truth (S : Sto) (v : Val) : Option Bool := match v with
  | .non => some false
  | .bl b => some b
  | .int i => some (i != 0)
  | .str x => if x.length ≤ lim then some (x.length != 0) else none
  | .tup xs => some (!xs.isEmpty)
  | .scr xs => some (!xs.isEmpty)
  | .ref i => match S[i]? with
    | some (.lst xs) => some (!xs.isEmpty)
    | some (.dct kvs) => some (!kvs.isEmpty)
    | _ => none
  | _ => none

inductive Bo where
  | add | sub | mul | fdiv | mod | pow
  deriving DecidableEq
inductive Co where
  | eq | ne | lt | le | gt | ge | isN | notN | mem | nmem
  deriving DecidableEq

def mulOk (i j : Int) : Bool := decide ((-(2 ^ 64) < i ∧ i < 2 ^ 64) ∨ (-(2 ^ 64) < j ∧ j < 2 ^ 64)) || decide (i.natAbs.log2 + j.natAbs.log2 < 1000000)
def divOk (j : Int) : Bool := decide (j ≠ 0) && decide (j.natAbs.log2 < 9000)

def repV (xs : List Val) : Nat → List Val
  | 0 => []
  | n + 1 => xs ++ repV xs n

def binop (o : Bo) (x y : Val) (S : Sto) : Rs Val := match o, x, y with
  | .add, .int i, .int j => .ok (.int (i + j)) S
  | .add, .str a, .str b => if a.length + b.length ≤ lim then .ok (.str (a ++ b)) S else .no
  | .add, .tup xs, .tup ys => if xs.length + ys.length ≤ lim then .ok (.tup (xs ++ ys)) S else .no
  | .add, .ref i, .ref j => match S[i]?, S[j]? with
    | some (.lst xs), some (.lst ys) => if xs.length + ys.length ≤ lim then alloc (.lst (xs ++ ys)) S else .no
    | _, _ => .no
  | .sub, .int i, .int j => .ok (.int (i - j)) S
  | .mul, .int i, .int j => if mulOk i j then .ok (.int (i * j)) S else .no
  | .mul, .ref i, .int k => match S[i]? with
    | some (.lst xs) => if decide (-(2 ^ 63) ≤ k) && decide (k < 2 ^ 63) && decide (xs.length * k.toNat ≤ lim) then alloc (.lst (repV xs k.toNat)) S else .no
    | _ => .no
  | .mul, .tup xs, .int k => if !xs.isEmpty && decide (-1000 ≤ k) && decide (k ≤ 1000) && decide (xs.length ≤ 1000) then .ok (.tup (repV xs k.toNat)) S else .no
  | .fdiv, .int i, .int j => if divOk j then .ok (.int (i.fdiv j)) S else .no
  | .mod, .int i, .int j => if decide (j ≠ 0) then .ok (.int (i.fmod j)) S else .no
  | .pow, .int i, .int j => if decide (0 ≤ j) && decide (j ≤ 1000000) && decide (i.natAbs < 2 ^ 64) then .ok (.int (i ^ j.toNat)) S else .no
  | _, _, _ => .no

def flat : Val → Bool
  | .non => true
  | .bl _ => true
  | .int _ => true
  | .str _ => true
  | _ => false
def eqF : Val → Val → Bool
  | .non, .non => true
  | .bl a, .bl b => a == b
  | .bl a, .int b => (if a then 1 else 0) == b
  | .int a, .bl b => a == (if b then 1 else 0)
  | .int a, .int b => a == b
  | .str a, .str b => a == b
  | _, _ => false
def memF (x : Val) (xs : List Val) : Bool := xs.any fun y => eqF y x

def strLt (a b : Str) : Bool := decide (a.cps.toList < b.cps.toList)
def strLe (a b : Str) : Bool := decide (a.cps.toList ≤ b.cps.toList)

def eqTree (S : Sto) (x y : Val) : Option Bool := match toD deepN S x, toD deepN S y with
  | some d, some e => if dataOk d && dataOk e then some (PyData.eqv d e) else none
  | _, _ => none
def eqDeep (S : Sto) (x y : Val) : Option Bool := match x, y with
  | .str a, .str b => some (a == b)
  | x, y => eqTree S x y
def inTxt (a b : Str) : Bool := !(PySem.Builtin.Str.occurrences b a 0 b.length 1).isEmpty

def cmpop (o : Co) (x y : Val) (S : Sto) : Rs Val := match o with
  | .eq => Rs.of ((eqDeep S x y).map .bl) S
  | .ne => Rs.of ((eqDeep S x y).map fun b => .bl (!b)) S
  | .lt => match x, y with
    | .int i, .int j => .ok (.bl (decide (i < j))) S
    | .str a, .str b => .ok (.bl (strLt a b)) S
    | _, _ => .no
  | .le => match x, y with
    | .int i, .int j => .ok (.bl (decide (i ≤ j))) S
    | .str a, .str b => .ok (.bl (strLe a b)) S
    | _, _ => .no
  | .gt => match x, y with
    | .int i, .int j => .ok (.bl (decide (j < i))) S
    | _, _ => .no
  | .ge => match x, y with
    | .int i, .int j => .ok (.bl (decide (j ≤ i))) S
    | _, _ => .no
  | .isN => match x with
    | .non => .ok (.bl true) S
    | _ => .ok (.bl false) S
  | .notN => match x with
    | .non => .ok (.bl false) S
    | _ => .ok (.bl true) S
  | .mem => match x, y with
    | .str a, .str b => .ok (.bl (inTxt a b)) S
    | x, y => match seqOf S y with
      | some ys => if flat x && ys.all flat then .ok (.bl (memF x ys)) S else .no
      | none => .no
  | .nmem => match x, y with
    | .str a, .str b => .ok (.bl (!inTxt a b)) S
    | x, y => match seqOf S y with
      | some ys => if flat x && ys.all flat then .ok (.bl (!memF x ys)) S else .no
      | none => .no

/-- the place that an index of either sign means -/
def place (n : Nat) (i : Int) : Option Nat := if 0 ≤ i then (if i < n then some i.toNat else none) else if -(n : Int) ≤ i then some (i + n).toNat else none
def pick {α : Type} (xs : List α) (i : Int) : Option α := match place xs.length i with
  | some j => xs[j]?
  | none => none
def keyOf : Val → Option KeyV
  | .int i => some (.inl i)
  | .str x => some (.inr x)
  | _ => none
def keyVal : KeyV → Val
  | .inl i => .int i
  | .inr x => .str x
def look (k : KeyV) : List (KeyV × Val) → Option Val
  | [] => none
  | (c, v) :: r => if c = k then some v else look k r
def putD (k : KeyV) (v : Val) (kvs : List (KeyV × Val)) : List (KeyV × Val) :=
  if (kvs.any fun q => decide (q.1 = k)) = true then kvs.map (fun q => if q.1 = k then (q.1, v) else q) else kvs ++ [(k, v)]
def index (x y : Val) (S : Sto) : Rs Val := match x, y with
  | .tup xs, .int i => Rs.of (pick xs i) S
  | .scr xs, .int i => Rs.of (pick xs i) S
  | .str z, .int i => if z.length ≤ lim then Rs.of ((pick z.cps.toList i).map fun c => .str ⟨#[c]⟩) S else .no
  | .ref l, y => match S[l]?, y with
    | some (.lst xs), .int i => Rs.of (pick xs i) S
    | some (.dct kvs), y => match keyOf y with
      | some k => Rs.of (look k kvs) S
      | none => .no
    | _, _ => .no
  | _, _ => .no
def bound (n d : Nat) : Option Int → Nat
  | none => d
  | some v => if v < 0 then (v + (n : Int)).toNat else min v.toNat n
def cut {α : Type} (xs : List α) (lo hi : Option Int) : List α := (xs.drop (bound xs.length 0 lo)).take (bound xs.length xs.length hi - bound xs.length 0 lo)
def slice (x : Val) (lo hi : Option Int) (S : Sto) : Rs Val := match x with
  | .tup xs => .ok (.tup (cut xs lo hi)) S
  | .str z => if z.length ≤ lim then .ok (.str ⟨(cut z.cps.toList lo hi).toArray⟩) S else .no
  | .scr xs => alloc (.lst (cut xs lo hi)) S
  | .ref l => match S[l]? with
    | some (.lst xs) => alloc (.lst (cut xs lo hi)) S
    | _ => .no
  | _ => .no
def setItem (o i v : Val) (S : Sto) : Option Sto := match o with
  | .ref l => match S[l]?, i with
    | some (.lst xs), .int k => (place xs.length k).map fun j => S.set l (.lst (xs.set j v))
    | some (.dct kvs), k => match keyOf k with
      | some q => if kvs.length < lim then some (S.set l (.dct (putD q v kvs))) else none
      | none => none
    | _, _ => none
  | _ => none

inductive Bi where
  | abs | len | int | tuple | list | sum | sorted | repr | dict | all | any | max | min
  deriving DecidableEq
inductive Me where
  | append | clear | count | split | insert | extend | index
  deriving DecidableEq

def intsOf : List Val → Option (List Int)
  | [] => some []
  | .int i :: r => (intsOf r).map (i :: ·)
  | _ :: _ => none
def textsOf : List Val → Option (List Str)
  | [] => some []
  | .str i :: r => (textsOf r).map (i :: ·)
  | _ :: _ => none
def boolsOf : List Val → Option (List Bool)
  | [] => some []
  | .bl i :: r => (boolsOf r).map (i :: ·)
  | _ :: _ => none
def insI (x : Int) : List Int → List Int
  | [] => [x]
  | y :: r => if x ≤ y then x :: y :: r else y :: insI x r
def sortI : List Int → List Int
  | [] => []
  | x :: r => insI x (sortI r)
def insS (x : Str) : List Str → List Str
  | [] => [x]
  | y :: r => if strLe x y then x :: y :: r else y :: insS x r
def sortS : List Str → List Str
  | [] => []
  | x :: r => insS x (sortS r)
def pairOf : Val → Option (KeyV × Val)
  | .tup [k, v] => (keyOf k).map fun q => (q, v)
  | _ => none
def sortV (xs : List Val) : Option (List Val) := match intsOf xs with
  | some ns => some ((sortI ns).map .int)
  | none => match textsOf xs with
    | some ss => if ss.length < 64 then some ((sortS ss).map .str) else none
    | none => none
def maxI : Int → List Int → Int
  | m, [] => m
  | m, x :: r => maxI (if m < x then x else m) r
def minI : Int → List Int → Int
  | m, [] => m
  | m, x :: r => minI (if x < m then x else m) r

def bi (b : Bi) (vs : List Val) (S : Sto) : Rs Val := match b, vs with
  | .abs, [.int i] => .ok (.int i.natAbs) S
  | .len, [.str z] => if z.length ≤ lim then .ok (.int z.length) S else .no
  | .len, [.tup xs] => .ok (.int xs.length) S
  | .len, [.scr xs] => .ok (.int xs.length) S
  | .len, [.ref i] => match S[i]? with
    | some (.lst xs) => .ok (.int xs.length) S
    | some (.dct kvs) => .ok (.int kvs.length) S
    | none => .no
  | .int, [.int i] => .ok (.int i) S
  | .int, [.bl b] => .ok (.int (if b then 1 else 0)) S
  | .tuple, [.tup xs] => .ok (.tup xs) S
  | .tuple, [v] => match seqOf S v with
    | some xs => .ok (.tup xs) S
    | none => .no
  | .list, [v] => match seqOf S v with
    | some xs => alloc (.lst xs) S
    | none => .no
  | .sum, [v] => match seqOf S v with
    | some xs => match intsOf xs with
      | some ns => .ok (.int ns.sum) S
      | none => .no
    | none => .no
  | .sorted, [v] => match lstOf S v with
    | some xs => match sortV xs with
      | some ys => alloc (.lst ys) S
      | none => .no
    | none => .no
  | .repr, [v] => match toD deepN S v with
    | some d => if showOk d then .ok (.str d.shown) S else .no
    | none => .no
  | .dict, [v] => match lstOf S v with
    | some xs => match optAll pairOf xs with
      | some kvs => alloc (.dct (kvs.foldl (fun acc q => putD q.1 q.2 acc) [])) S
      | none => .no
    | none => .no
  | .all, [v] => match lstOf S v with
    | some xs => match boolsOf xs with
      | some bs => .ok (.bl (bs.all id)) S
      | none => .no
    | none => .no
  | .any, [v] => match lstOf S v with
    | some xs => match boolsOf xs with
      | some bs => .ok (.bl (bs.any id)) S
      | none => .no
    | none => .no
  | .max, [v] => match lstOf S v with
    | some xs => match intsOf xs with
      | some (n :: ns) => .ok (.int (maxI n ns)) S
      | _ => .no
    | none => .no
  | .min, [v] => match lstOf S v with
    | some xs => match intsOf xs with
      | some (n :: ns) => .ok (.int (minI n ns)) S
      | _ => .no
    | none => .no
  | _, _ => .no


def meth (m : Me) (o : Val) (vs : List Val) (S : Sto) : Rs Val := match m, o, vs with
  | .append, .ref l, [v] => match S[l]? with
    | some (.lst xs) => if xs.length < lim then .ok .non (S.set l (.lst (xs ++ [v]))) else .no
    | _ => .no
  | .clear, .ref l, [] => match S[l]? with
    | some (.lst _) => .ok .non (S.set l (.lst []))
    | _ => .no
  | .extend, .ref l, [.ref k] => match S[l]?, S[k]? with
    | some (.lst xs), some (.lst ys) => if xs.length + ys.length ≤ lim then .ok .non (S.set l (.lst (xs ++ ys))) else .no
    | _, _ => .no
  | .insert, .ref l, [.int i, v] => match S[l]? with
    | some (.lst xs) => if decide (xs.length < lim) && decide (0 ≤ i) && decide (i < 2 ^ 63) then .ok .non (S.set l (.lst (xs.take i.toNat ++ [v] ++ xs.drop i.toNat))) else .no
    | _ => .no
  | .index, .ref l, [v] => match S[l]? with
    | some (.lst xs) => if flat v && xs.all flat then
        (match xs.findIdx? fun y => eqF y v with
          | some j => .ok (.int j) S
          | none => .no) else .no
    | _ => .no
  | .count, .tup xs, [v] => if flat v && xs.all flat then .ok (.int (xs.filter fun y => eqF y v).length) S else .no
  | .split, .str a, [.str b] => if !(b.length == 0) && decide (a.length + 2 ≤ lim) then alloc (.lst ((PySem.Txt.split a b).map .str)) S else .no
  | _, _, _ => .no

/-- the receiver is of the method's type -/
def recv (m : Me) (v : Val) (S : Sto) : Bool := match m, v with
  | .count, .tup _ => true
  | .split, .str _ => true
  | .count, _ => false
  | .split, _ => false
  | _, .ref l => match S[l]? with
    | some (.lst _) => true
    | _ => false
  | _, _ => false

inductive Src where
  | lst (i : Nat) | tup (xs : List Val) | scr (xs : List Val) | rng (lo : Int) (n : Nat) | str (z : Str) | zip (a b : Src) | enum (a : Src)
def Src.get (S : Sto) : Src → Nat → Option (Option Val)
  | .lst i, k => match S[i]? with
    | some (.lst xs) => some xs[k]?
    | _ => none
  | .tup xs, k => some xs[k]?
  | .scr xs, k => some xs[k]?
  | .rng lo n, k => some (if k < n then some (.int (lo + k)) else none)
  | .str z, k => some (z.cps.toList[k]?.map fun c => .str ⟨#[c]⟩)
  | .zip a b, k => match Src.get S a k, Src.get S b k with
    | some (some x), some (some y) => some (some (.tup [x, y]))
    | some none, some _ => some none
    | some (some _), some none => some none
    | _, _ => none
  | .enum a, k => match Src.get S a k with
    | some (some x) => some (some (.tup [.int k, x]))
    | some none => some none
    | none => none
def Src.size (S : Sto) : Src → Nat
  | .lst i => match S[i]? with
    | some (.lst xs) => xs.length
    | _ => 0
  | .tup xs => xs.length
  | .scr xs => xs.length
  | .rng _ n => n
  | .str z => z.length
  | .zip a b => min (Src.size S a) (Src.size S b)
  | .enum a => Src.size S a

abbrev Ev := List (Option Val)
inductive Tg where
  | nm (i : Nat)
  | tp (ts : List Nat)
def bindAll : List Nat → List Val → Ev → Option Ev
  | [], [], r => some r
  | i :: is, v :: vs, r => bindAll is vs (r.set i (some v))
  | _, _, _ => none
def Tg.bind (t : Tg) (v : Val) (r : Ev) : Option Ev := match t with
  | .nm i => some (r.set i (some v))
  | .tp ts => match v with
    | .tup xs => bindAll ts xs r
    | _ => none
def wipeE (r : Ev) : List Nat → Ev
  | [] => r
  | v :: vs => (wipeE r vs).set v none

mutual
inductive Ex where
  | var (i : Nat)
  | con (v : Val)
  | glo (x : Str)
  | bin (o : Bo) (a b : Ex)
  | neg (a : Ex)
  | nt (a : Ex)
  | and (a b : Ex)
  | or (a b : Ex)
  | cmp (o : Co) (a b : Ex)
  | isn (neg : Bool) (a : Ex)
  | chain (o p : Co) (a b c : Ex)
  | ite (c a b : Ex)
  | tup (es : Exs)
  | lst (es : Exs)
  | idx (a i : Ex)
  | sl (a : Ex) (lo hi : Exo)
  | call (f : Str) (es : Exs)
  | bi (b : Bi) (es : Exs)
  | me (m : Me) (o : Ex) (es : Exs)
  | lc (it : Itr) (t : Tg) (c : Exo) (e : Ex) (vs : List Nat)
inductive Exs where
  | nil
  | cons (e : Ex) (es : Exs)
  | star (e : Ex) (es : Exs)
inductive Exo where
  | none
  | some (e : Ex)
inductive Itr where
  | seq (e : Ex)
  | range1 (a : Ex)
  | range2 (a b : Ex)
  | zip (a b : Ex)
  | enum (a : Ex)
end
inductive Ta where
  | tg (t : Tg)
  | sub (o i : Ex)
mutual
inductive Sm where
  | asg (t : Ta) (e : Ex)
  | aug (o i : Ex) (b : Bo) (e : Ex)
  | augN (i : Nat) (b : Bo) (e : Ex)
  | ex (e : Ex)
  | ret (e : Ex)
  | ite (c : Ex) (a b : Sms)
  | for_ (it : Itr) (t : Tg) (b : Sms)
  | whl (c : Ex) (b : Sms)
  | pass
inductive Sms where
  | nil
  | cons (s : Sm) (r : Sms)
end
structure Fn where
  ps : List Str
  nm : List Str
  body : Sms
abbrev Fns := Str → List Val → Sto → Rs Val
inductive Fl where
  | nx | rt (v : Val)

/-- the turns of a comprehension: what it gathers -/
def turns (src : Src) (step : Val → Sto → Rs (Option Val)) : Nat → Nat → Sto → Rs (List Val)
  | n, k, S => match src.get S k with
    | none => .no
    | some none => .ok [] S
    | some (some x) => match n with
      | 0 => .no
      | n + 1 => (step x S).bind fun o S1 => (turns src step n (k + 1) S1).bind fun r S2 => .ok (match o with
        | some v => v :: r
        | none => r) S2
/-- the turns of a for: the names, or a way out -/
def loop (src : Src) (step : Val → Ev → Sto → Rs (Fl × Ev)) : Nat → Nat → Ev → Sto → Rs (Fl × Ev)
  | n, k, r, S => match src.get S k with
    | none => .no
    | some none => .ok (.nx, r) S
    | some (some x) => match n with
      | 0 => .no
      | n + 1 => (step x r S).bind fun q S1 => match q.1 with
        | .rt v => .ok (.rt v, q.2) S1
        | .nx => loop src step n (k + 1) q.2 S1
def whileL (c : Ev → Sto → Rs Bool) (step : Ev → Sto → Rs (Fl × Ev)) : Nat → Ev → Sto → Rs (Fl × Ev)
  | 0, _, _ => .no
  | n + 1, r, S => (c r S).bind fun b S1 => if b then (step r S1).bind fun q S2 => (match q.1 with
      | .rt v => .ok (.rt v, q.2) S2
      | .nx => whileL c step n q.2 S2) else .ok (.nx, r) S1

/-- a op= b, of ints -/
def augI (b : Bo) (u w : Val) : Option Val := match b, u, w with
  | .add, .int i, .int j => some (.int (i + j))
  | .sub, .int i, .int j => some (.int (i - j))
  | _, _, _ => none
/-- an item of a list, from the left -/
def getL (x y : Val) (S : Sto) : Option Val := match x, y with
  | .ref l, .int k => match S[l]? with
    | some (.lst xs) => if 0 ≤ k then xs[k.toNat]? else none
    | _ => none
  | _, _ => none
/-- zip takes two lists, or two tuples -/
def zipOk : Src → Src → Bool
  | .tup _, .tup _ => true
  | .lst _, .lst _ => true
  | .lst _, .scr _ => true
  | .scr _, .lst _ => true
  | .scr _, .scr _ => true
  | _, _ => false
def enumOk : Src → Bool
  | .lst _ => true
  | .scr _ => true
  | _ => false
section
variable (G : Str → Option Val) (F : Fns)
def rangeOf (vs : List Val) : Option Src := match vs with
  | [.int j] => if decide (-(2 ^ 62) ≤ j) && decide (j < 2 ^ 62) then some (.rng 0 j.toNat) else none
  | [.int i, .int j] => if decide (-(2 ^ 62) ≤ i) && decide (i < 2 ^ 62) && decide (-(2 ^ 62) ≤ j) && decide (j < 2 ^ 62) then some (.rng i (j - i).toNat) else none
  | _ => none
def srcOf (S : Sto) (v : Val) : Option Src := match v with
  | .tup xs => some (.tup xs)
  | .scr xs => some (.scr xs)
  | .str z => some (.str z)
  | .ref i => match S[i]? with
    | some (.lst _) => some (.lst i)
    | _ => none
  | _ => none
def tst (S : Sto) (v : Val) : Rs Bool := Rs.of (truth S v) S
mutual
def ev : Ex → Ev → Sto → Rs Val
  | .var i, r, S => match r[i]? with
    | some (some v) => .ok v S
    | _ => .no
  | .con v, _, S => .ok v S
  | .glo x, _, S => Rs.of (G x) S
  | .bin o a b, r, S => (ev a r S).bind fun x S1 => (ev b r S1).bind fun y S2 => binop o x y S2
  | .neg a, r, S => (ev a r S).bind fun x S1 => match x with
    | .int i => .ok (.int (-i)) S1
    | _ => .no
  | .nt a, r, S => (ev a r S).bind fun x S1 => (tst S1 x).bind fun b S2 => .ok (.bl (!b)) S2
  | .and a b, r, S => (ev a r S).bind fun x S1 => (tst S1 x).bind fun c S2 => if c then ev b r S2 else .ok x S2
  | .or a b, r, S => (ev a r S).bind fun x S1 => (tst S1 x).bind fun c S2 => if c then .ok x S2 else ev b r S2
  | .cmp o a b, r, S => (ev a r S).bind fun x S1 => (ev b r S1).bind fun y S2 => cmpop o x y S2
  | .isn neg a, r, S => (ev a r S).bind fun x S1 => (Rs.ok Val.non S1).bind fun y S2 => cmpop (if neg then .notN else .isN) x y S2
  | .chain o p a b c, r, S => (ev a r S).bind fun x S1 => (ev b r S1).bind fun y S2 => (cmpop o x y S2).bind fun z S3 => (match z with
    | .bl true => (ev c r S3).bind fun w S4 => cmpop p y w S4
    | .bl false => .ok (.bl false) S3
    | _ => .no)
  | .ite c a b, r, S => (ev c r S).bind fun x S1 => (tst S1 x).bind fun t S2 => if t then ev a r S2 else ev b r S2
  | .tup es, r, S => (evs es r S).bind fun xs S1 => if xs.length ≤ lim then .ok (.tup xs) S1 else .no
  | .lst es, r, S => (evs es r S).bind fun xs S1 => if xs.length ≤ lim then alloc (.lst xs) S1 else .no
  | .idx a i, r, S => (ev a r S).bind fun x S1 => (ev i r S1).bind fun y S2 => index x y S2
  | .sl a lo hi, r, S => (ev a r S).bind fun x S1 => (evo lo r S1).bind fun l S2 => (evo hi r S2).bind fun h S3 => slice x l h S3
  | .call f es, r, S => (evs es r S).bind fun xs S1 => F f xs S1
  | .bi b es, r, S => (evs es r S).bind fun xs S1 => bi b xs S1
  | .me m o es, r, S => (ev o r S).bind fun x S1 => if recv m x S1 then (evs es r S1).bind fun xs S2 => meth m x xs S2 else .no
  | .lc it t c e vs, r, S => (evi it r S).bind fun src S1 => (turns src (fun x S2 => match t.bind x (wipeE r vs) with
      | none => .no
      | some r2 => (evc c r2 S2).bind fun b S3 => if b then (ev e r2 S3).bind fun y S4 => .ok (some y) S4 else .ok none S3) (src.size S1) 0 S1).bind fun ys S2 => if ys.length ≤ lim then alloc (.lst ys) S2 else .no
def evs : Exs → Ev → Sto → Rs (List Val)
  | .nil, _, S => .ok [] S
  | .cons e es, r, S => (ev e r S).bind fun x S1 => (evs es r S1).bind fun xs S2 => .ok (x :: xs) S2
  | .star e es, r, S => (ev e r S).bind fun x S1 => match seqOf S1 x with
    | some ys => (evs es r S1).bind fun xs S2 => .ok (ys ++ xs) S2
    | none => .no
def evo : Exo → Ev → Sto → Rs (Option Int)
  | .none, _, S => .ok none S
  | .some e, r, S => (ev e r S).bind fun x S1 => match x with
    | .int i => .ok (some i) S1
    | _ => .no
def evc : Exo → Ev → Sto → Rs Bool
  | .none, _, S => .ok true S
  | .some e, r, S => (ev e r S).bind fun x S1 => tst S1 x
def evi : Itr → Ev → Sto → Rs Src
  | .seq e, r, S => (ev e r S).bind fun x S1 => Rs.of (srcOf S1 x) S1
  | .range1 a, r, S => ((ev a r S).bind fun x S1 => (Rs.ok ([] : List Val) S1).bind fun xs S2 => .ok (x :: xs) S2).bind fun xs S1 => Rs.of (rangeOf xs) S1
  | .range2 a b, r, S => ((ev a r S).bind fun x S1 => ((ev b r S1).bind fun x S1 => (Rs.ok ([] : List Val) S1).bind fun xs S2 => .ok (x :: xs) S2).bind fun xs S2 => .ok (x :: xs) S2).bind fun xs S1 => Rs.of (rangeOf xs) S1
  | .zip a b, r, S => (ev a r S).bind fun x S1 => (ev b r S1).bind fun y S2 => match srcOf S2 x, srcOf S2 y with
    | some a, some b => if zipOk a b then .ok (.zip a b) S2 else .no
    | _, _ => .no
  | .enum a, r, S => (ev a r S).bind fun x S1 => match srcOf S1 x with
    | some a => if enumOk a then .ok (.enum a) S1 else .no
    | none => .no
end
def store : Ta → Val → Ev → Sto → Rs Ev
  | .tg t, v, r, S => Rs.of (t.bind v r) S
  | .sub o i, v, r, S => (ev G F o r S).bind fun x S1 => (ev G F i r S1).bind fun y S2 => match setItem x y v S2 with
    | some S3 => .ok r S3
    | none => .no
variable (fuel : Nat)
mutual
def sm : Sm → Ev → Sto → Rs (Fl × Ev)
  | .asg t e, r, S => (ev G F e r S).bind fun v S1 => (store G F t v r S1).bind fun r2 S2 => .ok (.nx, r2) S2
  | .aug o i b e, r, S => (ev G F o r S).bind fun x S1 => (ev G F i r S1).bind fun y S2 => match getL x y S2 with
    | some u => (ev G F e r S2).bind fun w S4 => (match augI b u w with
      | some z => (match setItem x y z S4 with
        | some S6 => .ok (.nx, r) S6
        | none => .no)
      | none => .no)
    | none => .no
  | .augN i b e, r, S => match r[i]? with
    | some (some u) => (ev G F e r S).bind fun w S1 => (match augI b u w with
      | some z => .ok (.nx, r.set i (some z)) S1
      | none => .no)
    | _ => .no
  | .ex e, r, S => (ev G F e r S).bind fun _ S1 => .ok (.nx, r) S1
  | .ret e, r, S => (ev G F e r S).bind fun v S1 => .ok (.rt v, r) S1
  | .ite c a b, r, S => (ev G F c r S).bind fun x S1 => (tst S1 x).bind fun t S2 => if t then sms a r S2 else sms b r S2
  | .for_ it t b, r, S => (evi G F it r S).bind fun src S1 => loop src (fun x r2 S2 => match t.bind x r2 with
      | none => .no
      | some r3 => sms b r3 S2) (src.size S1) 0 r S1
  | .whl c b, r, S => whileL (fun r S => (ev G F c r S).bind fun x S1 => tst S1 x) (fun r S => sms b r S) fuel r S
  | .pass, r, S => .ok (.nx, r) S
def sms : Sms → Ev → Sto → Rs (Fl × Ev)
  | .nil, r, S => .ok (.nx, r) S
  | .cons s t, r, S => (sm s r S).bind fun q S1 => match q.1 with
    | .rt v => .ok (.rt v, q.2) S1
    | .nx => sms t q.2 S1
end
def runFn (f : Fn) (vs : List Val) (S : Sto) : Rs Val := if vs.length = f.ps.length then
    (sms G F fuel f.body (vs.map some ++ List.replicate (f.nm.length - vs.length) none) S).bind fun q S1 => match q.1 with
      | .rt v => .ok v S1
      | .nx => .ok .non S1
  else .no
end
/-- the meaning of all defs of a table, to a depth of calls -/
def run (G : Str → Option Val) (T : List (Str × Fn)) (fuel : Nat) : Nat → Fns
  | 0, _, _, _ => .no
  | d + 1, f, vs, S => match T.lookup f with
    | some fn => runFn G (run G T fuel d) fuel fn vs S
    | none => .no
end A46
end
section
namespace A46
open PySem PySem.Spec L2

/-- a list that nobody changes: known to the object, or the module's own -/
def SqF (K : PySem.W.Frag) (H : Hp) (a : Addr) (vs : List V) : Prop := (∃ o, H a = some (.frz o (.lst vs))) ∨ SqL K (fun _ => none) a vs
theorem SqF.sq {K : PySem.W.Frag} {H : Hp} {a : Addr} {vs : List V} (h : SqF K H a vs) : SqL K H a vs := by
  rcases h with ⟨o, h⟩ | (h | ⟨_, h⟩) | h
  · exact .inl (.inr ⟨o, h⟩)
  · cases h
  · cases h
  · exact .inr h
/-- a tuple whose object is known to have no dict of its own -/
def SqD (K : PySem.W.Frag) (H : Hp) (a : Addr) (vs : List V) : Prop := (∃ o : Obj, o.dict = none ∧ H a = some (.frz o (.tup vs))) ∨
  ∃ (o : Obj) (its : Array Value) (n : Nat), K.lookup a = some o ∧ o.dict = none ∧ o.cls = .type "tuple" ∧ o.data = .seq its n ∧ its.size ≤ sizeLine ∧ Vals vs its.toList
theorem SqD.sq {K : PySem.W.Frag} {H : Hp} {a : Addr} {vs : List V} (h : SqD K H a vs) : SqT K H a vs := by
  rcases h with ⟨o, _, h⟩ | ⟨o, its, n, h1, _, h2, h3, h4, h5⟩
  · exact .inl (.inr ⟨o, h⟩)
  · exact .inr ⟨o, its, n, h1, h2, h3, h4, h5⟩
section
variable (K : PySem.W.Frag) (H : Hp) (io : List Addr)
mutual
inductive Rep : Val → V → Prop
  | non : Rep .non .non
  | bl (b : Bool) : Rep (.bl b) (.bl b)
  | int (i : Int) : Rep (.int i) (.int i)
  | str (x : Str) : Rep (.str x) (.str x)
  | tup {a : Addr} {xs : List Val} {vs : List V} : SqD K H a vs → Reps xs vs → Rep (.tup xs) (.ref a)
  | scr {a : Addr} {xs : List Val} {vs : List V} : SqF K H a vs → Reps xs vs → Rep (.scr xs) (.ref a)
  | ref {i : Nat} {a : Addr} : io[i]? = some a → Rep (.ref i) (.ref a)
  | ty (n : String) : Rep (.ty n) (.ty n)
inductive Reps : List Val → List V → Prop
  | nil : Reps [] []
  | cons {x : Val} {xs : List Val} {v : V} {vs : List V} : Rep x v → Reps xs vs → Reps (x :: xs) (v :: vs)
end
def kvR : List (KeyV × Val) → List (Key × V) → Prop
  | [], [] => True
  | (k, v) :: r, (c, u) :: t => k = c ∧ Rep K H io v u ∧ kvR r t
  | _, _ => False
def ObR (o : Ob) (a : Addr) : Prop := match o with
  | .lst xs => ∃ vs, H a = some (.lst vs) ∧ Reps K H io xs vs
  | .dct kvs => ∃ us, H a = some (.dK us) ∧ kvR K H io kvs us
structure SRel (S : Sto) : Prop where
  len : io.length = S.length
  nd : io.Nodup
  at_ : ∀ (i : Nat) (o : Ob) (a : Addr), S[i]? = some o → io[i]? = some a → ObR K H io o a
def ERel (r : Ev) (σ : L2.St) : Prop := r.length = σ.length ∧ ∀ (i : Nat) (v : Val), r[i]? = some (some v) → ∃ x, σ[i]? = some (some x) ∧ Rep K H io v x
end
/-- from one abstract heap to a later one -/
structure Stp (io : List Addr) (H : Hp) (io' : List Addr) (H' : Hp) : Prop where
  pre : io <+: io'
  fresh : ∀ b ∈ io', b ∈ io ∨ H b = none
  keep : ∀ b o, H b = some o → b ∉ io → H' b = some o
theorem Stp.refl {io : List Addr} {H : Hp} : Stp io H io H := ⟨List.prefix_rfl, fun _ h => .inl h, fun _ _ h _ => h⟩
theorem Stp.trans {io io1 io2 : List Addr} {H H1 H2 : Hp} (s : Stp io H io1 H1) (t : Stp io1 H1 io2 H2) : Stp io H io2 H2 := by
  refine ⟨s.pre.trans t.pre, fun b hb => ?_, fun b o h hb => ?_⟩
  · rcases t.fresh b hb with h | h
    · exact s.fresh b h
    · by_cases hi : b ∈ io
      · exact .inl hi
      · right
        cases q : H b with
        | none => rfl
        | some o => rw [s.keep b o q hi] at h; cases h
  · refine t.keep b o (s.keep b o h hb) fun hb1 => ?_
    rcases s.fresh b hb1 with z | z
    · exact hb z
    · rw [h] at z; cases z

section
variable {K : PySem.W.Frag} {H H' : Hp} {io io' : List Addr} {S S' : Sto}
theorem SRel.mem (r : SRel K H io S) {b : Addr} (hb : b ∈ io) : ∃ o, H b = some o ∧ ((∃ xs, o = .lst xs) ∨ ∃ us, o = .dK us) := by
  obtain ⟨i, hi, e⟩ := List.getElem_of_mem hb
  have e2 : io[i]? = some b := by rw [List.getElem?_eq_getElem hi, e]
  have hs : i < S.length := by rw [← r.len]; exact hi
  have q := r.at_ i S[i] b (List.getElem?_eq_getElem hs) e2
  generalize S[i] = o at q
  cases o with
  | lst xs => obtain ⟨vs, h, _⟩ := q; exact ⟨_, h, .inl ⟨_, rfl⟩⟩
  | dct kvs => obtain ⟨us, h, _⟩ := q; exact ⟨_, h, .inr ⟨_, rfl⟩⟩
theorem SRel.notIn (r : SRel K H io S) {b : Addr} {o : HO} (h : H b = some o) (h1 : ∀ xs, o ≠ .lst xs) (h2 : ∀ us, o ≠ .dK us) : b ∉ io := fun hb => by
  obtain ⟨o', e, q⟩ := r.mem hb
  rw [h] at e; cases e
  rcases q with ⟨xs, q⟩ | ⟨us, q⟩
  · exact h1 xs q
  · exact h2 us q
theorem sqD_mono (r : SRel K H io S) (t : Stp io H io' H') {a : Addr} {vs : List V} (h : SqD K H a vs) : SqD K H' a vs := by
  rcases h with ⟨o, d, h⟩ | h
  · exact .inl ⟨o, d, t.keep _ _ h (r.notIn h (fun _ q => nomatch q) fun _ q => nomatch q)⟩
  · exact .inr h
mutual
theorem Rep.mono (r : SRel K H io S) (t : Stp io H io' H') : ∀ {v : Val} {x : V}, Rep K H io v x → Rep K H' io' v x
  | _, _, .non => .non
  | _, _, .bl b => .bl b
  | _, _, .int b => .int b
  | _, _, .str b => .str b
  | _, _, .tup h q => .tup (sqD_mono r t h) (Reps.mono r t q)
  | _, _, .scr h q => by
    refine .scr ?_ (Reps.mono r t q)
    rcases h with ⟨o, h⟩ | h
    · exact .inl ⟨o, t.keep _ _ h (r.notIn h (fun _ q => nomatch q) fun _ q => nomatch q)⟩
    · exact .inr h
  | _, _, .ref h => .ref (by
      obtain ⟨z, rfl⟩ := t.pre
      have hl := (List.getElem?_eq_some_iff.mp h).1
      rw [List.getElem?_append_left hl]; exact h)
  | _, _, .ty n => .ty n
theorem Reps.mono (r : SRel K H io S) (t : Stp io H io' H') : ∀ {v : List Val} {x : List V}, Reps K H io v x → Reps K H' io' v x
  | _, _, .nil => .nil
  | _, _, .cons h q => .cons (Rep.mono r t h) (Reps.mono r t q)
end

theorem ERel.mono {r : Ev} {σ : St} (q : SRel K H io S) (t : Stp io H io' H') (e : ERel K H io r σ) : ERel K H' io' r σ :=
  ⟨e.1, fun i v h => let ⟨x, h1, h2⟩ := e.2 i v h; ⟨x, h1, h2.mono q t⟩⟩
theorem kvR.mono (q : SRel K H io S) (t : Stp io H io' H') : ∀ {kvs : List (KeyV × Val)} {us : List (Key × V)}, kvR K H io kvs us → kvR K H' io' kvs us
  | [], [], _ => trivial
  | (_, _) :: _, (_, _) :: _, ⟨h1, h2, h3⟩ => ⟨h1, h2.mono q t, kvR.mono q t h3⟩
  | [], _ :: _, h => h.elim
  | _ :: _, [], h => h.elim
theorem ObR.mono_ne (q : SRel K H io S) (t : Stp io H io' H') {o : Ob} {a : Addr} (e : H' a = H a) (h : ObR K H io o a) : ObR K H' io' o a := by
  cases o with
  | lst xs => obtain ⟨vs, h1, h2⟩ := h; exact ⟨vs, e.trans h1, h2.mono q t⟩
  | dct kvs => obtain ⟨us, h1, h2⟩ := h; exact ⟨us, e.trans h1, h2.mono q t⟩
theorem Reps.length : ∀ {xs : List Val} {vs : List V}, Reps K H io xs vs → xs.length = vs.length
  | _, _, .nil => rfl
  | _, _, .cons _ q => by simp only [List.length_cons, q.length]
theorem Reps.append : ∀ {xs ys : List Val} {vs us : List V}, Reps K H io xs vs → Reps K H io ys us → Reps K H io (xs ++ ys) (vs ++ us)
  | _, _, _, _, .nil, h => h
  | _, _, _, _, .cons p q, h => .cons p (q.append h)
theorem Reps.get : ∀ {xs : List Val} {vs : List V} {i : Nat} {v : Val}, Reps K H io xs vs → xs[i]? = some v → ∃ x, vs[i]? = some x ∧ Rep K H io v x
  | _, _, 0, _, .cons p _, h => by simp at h; subst h; exact ⟨_, rfl, p⟩
  | _, _, i + 1, _, .cons _ q, h => by simpa using Reps.get (i := i) q (by simpa using h)
  | _, _, _, _, .nil, h => by simp at h
theorem Reps.getV : ∀ {xs : List Val} {vs : List V} {i : Nat} {x : V}, Reps K H io xs vs → vs[i]? = some x → ∃ v, xs[i]? = some v ∧ Rep K H io v x
  | _, _, 0, _, .cons p _, h => by simp at h; subst h; exact ⟨_, rfl, p⟩
  | _, _, i + 1, _, .cons _ q, h => by simpa using Reps.getV (i := i) q (by simpa using h)
  | _, _, _, _, .nil, h => by simp at h
theorem Reps.set {v : Val} {x : V} (p : Rep K H io v x) : ∀ {xs : List Val} {vs : List V} (i : Nat), Reps K H io xs vs → Reps K H io (xs.set i v) (vs.set i x)
  | _, _, _, .nil => .nil
  | _, _, 0, .cons _ q => .cons p q
  | _, _, i + 1, .cons r q => .cons r (Reps.set p i q)
theorem Reps.drop : ∀ {xs : List Val} {vs : List V} (n : Nat), Reps K H io xs vs → Reps K H io (xs.drop n) (vs.drop n)
  | _, _, 0, q => q
  | _, _, _ + 1, .nil => .nil
  | _, _, n + 1, .cons _ q => Reps.drop n q
theorem Reps.take : ∀ {xs : List Val} {vs : List V} (n : Nat), Reps K H io xs vs → Reps K H io (xs.take n) (vs.take n)
  | _, _, 0, _ => .nil
  | _, _, _ + 1, .nil => .nil
  | _, _, n + 1, .cons p q => .cons p (Reps.take n q)
theorem Reps.rep {xs : List Val} {vs : List V} (q : Reps K H io xs vs) : ∀ n : Nat, Reps K H io (repV xs n) (List.replicate n vs).flatten
  | 0 => .nil
  | n + 1 => by rw [List.replicate_succ, List.flatten_cons]; exact q.append (Reps.rep q n)

/-- a new object -/
theorem SRel.new (r : SRel K H io S) {p : Addr} {u : HO} {o : Ob} (hp : H p = none) (h : ObR K (upd H p u) (io ++ [p]) o p) : Stp io H (io ++ [p]) (upd H p u) ∧ SRel K (upd H p u) (io ++ [p]) (S ++ [o]) := by
  have np : p ∉ io := fun z => by obtain ⟨_, e, _⟩ := r.mem z; rw [hp] at e; cases e
  have st : Stp io H (io ++ [p]) (upd H p u) := ⟨List.prefix_append _ _, fun b hb => by
    rcases List.mem_append.mp hb with z | z
    · exact .inl z
    · rw [List.mem_singleton.mp z]; exact .inr hp, fun b q e _ => by rw [upd_ne (ne_of_none e hp)]; exact e⟩
  refine ⟨st, ⟨by simp [r.len], ?_, fun i q a h1 h2 => ?_⟩⟩
  · rw [List.nodup_append]
    exact ⟨r.nd, by simp, fun a ha b hb => by rw [List.mem_singleton.mp hb]; exact fun z => np (z ▸ ha)⟩
  · by_cases hi : i < S.length
    · rw [List.getElem?_append_left hi] at h1
      rw [List.getElem?_append_left (by rw [r.len]; exact hi)] at h2
      refine (r.at_ i q a h1 h2).mono_ne r st (upd_ne ?_)
      rintro rfl
      exact np (List.mem_of_getElem? h2)
    · have e : i = S.length := by
        have := (List.getElem?_eq_some_iff.mp h1).1
        simp at this; omega
      subst e
      rw [List.getElem?_append_right (Nat.le_refl _)] at h1
      rw [List.getElem?_append_right (by rw [r.len]; exact Nat.le_refl _)] at h2
      rw [r.len] at h2
      simp at h1 h2
      subst h1; subst h2
      exact h
/-- a changed object -/
theorem SRel.put (r : SRel K H io S) {l : Nat} {a : Addr} {u : HO} {o : Ob} (ha : io[l]? = some a) (h : ObR K (upd H a u) io o a) : Stp io H io (upd H a u) ∧ SRel K (upd H a u) io (S.set l o) := by
  have st : Stp io H io (upd H a u) := ⟨List.prefix_rfl, fun _ z => .inl z, fun b q e hb => by
    rw [upd_ne (show b ≠ a from fun z => hb (by rw [z]; exact List.mem_of_getElem? ha))]; exact e⟩
  refine ⟨st, ⟨by simp [r.len], r.nd, fun i q b h1 h2 => ?_⟩⟩
  by_cases hi : l = i
  · subst hi
    have hl : l < S.length := by rw [← r.len]; exact (List.getElem?_eq_some_iff.mp ha).1
    rw [List.getElem?_set_self hl] at h1
    cases h1
    rw [ha] at h2; cases h2
    exact h
  · rw [List.getElem?_set_ne hi] at h1
    refine (r.at_ i q b h1 h2).mono_ne r st (upd_ne ?_)
    rintro rfl
    obtain ⟨l1, e1⟩ := List.getElem?_eq_some_iff.mp ha
    obtain ⟨l2, e2⟩ := List.getElem?_eq_some_iff.mp h2
    exact hi ((List.getElem_inj r.nd).mp (e1.trans e2.symm))
theorem SRel.addr (r : SRel K H io S) {l : Nat} {o : Ob} (h : S[l]? = some o) : ∃ a, io[l]? = some a ∧ ObR K H io o a := by
  have hl : l < io.length := by rw [r.len]; exact (List.getElem?_eq_some_iff.mp h).1
  exact ⟨io[l], List.getElem?_eq_getElem hl, r.at_ l o _ h (List.getElem?_eq_getElem hl)⟩
end

section
variable (K : PySem.W.Frag)
def Go {α β : Type} (R : Hp → List Addr → α → β → Prop) (H : Hp) (io : List Addr) (m : Rs α) (Q : β → Hp → Prop) : Prop := match m with
  | .ok a S => ∀ H' io' b, Stp io H io' H' → SRel K H' io' S → R H' io' a b → Q b H'
  | .no => False
end
section
variable {K : PySem.W.Frag} {α β γ δ : Type} {R : Hp → List Addr → α → β → Prop} {R' : Hp → List Addr → γ → δ → Prop} {H H' : Hp} {io io' : List Addr}
theorem Go.later {m : Rs α} {Q : β → Hp → Prop} (t : Stp io H io' H') (h : Go K R H io m Q) : Go K R H' io' m Q := by
  cases m with
  | no => exact h
  | ok a S => exact fun H2 io2 b t2 r q => h H2 io2 b (t.trans t2) r q
theorem Go.bind {m : Rs α} {f : α → Sto → Rs γ} {Q : δ → Hp → Prop} (h : Go K R' H io (m.bind f) Q) :
    Go K R H io m fun b H1 => ∃ a S1 io1, Stp io H io1 H1 ∧ SRel K H1 io1 S1 ∧ R H1 io1 a b ∧ Go K R' H1 io1 (f a S1) Q := by
  cases m with
  | no => exact h
  | ok a S => exact fun H1 io1 b t r q => ⟨a, S, io1, t, r, q, Go.later t h⟩
theorem Go.imp {m : Rs α} {Q Q' : β → Hp → Prop} (h : Go K R H io m Q) (w : ∀ b H, Q b H → Q' b H) : Go K R H io m Q' := by
  cases m with
  | no => exact h
  | ok a S => exact fun H1 io1 b t r q => w _ _ (h H1 io1 b t r q)
/-- a value that is there -/
theorem Go.at {a : α} {S : Sto} {Q : β → Hp → Prop} {b : β} (h : Go K R H io (.ok a S) Q) (r : SRel K H io S) (q : R H io a b) : Q b H := h H io b .refl r q
end
end A46
end
section
namespace A46
open PySem PySem.Spec L2

section
variable (K : PySem.W.Frag)
def tE (m : Ev → Sto → Rs Val) : TE := fun σ H Q => ∃ r S io, ERel K H io r σ ∧ SRel K H io S ∧ Go K (Rep K) H io (m r S) Q
def tA (m : Ev → Sto → Rs (List Val)) : TA := fun σ H Q => ∃ r S io, ERel K H io r σ ∧ SRel K H io S ∧ Go K (Reps K) H io (m r S) Q
def tB' (m : Ev → Sto → Rs Bool) : TT := fun σ H Q => ∃ r S io, ERel K H io r σ ∧ SRel K H io S ∧ Go K (fun _ _ a b => a = b) H io (m r S) Q
def tO (m : Ev → Sto → Rs (Option Int)) : TO := fun σ H Q => ∃ r S io, ERel K H io r σ ∧ SRel K H io S ∧ Go K (fun _ _ a b => a = b) H io (m r S) Q
end
theorem PE.imp' {X : Cx} {e : Expr} {t t' : TE} (h : PE X e t) (w : ∀ σ H Q, t' σ H Q → t σ H Q) : PE X e t' := ⟨fun pins s σ H Q I q => h.run pins s σ H Q I (w σ H Q q)⟩
theorem PT.imp' {X : Cx} {e : Expr} {t t' : TT} (h : PT X e t) (w : ∀ σ H Q, t' σ H Q → t σ H Q) : PT X e t' := ⟨fun pins s σ H Q I q => h.run pins s σ H Q I (w σ H Q q)⟩
theorem PA.imp' {X : Cx} {e : List Expr} {t t' : TA} (h : PA X e t) (w : ∀ σ H Q, t' σ H Q → t σ H Q) : PA X e t' := ⟨fun p pins s σ H Q I q => h.run p pins s σ H Q I (w σ H Q q)⟩
theorem PS.imp' {X : Cx} {e : Stmt} {t t' : TS} (h : PS X e t) (w : ∀ D σ H, t' D σ H → t D σ H) : PS X e t' := ⟨fun pins s σ H D I q => h.run pins s σ H D I (w D σ H q)⟩
theorem PSs.imp' {X : Cx} {e : List Stmt} {t t' : TS} (h : PSs X e t) (w : ∀ D σ H, t' D σ H → t D σ H) : PSs X e t' := ⟨fun pins s σ H D I q => h.run pins s σ H D I (w D σ H q)⟩
theorem PI.imp' {X : Cx} {tg e : Expr} {t t' : TI} (h : PI X tg e t) (w : ∀ σ H Q, t' σ H Q → t σ H Q) : PI X tg e t' := ⟨fun pins s σ H Q I q => h.run pins s σ H Q I (w σ H Q q)⟩

/-- an operator by values keeps what the store's operation says -/
def Op2 (K : PySem.W.Frag) (r : R2) (f : Val → Val → Sto → Rs Val) : Prop := ∀ (S : Sto) (io : List Addr) (H : Hp) (a b : Val) (x y : V) (Q : VK), SRel K H io S → Rep K H io a x → Rep K H io b y → Go K (Rep K) H io (f a b S) Q → r x y H Q

section
variable {X : Cx} {a b : Expr} {pos : Pos} {ma mb : Ev → Sto → Rs Val}
theorem d_bin {op : Operator} {r : R2} {f : Val → Val → Sto → Rs Val} (hr : OpR X (binaryOp op) r) (ho : Op2 X.K r f) (ha : PE X a (tE X.K ma)) (hb : PE X b (tE X.K mb)) :
    PE X (.BinOp a op b pos) (tE X.K fun r S => (ma r S).bind fun x S1 => (mb r S1).bind fun y S2 => f x y S2) := by
  refine PE.imp' (pe_op hr ha hb) fun σ H Q ⟨r, S, io, e, q, g⟩ => ?_
  refine ⟨r, S, io, e, q, Go.imp g.bind fun x H1 ⟨v, S1, io1, t1, q1, p1, g1⟩ => ?_⟩
  refine ⟨r, S1, io1, e.mono q t1, q1, Go.imp g1.bind fun y H2 ⟨w, S2, io2, t2, q2, p2, g2⟩ => ?_⟩
  exact ho S2 io2 H2 v w x y Q q2 (p1.mono q1 t2) p2 g2
end
end A46
end
section
namespace A46
open PySem PySem.Spec L2
def orR (a b : R2) : R2 := fun x y H Q => a x y H Q ∨ b x y H Q
theorem OpR.or {X : Cx} {f : Value → Value → Sem Value} {a b : R2} (h : OpR X f a) (k : OpR X f b) : OpR X f (orR a b) := by
  intro pins s σ H x y v u Q I rx ry q
  rcases q with q | q
  · exact h pins s σ H x y v u Q I rx ry q
  · exact k pins s σ H x y v u Q I rx ry q
theorem lim_eq : lim = sizeLine := rfl
section
variable {K : PySem.W.Frag} {H : Hp} {io : List Addr} {S : Sto}
/-- a list's object at its address -/
theorem SRel.lst (r : SRel K H io S) {l : Nat} {xs : List Val} {x : V} (h : S[l]? = some (.lst xs)) (p : Rep K H io (.ref l) x) : ∃ a vs, x = .ref a ∧ io[l]? = some a ∧ H a = some (.lst vs) ∧ Reps K H io xs vs := by
  cases p with
  | ref e =>
    obtain ⟨vs, h1, h2⟩ := r.at_ l _ _ h e
    exact ⟨_, vs, rfl, e, h1, h2⟩
theorem SRel.dct (r : SRel K H io S) {l : Nat} {xs : List (KeyV × Val)} {x : V} (h : S[l]? = some (.dct xs)) (p : Rep K H io (.ref l) x) : ∃ a vs, x = .ref a ∧ io[l]? = some a ∧ H a = some (.dK vs) ∧ kvR K H io xs vs := by
  cases p with
  | ref e =>
    obtain ⟨vs, h1, h2⟩ := r.at_ l _ _ h e
    exact ⟨_, vs, rfl, e, h1, h2⟩
/-- a new list for what is wanted -/
theorem Go.alloc (r : SRel K H io S) {xs : List Val} {vs : List V} {Q : VK} (q : Reps K H io xs vs) (g : Go K (Rep K) H io (alloc (.lst xs) S) Q) : ∀ p, H p = none → Q (.ref p) (upd H p (.lst vs)) := fun p hp => by
  have st : Stp io H (io ++ [p]) (upd H p (.lst vs)) := ⟨List.prefix_append _ _, fun b hb => by
    rcases List.mem_append.mp hb with z | z
    · exact .inl z
    · rw [List.mem_singleton.mp z]; exact .inr hp, fun b u e _ => by rw [upd_ne (ne_of_none e hp)]; exact e⟩
  obtain ⟨s1, s2⟩ := r.new (o := .lst xs) (u := .lst vs) hp ⟨vs, upd_same, q.mono r st⟩
  refine g _ _ _ s1 s2 (.ref ?_)
  rw [← r.len, List.getElem?_append_right (Nat.le_refl _)]; simp
/-- a new tuple -/
theorem Go.tuple (r : SRel K H io S) {xs : List Val} {vs : List V} {Q : VK} (q : Reps K H io xs vs) (g : Go K (Rep K) H io (.ok (.tup xs) S) Q) : ∀ (p : Addr) (ob : Obj), ob.dict = none → H p = none → Q (.ref p) (upd H p (.frz ob (.tup vs))) := fun p ob hd hp => by
  have np : p ∉ io := fun z => by obtain ⟨_, e, _⟩ := r.mem z; rw [hp] at e; cases e
  have st : Stp io H io (upd H p (.frz ob (.tup vs))) := ⟨List.prefix_rfl, fun _ z => .inl z, fun b u e _ => by rw [upd_ne (ne_of_none e hp)]; exact e⟩
  have s2 : SRel K (upd H p (.frz ob (.tup vs))) io S := ⟨r.len, r.nd, fun i o a h1 h2 => (r.at_ i o a h1 h2).mono_ne r st (upd_ne (fun z => np (by rw [← z]; exact List.mem_of_getElem? h2)))⟩
  exact g _ _ _ st s2 (.tup (.inl ⟨ob, hd, upd_same⟩) (q.mono r st))
end

/-- a new tuple is laid, known to its object -/
theorem laidT {X : Cx} {pins : List (Addr × Obj)} {σ : St} {H : Hp} {s : Shared} {Q : VK} {xs : List V} {its : List Value} (I : L2.Inv X pins σ H s) (r : Vals xs its) (hz : xs.length ≤ sizeLine)
    (q : ∀ (p : Addr) (ob : Obj), ob.dict = none → H p = none → Q (.ref p) (upd H p (.frz ob (.tup xs)))) : EP X pins σ Q (.ref s.heap.objs.size) { s with heap := s.heap.push { cls := .type "tuple", data := .seq its.toArray } } := by
  have hp := I.hok.fresh (Nat.le_refl s.heap.objs.size)
  refine ⟨.ref s.heap.objs.size, _, I.laid (t' := s.toks) (o := .frz { cls := .type "tuple", data := .seq its.toArray } (.tup xs)) (fun b ob e => Heap.get?_push_of_some _ e) (Nat.le_refl _) ?_, rfl, q _ _ rfl hp⟩
  exact ⟨Heap.get?_push_size _ rfl, hz, its, r, PyProof.Rows.IsTup.new _ _⟩
def rCatF (K : PySem.W.Frag) : R2 := fun x y H Q => ∃ a b xs ys, x = .ref a ∧ y = .ref b ∧ SqT K H a xs ∧ SqT K H b ys ∧ xs.length + ys.length ≤ sizeLine ∧
  (xs = [] → Q (.ref b) H) ∧ (xs ≠ [] → ys = [] → Q (.ref a) H) ∧ (xs ≠ [] → ys ≠ [] → ∀ (p : Addr) (ob : Obj), ob.dict = none → H p = none → Q (.ref p) (upd H p (.frz ob (.tup (xs ++ ys)))))
theorem op_catF {X : Cx} : OpR X (binaryOp .Add) (rCatF X.K) := by
  intro pins s σ H x y v u Q I rx ry h
  obtain ⟨a, b, xs, ys, rfl, rfl, ha, hb, hz, q0, q1, q2⟩ := h
  cases rx
  cases ry
  obtain ⟨i1, r1, p1, _⟩ := I.tuple ha
  obtain ⟨i2, r2, p2, _⟩ := I.tuple hb
  by_cases hx : xs = []
  · subst hx
    cases r1
    exact cat_tup0 p1 p2 ⟨.ref b, H, I, rfl, q0 rfl⟩
  · refine HT.cat_tup p1 p2 (fun z => hx (r1.nil_iff.mp z)) (fun z => ⟨.ref a, H, I, rfl, q1 hx (r2.nil_iff.mp z)⟩) (fun z => ?_) (by rw [← r1.length, ← r2.length]; exact hz)
    exact laidT I (r1.append r2) (by rw [List.length_append]; exact hz) (q2 hx fun w => z (r2.nil_iff.mpr w))
theorem OpR.addAll {X : Cx} : OpR X (binaryOp .Add) (orR (rI0 fun i j => .int (i + j)) (orR (fun x y H Q => ∃ i j, x = .str i ∧ y = .str j ∧ i.length + j.length ≤ sizeLine ∧ Q (.str (i ++ j)) H) (orR rCat (rCatF X.K)))) :=
  .or op_add (.or op_add_str (.or op_cat op_catF))
theorem op2_add {K : PySem.W.Frag} : Op2 K (orR (rI0 fun i j => .int (i + j)) (orR (fun x y H Q => ∃ i j, x = .str i ∧ y = .str j ∧ i.length + j.length ≤ sizeLine ∧ Q (.str (i ++ j)) H) (orR rCat (rCatF K)))) (binop .add) := by
  intro S io H a b x y Q r pa pb g
  unfold binop at g
  split at g
  case h_1 => cases pa; cases pb; exact .inl ⟨_, _, rfl, rfl, g.at r (.int _)⟩
  case h_2 =>
    cases pa; cases pb
    split at g
    case isTrue h => exact .inr (.inl ⟨_, _, rfl, rfl, h, g.at r (.str _)⟩)
    case isFalse => exact g.elim
  case h_3 =>
    cases pa with
    | tup s1 q1 =>
      cases pb with
      | tup s2 q2 =>
        split at g
        case isFalse => exact g.elim
        case isTrue h =>
          refine .inr (.inr (.inr ⟨_, _, _, _, rfl, rfl, s1.sq, s2.sq, by rw [← q1.length, ← q2.length]; exact h, fun e => ?_, fun _ e => ?_, fun _ _ => Go.tuple r (q1.append q2) g⟩))
          · subst e
            cases q1
            exact g.at r (.tup s2 q2)
          · subst e
            cases q2
            rw [List.append_nil] at g
            exact g.at r (.tup s1 q1)
  case h_4 =>
    split at g
    case h_1 h1 h2 =>
      split at g
      case isFalse => exact g.elim
      case isTrue h =>
        obtain ⟨a1, v1, rfl, _, e1, q1⟩ := r.lst h1 pa
        obtain ⟨a2, v2, rfl, _, e2, q2⟩ := r.lst h2 pb
        exact .inr (.inr (.inl ⟨_, _, _, _, rfl, rfl, e1, e2, by rw [← q1.length, ← q2.length]; exact h, Go.alloc r (q1.append q2) g⟩))
    case h_2 => exact g.elim
  all_goals first | exact g.elim | (rename_i h; cases h)
theorem op2_sub {K : PySem.W.Frag} : Op2 K (rI0 fun i j => .int (i - j)) (binop .sub) := by
  intro S io H a b x y Q r pa pb g
  unfold binop at g
  split at g
  case h_5 => cases pa; cases pb; exact ⟨_, _, rfl, rfl, g.at r (.int _)⟩
  all_goals first | exact g.elim | (rename_i h; cases h) | contradiction
end A46
end
section
namespace A46
open PySem PySem.Spec L2
section
theorem tup_mul_one (l : Addr) (items : Array Value) (n : Nat) (dd : Option Addr) (sl : Array (Option Value)) (u : Tok) :
    Meets (Builtin.«tuple.__mul__» ⟨[.ref l, .int 1 u], []⟩) (fun _ R s => s.heap.get? l = some { cls := .type "tuple", dict := dd, data := .seq items n, slots := sl } ∧ R (.ok (.ret (Value.ref l))) s) :=
  .of_wp fun prog w A R s h => by
    obtain ⟨hp, g, d, tk, os⟩ := s
    obtain ⟨hl, h⟩ := h
    have f1 := AutoSeq1.idx_int
    wp_walk using wpAny_loadPart' hl
    repeat (first
      | (refine wpAny_ite_false (decide_eq_false (by decide)) ?_; wp_walk using wpAny_loadPart' hl)
      | (refine wpAny_ite_true (decide_eq_true (by simp)) ?_; wp_walk using wpAny_loadPart' hl))
    exact ⟨_, rfl, h⟩
theorem tup_mul_nil (l : Addr) (items : Array Value) (n : Nat) (dd : Option Addr) (sl : Array (Option Value)) (x : Int) (u : Tok) (c0 : (decide (x < -(2 ^ 63)) || decide (x ≥ 2 ^ 63)) = false) (c1 : (items.isEmpty || x == 1) = false) (c2 : (decide (x ≤ 0) || items.isEmpty) = true) :
    Meets (Builtin.«tuple.__mul__» ⟨[.ref l, .int x u], []⟩) (fun _ R s => s.heap.get? l = some { cls := .type "tuple", dict := dd, data := .seq items n, slots := sl } ∧
      R (.ok (.ret (Value.ref s.heap.objs.size))) { s with heap := s.heap.push { cls := Value.type "tuple", data := Data.seq #[] }, toks := s.toks }) :=
  .of_wp fun prog w A R s h => by
    obtain ⟨hp, g, d, tk, os⟩ := s
    obtain ⟨hl, h⟩ := h
    have f1 := AutoSeq1.idx_int
    wp_walk using wpAny_loadPart' hl
    repeat (first
      | (refine wpAny_ite_false (decide_eq_false (by rw [c0]; exact Bool.false_ne_true)) ?_; wp_walk using wpAny_loadPart' hl)
      | (refine wpAny_ite_false (decide_eq_false (by rw [c1]; exact Bool.false_ne_true)) ?_; wp_walk using wpAny_loadPart' hl)
      | (refine wpAny_ite_true (decide_eq_true (by rw [c2])) ?_; wp_walk using wpAny_loadPart' hl))
    exact ⟨_, rfl, h⟩
end
def rRepF (K : PySem.W.Frag) : R2 := fun x y H Q => ∃ l k xs, x = .ref l ∧ y = .int k ∧ SqT K H l xs ∧ xs ≠ [] ∧ -1000 ≤ k ∧ k ≤ 1000 ∧ xs.length ≤ 1000 ∧ (k = 1 → Q (.ref l) H) ∧
  (k ≠ 1 → ∀ (p : Addr) (ob : Obj), ob.dict = none → H p = none → Q (.ref p) (upd H p (.frz ob (.tup (List.replicate k.toNat xs).flatten))))
theorem op_repF {X : Cx} : OpR X (binaryOp .Mult) (rRepF X.K) := by
  intro pins s σ H x y v u Q I rx ry h
  obtain ⟨l, k, xs, rfl, rfl, hT, hne, h1, h2, h3, q1, q0⟩ := h
  cases rx
  obtain ⟨t, rfl⟩ := ry
  obtain ⟨its, r, ⟨⟨cls, dd, data, sl⟩, ho, hc, n, hd⟩, hs⟩ := I.tuple hT
  simp only at hc hd
  subst hc hd
  have hi : its.toArray.isEmpty = false := by
    cases r with
    | nil => exact absurd rfl hne
    | cons a b => rfl
  refine wpAny_binaryOp_repeat_ref (T := "tuple") (U := "int") (by decide) ⟨_, ho, rfl⟩ (fun s' => typeIs_int s' k t) noFill_tuple_mul F.fills_int_mul F.slot_int_rmul repeat_tuple F.slot_int_index.lookup
    (call_meets F.slot_int_rmul (typeIs_int s k t) F.entry_int_rmul (F.args_int_rmul_2 _ _) (int_rmul_tuple k t l its.toArray n dd sl) ⟨ho, rfl, ⟨_, ho, rfl⟩, ?_⟩)
  have c0 : (decide (k < -(2 ^ 63)) || decide (k ≥ 2 ^ 63)) = false := by rw [decide_eq_false (by omega), decide_eq_false (by omega)] <;> rfl
  by_cases hk : k = 1
  · subst hk
    exact call_meets F.slot_tuple_mul ⟨_, ho, rfl⟩ F.entry_tuple_mul (F.args_tuple_mul_2 _ _) (tup_mul_one l its.toArray n dd sl t) ⟨ho, ⟨.ref l, H, I, rfl, q1 rfl⟩⟩
  · have c1 : (its.toArray.isEmpty || k == 1) = false := by rw [hi, Bool.false_or]; exact beq_eq_false_iff_ne.mpr hk
    by_cases hk0 : k ≤ 0
    · refine call_meets F.slot_tuple_mul ⟨_, ho, rfl⟩ F.entry_tuple_mul (F.args_tuple_mul_2 _ _) (tup_mul_nil l its.toArray n dd sl k t c0 c1 ?_) ⟨ho, ?_⟩
      · rw [decide_eq_true hk0] <;> rfl
      · have e : (List.replicate k.toNat xs).flatten = [] := by rw [show k.toNat = 0 by omega] <;> rfl
        have q2 := q0 hk
        rw [e] at q2
        exact laidT I (.nil) (Nat.zero_le _) q2
    · have hz : its.toArray.size = xs.length := by rw [List.size_toArray]; exact r.length.symm
      have hm : ((its.toArray.size : Nat) : Int) * k ≤ 1000000 := by
        rw [hz]
        have a1 : ((xs.length : Nat) : Int) * k ≤ 1000 * k := Int.mul_le_mul_of_nonneg_right (by omega) (by omega)
        omega
      have hf : (List.replicate k.toNat its).flatten.length ≤ sizeLine := by
        rw [PyProof.Rows.lm_len_rep_flat, ← r.length, sizeLine_eq]
        have a1 : k.toNat * xs.length ≤ 1000 * 1000 := Nat.mul_le_mul (by omega) h3
        omega
      have c2 : (decide (k ≤ 0) || its.toArray.isEmpty) = false := by rw [hi, Bool.or_false]; exact decide_eq_false hk0
      have c4 : Builtin.Tuple.tupleTooMany (((its.toArray.size : Nat) : Int) * k) = false := by
        unfold Builtin.Tuple.tupleTooMany
        rw [sizeLine_eq]; exact decide_eq_false (by omega)
      refine call_meets F.slot_tuple_mul ⟨_, ho, rfl⟩ F.entry_tuple_mul (F.args_tuple_mul_2 _ _) (tuple_mulW l its.toArray n dd sl k t c0 c1 c2 (by omega) c4 (by rw [size_rep, List.size_toArray]; exact hf)) ⟨ho, ?_⟩
      rw [size_rep]
      refine laidT I (r.rep k.toNat) ?_ (q0 hk)
      rw [(r.rep k.toNat).length]; exact hf
abbrev rMulAll (K : PySem.W.Frag) : R2 := orR (rI CMul fun i j => .int (i * j)) (orR (rI CMulW fun i j => .int (i * j)) (orR rRep (rRepF K)))
theorem OpR.mulAll {X : Cx} : OpR X (binaryOp .Mult) (rMulAll X.K) := .or op_mul (.or op_mulW (.or op_rep op_repF))
theorem repV_one (xs : List Val) : repV xs 1 = xs := by simp [repV]
theorem op2_mul {K : PySem.W.Frag} : Op2 K (rMulAll K) (binop .mul) := by
  intro S io H a b x y Q r pa pb g
  unfold binop at g
  split at g
  case h_6 i j =>
    cases pa; cases pb
    split at g
    case isFalse => exact g.elim
    case isTrue h =>
      unfold mulOk at h
      rw [Bool.or_eq_true] at h
      rcases h with h | h
      · have h2 := of_decide_eq_true h
        exact .inl ⟨_, _, rfl, rfl, h2, g.at r (.int _)⟩
      · have h2 := of_decide_eq_true h
        exact .inr (.inl ⟨_, _, rfl, rfl, h2, g.at r (.int _)⟩)
  case h_7 i k =>
    cases pb
    split at g
    case h_1 h1 =>
      split at g
      case isFalse => exact g.elim
      case isTrue h =>
        simp only [Bool.and_eq_true, decide_eq_true_eq] at h
        obtain ⟨⟨c1, c2⟩, c3⟩ := h
        obtain ⟨a1, v1, rfl, _, e1, q1⟩ := r.lst h1 pa
        exact .inr (.inr (.inl ⟨_, _, _, rfl, rfl, e1, c1, c2, by rw [← q1.length]; exact c3, Go.alloc r (q1.rep _) g⟩))
    case h_2 => exact g.elim
  case h_8 =>
    rename_i xs k hxx
    cases pb
    cases pa with
    | tup s1 q1 =>
      split at g
      case isFalse => exact g.elim
      case isTrue h =>
        simp only [Bool.and_eq_true, decide_eq_true_eq, Bool.not_eq_true', List.isEmpty_eq_false_iff] at h
        obtain ⟨⟨⟨c1, c2⟩, c3⟩, c4⟩ := h
        have hne : ∀ {vs : List V}, Reps K H io xs vs → vs ≠ [] := fun q e => by subst e; cases q; exact c1 rfl
        refine .inr (.inr (.inr ⟨_, _, _, rfl, rfl, s1.sq, hne q1, c2, c3, by rw [← q1.length]; exact c4, fun e => ?_, fun _ => Go.tuple r (q1.rep _) g⟩))
        subst e
        rw [show (1 : Int).toNat = 1 from rfl, repV_one] at g
        exact g.at r (.tup s1 q1)
  all_goals first | exact g.elim | (rename_i h; cases h) | contradiction
theorem op_fdivG {X : Cx} : OpR X (binaryOp .FloorDiv) (rI (fun _ j => j ≠ 0 ∧ j.natAbs.log2 < 9000) fun i j => .int (i.fdiv j)) := opI fun i j _ _ _ _ _ hc q =>
  PyProof.Rows.floordiv_int hc.1 q (.inl (PyProof.noPylong_of_log2 hc.2))
theorem op2_fdiv {K : PySem.W.Frag} : Op2 K (rI (fun _ j => j ≠ 0 ∧ j.natAbs.log2 < 9000) fun i j => .int (i.fdiv j)) (binop .fdiv) := by
  intro S io H a b x y Q r pa pb g
  unfold binop at g
  split at g
  case h_9 =>
    cases pa; cases pb
    split at g
    case isFalse => exact g.elim
    case isTrue h =>
      unfold divOk at h
      simp only [Bool.and_eq_true, decide_eq_true_eq] at h
      exact ⟨_, _, rfl, rfl, h, g.at r (.int _)⟩
  all_goals first | exact g.elim | (rename_i h; cases h) | contradiction
theorem op2_mod {K : PySem.W.Frag} : Op2 K (rI (fun _ j => j ≠ 0) fun i j => .int (i.fmod j)) (binop .mod) := by
  intro S io H a b x y Q r pa pb g
  unfold binop at g
  split at g
  case h_10 =>
    cases pa; cases pb
    split at g
    case isFalse => exact g.elim
    case isTrue h => exact ⟨_, _, rfl, rfl, of_decide_eq_true h, g.at r (.int _)⟩
  all_goals first | exact g.elim | (rename_i h; cases h) | contradiction
theorem op2_pow {K : PySem.W.Frag} : Op2 K (rI CPow fun i j => .int (i ^ j.toNat)) (binop .pow) := by
  intro S io H a b x y Q r pa pb g
  unfold binop at g
  split at g
  case h_11 =>
    cases pa; cases pb
    split at g
    case isFalse => exact g.elim
    case isTrue h =>
      simp only [Bool.and_eq_true, decide_eq_true_eq] at h
      exact ⟨_, _, rfl, rfl, ⟨h.1.1, h.1.2, h.2⟩, g.at r (.int _)⟩
  all_goals first | exact g.elim | (rename_i h; cases h) | contradiction
def opOk : Operator → Bo → Bool
  | .Add, .add => true
  | .Sub, .sub => true
  | .Mult, .mul => true
  | .FloorDiv, .fdiv => true
  | .Mod, .mod => true
  | .Pow, .pow => true
  | _, _ => false
theorem d_binop {X : Cx} {a b : Expr} {pos : Pos} {ma mb : Ev → Sto → Rs Val} {op : Operator} {o : Bo} (ok : opOk op o = true) (ha : PE X a (tE X.K ma)) (hb : PE X b (tE X.K mb)) :
    PE X (.BinOp a op b pos) (tE X.K fun r S => (ma r S).bind fun x S1 => (mb r S1).bind fun y S2 => binop o x y S2) := by
  unfold opOk at ok
  split at ok
  · exact d_bin OpR.addAll op2_add ha hb
  · exact d_bin op_sub op2_sub ha hb
  · exact d_bin OpR.mulAll op2_mul ha hb
  · exact d_bin op_fdivG op2_fdiv ha hb
  · exact d_bin op_modN op2_mod ha hb
  · exact d_bin op_pow op2_pow ha hb
  · exact Bool.noConfusion ok
end A46
end
section
namespace A46
open PySem PySem.Spec L2
section
variable {K : PySem.W.Frag} {H : Hp} {io : List Addr} {S : Sto}
theorem dpAll_of {n : Nat} (ih : ∀ {v : Val} {x : V} {d : PyData}, toD n S v = some d → Rep K H io v x → Dp K H x d) : ∀ {xs : List Val} {vs : List V} {ds : List PyData}, optAll (toD n S) xs = some ds → Reps K H io xs vs → DpAll K H vs ds
  | [], _, _, h, q => by cases q; cases h; exact .nil
  | x :: xs, _, _, h, q => by
    cases q with
    | cons p q =>
      unfold optAll at h
      split at h
      · cases h
      · rename_i y hy
        split at h
        · cases h
        · rename_i ys hys
          cases h
          exact .cons (ih hy p) (dpAll_of ih hys q)
theorem SRel.dp (r : SRel K H io S) : ∀ (n : Nat) {v : Val} {x : V} {d : PyData}, toD n S v = some d → Rep K H io v x → Dp K H x d
  | 0, _, _, _, h, _ => by cases h
  | n + 1, v, x, d, h, p => by
    have ih : ∀ {v : Val} {x : V} {d : PyData}, toD n S v = some d → Rep K H io v x → Dp K H x d := fun h p => r.dp n h p
    unfold toD at h
    cases v with
    | non => cases h; cases p; exact .non
    | bl b => cases h; cases p; exact .bl b
    | int b => cases h; cases p; exact .int b
    | str b => cases h; cases p; exact .str b
    | tup xs =>
      obtain ⟨ds, h1, rfl⟩ := Option.map_eq_some_iff.mp h
      cases p with
      | tup s1 q => exact .tup s1.sq (dpAll_of ih h1 q)
    | scr xs =>
      obtain ⟨ds, h1, rfl⟩ := Option.map_eq_some_iff.mp h
      cases p with
      | scr s1 q => exact .lst s1.sq (dpAll_of ih h1 q)
    | ref i =>
      simp only at h
      split at h
      · rename_i xs hx
        obtain ⟨ds, h1, rfl⟩ := Option.map_eq_some_iff.mp h
        obtain ⟨a, vs, rfl, _, e, q⟩ := r.lst hx p
        exact .lst (SqL.of e) (dpAll_of ih h1 q)
      · cases h
    | ty n => cases h
    | glo n => cases h
/-- a sequence that is read -/
theorem SRel.seq (r : SRel K H io S) {v : Val} {x : V} {xs : List Val} (h : seqOf S v = some xs) (p : Rep K H io v x) : ∃ a vs, x = .ref a ∧ Reps K H io xs vs ∧ (SqL K H a vs ∨ SqT K H a vs) := by
  unfold seqOf at h
  split at h
  · cases h; cases p with
    | tup s1 q => exact ⟨_, _, rfl, q, .inr s1.sq⟩
  · cases h; cases p with
    | scr s1 q => exact ⟨_, _, rfl, q, .inl s1.sq⟩
  · split at h
    · rename_i hx
      cases h
      obtain ⟨a, vs, rfl, _, e, q⟩ := r.lst hx p
      exact ⟨_, _, rfl, q, .inl (SqL.of e)⟩
    · cases h
  · cases h
theorem Reps.flat : ∀ {xs : List Val} {vs : List V}, Reps K H io xs vs → xs.all flat = true → vs.all flatV = true
  | _, _, .nil, _ => rfl
  | _, _, .cons p q, h => by
    rw [List.all_cons, Bool.and_eq_true] at h
    rw [List.all_cons, Bool.and_eq_true]
    refine ⟨?_, Reps.flat q h.2⟩
    cases p <;> first | rfl | exact Bool.noConfusion h.1
theorem Rep.flat {v : Val} {x : V} (p : Rep K H io v x) (h : A46.flat v = true) : flatV x = true := by
  cases p <;> first | rfl | exact Bool.noConfusion h
theorem Rep.eqF {v w : Val} {x y : V} (p : Rep K H io v x) (q : Rep K H io w y) (h : A46.flat v = true) (k : A46.flat w = true) : eqV x y = A46.eqF v w := by
  cases p <;> first | exact Bool.noConfusion h | (cases q <;> first | exact Bool.noConfusion k | rfl)
theorem Reps.memF {w : Val} {y : V} (p : Rep K H io w y) (k : A46.flat w = true) : ∀ {xs : List Val} {vs : List V}, Reps K H io xs vs → xs.all A46.flat = true → inV y vs = A46.memF w xs
  | _, _, .nil, _ => rfl
  | _, _, .cons p1 q, h => by
    rw [List.all_cons, Bool.and_eq_true] at h
    have e := Reps.memF p k q h.2
    unfold inV at e ⊢
    unfold A46.memF at e ⊢
    rw [List.any_cons, List.any_cons, e, p1.eqF p h.1 k]
end
theorem rel_isN {K : PySem.W.Frag} {H : Hp} {io : List Addr} {v : Val} {x : V} (p : Rep K H io v x) : decide (x = .non) = (match v with | .non => true | _ => false) := by
  cases p <;> rfl
abbrev rEqA (K : PySem.W.Frag) : R2 := rEqD K
theorem dec_str {i j : Str} : decide (V.str i = V.str j) = (i == j) := by
  rw [Bool.eq_iff_iff]
  simp
theorem op2_eq {K : PySem.W.Frag} : Op2 K (orR (rEqD K) rEq) (cmpop .eq) := by
  intro S io H a b x y Q r pa pb g
  simp only [cmpop, eqDeep] at g
  split at g
  · cases pa
    cases pb
    refine .inr ⟨rfl, ?_⟩
    rw [dec_str]
    exact g.at r (.bl _)
  · unfold eqTree at g
    split at g
    · rename_i d e hd he
      split at g
      · rename_i ok
        rw [Bool.and_eq_true] at ok
        exact .inl ⟨d, e, r.dp _ hd pa, r.dp _ he pb, ok.1, ok.2, g.at r (.bl _)⟩
      · exact g.elim
    · exact g.elim
theorem op2_ne {K : PySem.W.Frag} : Op2 K (orR (rNeD K) rNe) (cmpop .ne) := by
  intro S io H a b x y Q r pa pb g
  simp only [cmpop, eqDeep] at g
  split at g
  · cases pa
    cases pb
    refine .inr ⟨rfl, ?_⟩
    rw [dec_str]
    exact g.at r (.bl _)
  · unfold eqTree at g
    split at g
    · rename_i d e hd he
      split at g
      · rename_i ok
        rw [Bool.and_eq_true] at ok
        exact .inl ⟨d, e, r.dp _ hd pa, r.dp _ he pb, ok.1, ok.2, g.at r (.bl _)⟩
      · exact g.elim
    · exact g.elim
abbrev rLtS : R2 := fun x y H Q => ∃ i j, x = .str i ∧ y = .str j ∧ Q (.bl (decide (i.cps.toList < j.cps.toList))) H
abbrev rLeS : R2 := fun x y H Q => ∃ i j, x = .str i ∧ y = .str j ∧ Q (.bl (!decide (j.cps.toList < i.cps.toList))) H
theorem op2_lt {K : PySem.W.Frag} : Op2 K (orR (rI0 fun i j => .bl (decide (i < j))) rLtS) (cmpop .lt) := by
  intro S io H a b x y Q r pa pb g
  simp only [cmpop] at g
  split at g
  · cases pa; cases pb; exact .inl ⟨_, _, rfl, rfl, g.at r (.bl _)⟩
  · cases pa; cases pb; exact .inr ⟨_, _, rfl, rfl, g.at r (.bl _)⟩
  · exact g.elim
theorem strLe_eq (a b : Str) : strLe a b = !decide (b.cps.toList < a.cps.toList) := by
  unfold strLe
  by_cases h : b.cps.toList < a.cps.toList
  · rw [decide_eq_true h, decide_eq_false (List.not_le.mpr h)]; rfl
  · rw [decide_eq_false h, decide_eq_true (List.not_lt.mp h)]; rfl
theorem op2_le {K : PySem.W.Frag} : Op2 K (orR (rI0 fun i j => .bl (decide (i ≤ j))) rLeS) (cmpop .le) := by
  intro S io H a b x y Q r pa pb g
  simp only [cmpop] at g
  split at g
  · cases pa; cases pb; exact .inl ⟨_, _, rfl, rfl, g.at r (.bl _)⟩
  · cases pa; cases pb; exact .inr ⟨_, _, rfl, rfl, by rw [← strLe_eq]; exact g.at r (.bl _)⟩
  · exact g.elim
theorem op2_gt {K : PySem.W.Frag} : Op2 K (rI0 fun i j => .bl (decide (j < i))) (cmpop .gt) := by
  intro S io H a b x y Q r pa pb g
  simp only [cmpop] at g
  split at g
  · cases pa; cases pb; exact ⟨_, _, rfl, rfl, g.at r (.bl _)⟩
  · exact g.elim
theorem op2_ge {K : PySem.W.Frag} : Op2 K (rI0 fun i j => .bl (decide (j ≤ i))) (cmpop .ge) := by
  intro S io H a b x y Q r pa pb g
  simp only [cmpop] at g
  split at g
  · cases pa; cases pb; exact ⟨_, _, rfl, rfl, g.at r (.bl _)⟩
  · exact g.elim
abbrev rInS (n : Bool) : R2 := fun x y H Q => ∃ i j, x = .str i ∧ y = .str j ∧ Q (.bl (if n then !(!(Builtin.Str.occurrences j i 0 j.length 1).isEmpty) else !(Builtin.Str.occurrences j i 0 j.length 1).isEmpty)) H
theorem op2_mem {K : PySem.W.Frag} : Op2 K (orR (rInS false) (rIn K false)) (cmpop .mem) := by
  intro S io H a b x y Q r pa pb g
  simp only [cmpop] at g
  split at g
  · cases pa; cases pb; exact .inl ⟨_, _, rfl, rfl, g.at r (.bl _)⟩
  · split at g
    · rename_i ys hy
      split at g
      · rename_i ok
        rw [Bool.and_eq_true] at ok
        obtain ⟨p, vs, rfl, q, hs⟩ := r.seq hy pb
        exact .inr ⟨p, vs, rfl, hs, pa.flat ok.1, q.flat ok.2, by rw [if_neg Bool.false_ne_true, q.memF pa ok.1 ok.2]; exact g.at r (.bl _)⟩
      · exact g.elim
    · exact g.elim
theorem op2_nmem {K : PySem.W.Frag} : Op2 K (orR (rInS true) (rIn K true)) (cmpop .nmem) := by
  intro S io H a b x y Q r pa pb g
  simp only [cmpop] at g
  split at g
  · cases pa; cases pb; exact .inl ⟨_, _, rfl, rfl, g.at r (.bl _)⟩
  · split at g
    · rename_i ys hy
      split at g
      · rename_i ok
        rw [Bool.and_eq_true] at ok
        obtain ⟨p, vs, rfl, q, hs⟩ := r.seq hy pb
        exact .inr ⟨p, vs, rfl, hs, pa.flat ok.1, q.flat ok.2, by rw [if_pos rfl, q.memF pa ok.1 ok.2]; exact g.at r (.bl _)⟩
      · exact g.elim
    · exact g.elim
theorem Rs.assoc {α β γ : Type} (m : Rs α) (f : α → Sto → Rs β) (h : β → Sto → Rs γ) : (m.bind f).bind h = m.bind fun x S => (f x S).bind h := by cases m <;> rfl
/-- one comparison: its rule and what the store says -/
def cmpOk : CmpOp → Co → Bool
  | .Eq, .eq => true
  | .NotEq, .ne => true
  | .Lt, .lt => true
  | .LtE, .le => true
  | .Gt, .gt => true
  | .GtE, .ge => true
  | .In, .mem => true
  | .NotIn, .nmem => true
  | _, _ => false
theorem cmp_rule {X : Cx} (hu : X.A.units + 64 < cLine) {op : CmpOp} {o : Co} (ok : cmpOk op o = true) : ∃ r, OpR X (compareOp op) r ∧ Op2 X.K r (cmpop o) := by
  unfold cmpOk at ok
  split at ok
  · exact ⟨_, .or (op_eqD hu) op_eq, op2_eq⟩
  · exact ⟨_, .or (op_neD hu) op_ne, op2_ne⟩
  · exact ⟨_, .or op_lt op_lt_str, op2_lt⟩
  · exact ⟨_, .or op_le op_le_str, op2_le⟩
  · exact ⟨_, op_gt, op2_gt⟩
  · exact ⟨_, op_ge, op2_ge⟩
  · exact ⟨_, .or op_in_str op_in_seq, op2_mem⟩
  · exact ⟨_, .or op_notin_str op_notIn_seq, op2_nmem⟩
  · exact Bool.noConfusion ok
section
variable {X : Cx} {a b c : Expr} {pos : Pos} {ma mb mc : Ev → Sto → Rs Val}
theorem d_cmp (hu : X.A.units + 64 < cLine) {op : CmpOp} {o : Co} (ok : cmpOk op o = true) (hm : behindInMarks op b = false) (ha : PE X a (tE X.K ma)) (hb : PE X b (tE X.K mb)) :
    PE X (.Compare a [op] [b] pos) (tE X.K fun r S => (ma r S).bind fun x S1 => (mb r S1).bind fun y S2 => cmpop o x y S2) := by
  obtain ⟨r, h1, h2⟩ := cmp_rule hu ok
  refine PE.imp' (pe_cmpR h1 ha hb hm) fun σ H Q ⟨r, S, io, e, q, g⟩ => ?_
  refine ⟨r, S, io, e, q, Go.imp g.bind fun x H1 ⟨v, S1, io1, t1, q1, p1, g1⟩ => ?_⟩
  refine ⟨r, S1, io1, e.mono q t1, q1, Go.imp g1.bind fun y H2 ⟨w, S2, io2, t2, q2, p2, g2⟩ => ?_⟩
  exact h2 S2 io2 H2 v w x y Q q2 (p1.mono q1 t2) p2 g2
/-- a comparison gives a truth -/
theorem cmpop_bl {o : Co} {v w : Val} {S S' : Sto} {z : Val} (h : cmpop o v w S = .ok z S') : ∃ k, z = .bl k := by
  have aux : ∀ {f : Bool → Bool} {u : Option Bool}, Rs.of (u.map fun b => Val.bl (f b)) S = .ok z S' → ∃ k, z = .bl k := fun {f u} h => by
    cases u with
    | none => cases h
    | some b => cases h; exact ⟨_, rfl⟩
  cases o <;> simp only [cmpop] at h
  · exact aux (f := fun b => b) h
  · exact aux (f := fun b => !b) h
  all_goals (repeat' split at h) <;> first | (cases h; exact ⟨_, rfl⟩) | cases h
theorem t_cmp (hu : X.A.units + 64 < cLine) {op : CmpOp} {o : Co} (ok : cmpOk op o = true) (hm : behindInMarks op b = false) (ha : PE X a (tE X.K ma)) (hb : PE X b (tE X.K mb)) :
    PT X (.Compare a [op] [b] pos) (tB' X.K fun r S => ((ma r S).bind fun x S1 => (mb r S1).bind fun y S2 => cmpop o x y S2).bind fun z S3 => tst S3 z) := by
  obtain ⟨rr, h1, h2⟩ := cmp_rule hu ok
  refine PT.imp' (pt_cmpR h1 ha hb hm) fun σ H Q ⟨r, S, io, e, q, g⟩ => ?_
  dsimp only at g
  rw [Rs.assoc] at g
  refine ⟨r, S, io, e, q, Go.imp g.bind fun x H1 ⟨v, S1, io1, t1, q1, p1, g1⟩ => ?_⟩
  rw [Rs.assoc] at g1
  refine ⟨r, S1, io1, e.mono q t1, q1, Go.imp g1.bind fun y H2 ⟨w, S2, io2, t2, q2, p2, g2⟩ => ?_⟩
  refine h2 S2 io2 H2 v w x y _ q2 (p1.mono q1 t2) p2 ?_
  cases hc : cmpop o v w S2 with
  | no => rw [hc] at g2; exact g2
  | ok z S3 =>
    obtain ⟨k, rfl⟩ := cmpop_bl hc
    rw [hc] at g2
    intro H' io' b t3 q3 p3
    cases p3
    exact ⟨k, rfl, (Go.later t3 g2).at q3 rfl⟩
theorem d_isN {j : Nat} {pos' : Pos} (ha : PE X a (tE X.K ma)) : PE X (.Compare a [.Is] [.Constant .none j pos'] pos) (tE X.K fun r S => (ma r S).bind fun x S1 => (Rs.ok Val.non S1).bind fun y S2 => cmpop .isN x y S2) := by
  refine PE.imp' (pe_cmpR op_isN ha pe_non (nomark _)) fun σ H Q ⟨r, S, io, e, q, g⟩ => ?_
  refine ⟨r, S, io, e, q, Go.imp g.bind fun x H1 ⟨v, S1, io1, t1, q1, p1, g1⟩ => ⟨rfl, ?_⟩⟩
  rw [rel_isN p1]
  simp only [Rs.bind_ok, cmpop] at g1
  cases v <;> exact g1.at q1 (.bl _)
theorem d_notN {j : Nat} {pos' : Pos} (ha : PE X a (tE X.K ma)) : PE X (.Compare a [.IsNot] [.Constant .none j pos'] pos) (tE X.K fun r S => (ma r S).bind fun x S1 => (Rs.ok Val.non S1).bind fun y S2 => cmpop .notN x y S2) := by
  refine PE.imp' (pe_cmpR op_notN ha pe_non (nomark _)) fun σ H Q ⟨r, S, io, e, q, g⟩ => ?_
  refine ⟨r, S, io, e, q, Go.imp g.bind fun x H1 ⟨v, S1, io1, t1, q1, p1, g1⟩ => ⟨rfl, ?_⟩⟩
  rw [rel_isN p1]
  simp only [Rs.bind_ok, cmpop] at g1
  cases v <;> exact g1.at q1 (.bl _)
theorem t_isN {j : Nat} {pos' : Pos} (ha : PE X a (tE X.K ma)) : PT X (.Compare a [.Is] [.Constant .none j pos'] pos) (tB' X.K fun r S => ((ma r S).bind fun x S1 => (Rs.ok Val.non S1).bind fun y S2 => cmpop .isN x y S2).bind fun z S3 => tst S3 z) := by
  refine PT.imp' (pt_cmpR op_isN ha pe_non (nomark _)) fun σ H Q ⟨r, S, io, e, q, g⟩ => ?_
  dsimp only at g
  rw [Rs.assoc] at g
  refine ⟨r, S, io, e, q, Go.imp g.bind fun x H1 ⟨v, S1, io1, t1, q1, p1, g1⟩ => ⟨rfl, ?_⟩⟩
  refine ⟨_, rfl, ?_⟩
  rw [rel_isN p1]
  simp only [Rs.bind_ok, cmpop] at g1
  cases v <;> exact g1.at q1 rfl
theorem t_notN {j : Nat} {pos' : Pos} (ha : PE X a (tE X.K ma)) : PT X (.Compare a [.IsNot] [.Constant .none j pos'] pos) (tB' X.K fun r S => ((ma r S).bind fun x S1 => (Rs.ok Val.non S1).bind fun y S2 => cmpop .notN x y S2).bind fun z S3 => tst S3 z) := by
  refine PT.imp' (pt_cmpR op_notN ha pe_non (nomark _)) fun σ H Q ⟨r, S, io, e, q, g⟩ => ?_
  dsimp only at g
  rw [Rs.assoc] at g
  refine ⟨r, S, io, e, q, Go.imp g.bind fun x H1 ⟨v, S1, io1, t1, q1, p1, g1⟩ => ⟨rfl, ?_⟩⟩
  refine ⟨_, rfl, ?_⟩
  rw [rel_isN p1]
  simp only [Rs.bind_ok, cmpop] at g1
  cases v <;> exact g1.at q1 rfl
end
end A46
end
section
namespace A46
open PySem PySem.Spec L2
theorem SRel.tru {K : PySem.W.Frag} {H : Hp} {io : List Addr} {S : Sto} (r : SRel K H io S) {v : Val} {x : V} {k : Bool} (p : Rep K H io v x) (h : truth S v = some k) : TruV K x H k := by
  have nz : ∀ n : Nat, (n != 0) = ((n : Int) != 0) := fun n => by cases n <;> rfl
  have em : ∀ {xs : List Val} {vs : List V}, Reps K H io xs vs → (!xs.isEmpty) = !vs.isEmpty := fun q => by cases q <;> rfl
  unfold truth at h
  cases p with
  | non => cases h; rfl
  | bl b => cases h; rfl
  | int i => cases h; rfl
  | str z =>
    simp only at h
    split at h
    · rename_i hz
      cases h
      exact ⟨hz, nz _⟩
    · cases h
  | tup s1 q => cases h; exact .inr (.inl ⟨_, s1.sq, em q⟩)
  | scr s1 q => cases h; exact .inl ⟨_, s1.sq, em q⟩
  | @ref i a e =>
    simp only at h
    split at h
    · rename_i xs hx
      cases h
      obtain ⟨vs, h1, h2⟩ := r.at_ _ _ _ hx e
      exact .inl ⟨_, SqL.of h1, em h2⟩
    · rename_i kvs hx
      cases h
      obtain ⟨us, h1, h2⟩ := r.at_ _ _ _ hx e
      refine .inr (.inr ⟨us, h1, ?_⟩)
      cases kvs <;> cases us <;> first | rfl | exact h2.elim
    · cases h
  | ty n => cases h
/-- the truth of a value that is there -/
theorem Go.tst {K : PySem.W.Frag} {H : Hp} {io : List Addr} {S : Sto} {α β : Type} {R : Hp → List Addr → α → β → Prop} {f : Bool → Sto → Rs α} {Q : β → Hp → Prop} (r : SRel K H io S) {v : Val} {x : V} (p : Rep K H io v x) (g : Go K R H io ((tst S v).bind f) Q) :
    ∃ k, TruV K x H k ∧ Go K R H io (f k S) Q := by
  unfold A46.tst at g
  cases h : truth S v with
  | none => rw [h] at g; exact g.elim
  | some k => rw [h] at g; exact ⟨k, r.tru p h, g⟩
section
variable {X : Cx} {a b c : Expr} {pos : Pos} {ma mb mc : Ev → Sto → Rs Val} {rest : List Expr}
abbrev tT (K : PySem.W.Frag) (m : Ev → Sto → Rs Val) : TT := tB' K fun r S => (m r S).bind fun x S1 => tst S1 x
theorem tst_bind (S : Sto) (v : Val) : tst S v = (tst S v).bind fun b S1 => .ok b S1 := by
  unfold tst; cases truth S v <;> rfl
theorem t_truth (ha : PE X a (tE X.K ma)) (he : ∀ whole, isTrue a X.env whole = (do let v ← whole; standAt a.pos; holding [v] (truthy v))) : PT X a (tT X.K ma) := by
  refine PT.imp' (pt_truth ha he) fun σ H Q ⟨r, S, io, e, q, g⟩ => ?_
  refine ⟨r, S, io, e, q, Go.imp g.bind fun x H1 ⟨v, S1, io1, t1, q1, p1, g1⟩ => ?_⟩
  rw [tst_bind] at g1
  obtain ⟨k, hk, g2⟩ := g1.tst q1 p1
  exact ⟨k, hk, g2.at q1 rfl⟩
theorem d_not (ha : PE X a (tE X.K ma)) : PE X (.UnaryOp .Not a pos) (tE X.K fun r S => (ma r S).bind fun x S1 => (tst S1 x).bind fun b S2 => .ok (.bl (!b)) S2) := by
  refine PE.imp' (pe_notT ha) fun σ H Q ⟨r, S, io, e, q, g⟩ => ?_
  refine ⟨r, S, io, e, q, Go.imp g.bind fun x H1 ⟨v, S1, io1, t1, q1, p1, g1⟩ => ?_⟩
  obtain ⟨k, hk, g2⟩ := g1.tst q1 p1
  exact ⟨k, hk, g2.at q1 (.bl _)⟩
theorem t_not (ha : PT X a (tT X.K ma)) : PT X (.UnaryOp .Not a pos) (tT X.K fun r S => (ma r S).bind fun x S1 => (tst S1 x).bind fun b S2 => .ok (.bl (!b)) S2) := by
  refine PT.imp' (pt_not ha) fun σ H Q ⟨r, S, io, e, q, g⟩ => ?_
  refine ⟨r, S, io, e, q, ?_⟩
  dsimp only at g ⊢
  simp only [Rs.assoc] at g
  rw [← Rs.assoc] at g
  refine Go.imp g.bind fun x H1 ⟨v, S1, io1, t1, q1, p1, g1⟩ => ?_
  subst p1
  exact g1.at q1 rfl
theorem d_and (ha : PE X a (tE X.K ma)) (hb : PE X (.BoolOp .And (b :: rest) pos) (tE X.K mb)) :
    PE X (.BoolOp .And (a :: b :: rest) pos) (tE X.K fun r S => (ma r S).bind fun x S1 => (tst S1 x).bind fun c S2 => if c then mb r S2 else .ok x S2) := by
  refine PE.imp' (pe_andT ha hb) fun σ H Q ⟨r, S, io, e, q, g⟩ => ?_
  refine ⟨r, S, io, e, q, Go.imp g.bind fun x H1 ⟨v, S1, io1, t1, q1, p1, g1⟩ => ?_⟩
  obtain ⟨k, hk, g2⟩ := g1.tst q1 p1
  refine ⟨k, hk, ?_⟩
  cases k with
  | true => exact ⟨r, S1, io1, e.mono q t1, q1, g2⟩
  | false => exact g2.at q1 p1
theorem d_or (ha : PE X a (tE X.K ma)) (hb : PE X (.BoolOp .Or (b :: rest) pos) (tE X.K mb)) :
    PE X (.BoolOp .Or (a :: b :: rest) pos) (tE X.K fun r S => (ma r S).bind fun x S1 => (tst S1 x).bind fun c S2 => if c then .ok x S2 else mb r S2) := by
  refine PE.imp' (pe_orT ha hb) fun σ H Q ⟨r, S, io, e, q, g⟩ => ?_
  refine ⟨r, S, io, e, q, Go.imp g.bind fun x H1 ⟨v, S1, io1, t1, q1, p1, g1⟩ => ?_⟩
  obtain ⟨k, hk, g2⟩ := g1.tst q1 p1
  refine ⟨k, hk, ?_⟩
  cases k with
  | true => exact g2.at q1 p1
  | false => exact ⟨r, S1, io1, e.mono q t1, q1, g2⟩
theorem pw_of {op : BoolOp} {es : List Expr} {t : TT} (h : PT X (.BoolOp op es pos) t) : PW X (.BoolOp op es pos) t := ⟨fun whole pins s σ H Q I q => by
  have e : isTrue (.BoolOp op es pos) X.env whole = isTrue (.BoolOp op es pos) X.env (eval (.BoolOp op es pos) X.env) := by simp only [PySem.isTrue]
  rw [e]; exact h.run pins s σ H Q I q⟩
/-- what is behind an undecided truth -/
theorem tst_twice {S S' : Sto} {v : Val} {k : Bool} (h : tst S v = .ok k S') : S' = S ∧ tst S v = .ok k S := by
  unfold tst at h ⊢
  cases e : truth S v with
  | none => rw [e] at h; cases h
  | some j => rw [e] at h; cases h; exact ⟨rfl, rfl⟩
theorem t_and (ha : PT X a (tT X.K ma)) (hb : PT X (.BoolOp .And (b :: rest) pos) (tT X.K mb)) :
    PT X (.BoolOp .And (a :: b :: rest) pos) (tT X.K fun r S => (ma r S).bind fun x S1 => (tst S1 x).bind fun c S2 => if c then mb r S2 else .ok x S2) := by
  refine PT.imp' (PW.pt (pw_and ha (pw_of hb))) fun σ H Q ⟨r, S, io, e, q, g⟩ => ?_
  refine ⟨r, S, io, e, q, ?_⟩
  dsimp only at g ⊢
  cases hm : ma r S with
  | no => rw [hm] at g; exact g
  | ok v S1 =>
    rw [hm] at g
    simp only [Rs.bind_ok] at g ⊢
    cases ht : tst S1 v with
    | no => rw [ht] at g; exact g
    | ok k S2 =>
      obtain ⟨rfl, ht2⟩ := tst_twice ht
      rw [ht] at g
      simp only [Rs.bind_ok] at g
      intro H1 io1 b t1 q1 p1
      subst p1
      have g2 := Go.later t1 g
      cases k with
      | true => exact ⟨r, S2, io1, e.mono q t1, q1, g2⟩
      | false =>
        simp only [Bool.false_eq_true, if_false, Rs.bind_ok, ht2] at g2 ⊢
        exact g2.at q1 rfl
theorem t_or (ha : PT X a (tT X.K ma)) (hb : PT X (.BoolOp .Or (b :: rest) pos) (tT X.K mb)) :
    PT X (.BoolOp .Or (a :: b :: rest) pos) (tT X.K fun r S => (ma r S).bind fun x S1 => (tst S1 x).bind fun c S2 => if c then .ok x S2 else mb r S2) := by
  refine PT.imp' (PW.pt (pw_or ha (pw_of hb))) fun σ H Q ⟨r, S, io, e, q, g⟩ => ?_
  refine ⟨r, S, io, e, q, ?_⟩
  dsimp only at g ⊢
  cases hm : ma r S with
  | no => rw [hm] at g; exact g
  | ok v S1 =>
    rw [hm] at g
    simp only [Rs.bind_ok] at g ⊢
    cases ht : tst S1 v with
    | no => rw [ht] at g; exact g
    | ok k S2 =>
      obtain ⟨rfl, ht2⟩ := tst_twice ht
      rw [ht] at g
      simp only [Rs.bind_ok] at g
      intro H1 io1 b t1 q1 p1
      subst p1
      have g2 := Go.later t1 g
      cases k with
      | true =>
        simp only [if_true, Rs.bind_ok, ht2] at g2 ⊢
        exact g2.at q1 rfl
      | false => exact ⟨r, S2, io1, e.mono q t1, q1, g2⟩
theorem t_one {op : BoolOp} (h : PT X a (tT X.K ma)) : PT X (.BoolOp op [a] pos) (tT X.K ma) := by
  cases op with
  | And => exact PW.pt (pw_and1 h)
  | Or => exact PW.pt (pw_or1 h)
theorem d_ite (hc : PT X c (tT X.K mc)) (ha : PE X a (tE X.K ma)) (hb : PE X b (tE X.K mb)) :
    PE X (.IfExp c a b pos) (tE X.K fun r S => (mc r S).bind fun x S1 => (tst S1 x).bind fun t S2 => if t then ma r S2 else mb r S2) := by
  refine PE.imp' (pe_ifExp hc ha hb) fun σ H Q ⟨r, S, io, e, q, g⟩ => ?_
  dsimp only at g
  rw [← Rs.assoc] at g
  refine ⟨r, S, io, e, q, Go.imp g.bind fun x H1 ⟨v, S1, io1, t1, q1, p1, g1⟩ => ?_⟩
  subst p1
  cases v with
  | true => exact ⟨r, S1, io1, e.mono q t1, q1, g1⟩
  | false => exact ⟨r, S1, io1, e.mono q t1, q1, g1⟩
theorem t_ite (hc : PT X c (tT X.K mc)) (ha : PT X a (tT X.K ma)) (hb : PT X b (tT X.K mb)) :
    PT X (.IfExp c a b pos) (tT X.K fun r S => (mc r S).bind fun x S1 => (tst S1 x).bind fun t S2 => if t then ma r S2 else mb r S2) := by
  refine ⟨fun pins s σ H Q I ⟨r, S, io, e, q, g⟩ => ?_⟩
  have eq : PySem.isTrue (.IfExp c a b pos) X.env (eval (.IfExp c a b pos) X.env) = (do
    if ← PySem.isTrue c X.env (eval c X.env) then PySem.isTrue a X.env (eval a X.env) else PySem.isTrue b X.env (eval b X.env)) := by simp only [PySem.isTrue]
  rw [eq]
  have g' : Go X.K (fun _ _ a b => a = b) H io (((mc r S).bind fun x S1 => tst S1 x).bind fun t S2 => (if t then ma r S2 else mb r S2).bind fun x S1 => tst S1 x) Q := by
    rw [Rs.assoc]
    dsimp only at g
    rw [Rs.assoc] at g
    simp only [Rs.assoc] at g ⊢
    exact g
  refine wpAny_bind (thn (hc.run pins s σ H _ I ⟨r, S, io, e, q, Go.imp g'.bind fun _ _ z => z⟩) fun k s1 ⟨H1, I1, v, S1, io1, t1, q1, p1, g1⟩ => ?_)
  subst p1
  cases v with
  | true => exact ha.run pins s1 σ H1 Q I1 ⟨r, S1, io1, e.mono q t1, q1, g1⟩
  | false => exact hb.run pins s1 σ H1 Q I1 ⟨r, S1, io1, e.mono q t1, q1, g1⟩
theorem d_neg (ha : PE X a (tE X.K ma)) : PE X (.UnaryOp .USub a pos) (tE X.K fun r S => (ma r S).bind fun x S1 => match x with
    | .int i => .ok (.int (-i)) S1
    | _ => .no) := by
  refine PE.imp' (pe_un un_neg ha) fun σ H Q ⟨r, S, io, e, q, g⟩ => ?_
  refine ⟨r, S, io, e, q, Go.imp g.bind fun x H1 ⟨v, S1, io1, t1, q1, p1, g1⟩ => ?_⟩
  cases v <;> first
    | exact g1.elim
    | (cases p1; exact ⟨_, rfl, g1.at q1 (.int _)⟩)
/-- a op b op' c -/
abbrev chainM (o p : Co) (ma mb mc : Ev → Sto → Rs Val) : Ev → Sto → Rs Val := fun r S => (ma r S).bind fun x S1 => (mb r S1).bind fun y S2 => (cmpop o x y S2).bind fun z S3 => (match z with
    | .bl true => (mc r S3).bind fun w S4 => cmpop p y w S4
    | .bl false => .ok (.bl false) S3
    | _ => .no)
theorem d_chain (hu : X.A.units + 64 < cLine) {op op' : CmpOp} {o p : Co} (ok : cmpOk op o = true) (ok' : cmpOk op' p = true) (hm : lastMarks [op, op'] [b, c] = false) (ha : PE X a (tE X.K ma)) (hb : PE X b (tE X.K mb)) (hc : PE X c (tE X.K mc)) :
    PE X (.Compare a [op, op'] [b, c] pos) (tE X.K (chainM o p ma mb mc)) := by
  obtain ⟨r1, h1, h2⟩ := cmp_rule hu ok
  obtain ⟨r2, h3, h4⟩ := cmp_rule hu ok'
  refine PE.imp' (pe_chain h1 h3 ha hb hc hm) fun σ H Q ⟨r, S, io, e, q, g⟩ => ?_
  refine ⟨r, S, io, e, q, Go.imp g.bind fun x H1 ⟨v, S1, io1, t1, q1, p1, g1⟩ => ?_⟩
  refine ⟨r, S1, io1, e.mono q t1, q1, Go.imp g1.bind fun y H2 ⟨w, S2, io2, t2, q2, p2, g2⟩ => ?_⟩
  refine h2 S2 io2 H2 v w x y _ q2 (p1.mono q1 t2) p2 (Go.imp g2.bind fun z H3 ⟨u, S3, io3, t3, q3, p3, g3⟩ => ?_)
  cases p3 <;> first | exact g3.elim | skip
  rename_i k _
  refine ⟨k, rfl, ?_⟩
  cases k with
  | false => exact g3.at q3 (.bl _)
  | true =>
    refine ⟨r, S3, io3, (e.mono q (t1.trans (t2.trans t3))), q3, Go.imp g3.bind fun w' H4 ⟨u', S4, io4, t4, q4, p4, g4⟩ => ?_⟩
    exact h4 S4 io4 H4 w u' y w' _ q4 ((p2.mono q2 t3).mono q3 t4) p4 g4
theorem Go.bl_tst {K : PySem.W.Frag} {H : Hp} {io : List Addr} {S : Sto} {k : Bool} {Q : Bool → Hp → Prop} (r : SRel K H io S) (g : Go K (fun _ _ a b => a = b) H io (A46.tst S (.bl k)) Q) : Q k H := g.at r rfl
theorem t_chain (hu : X.A.units + 64 < cLine) {op op' : CmpOp} {o p : Co} (ok : cmpOk op o = true) (ok' : cmpOk op' p = true) (hm : lastMarks [op, op'] [b, c] = false) (ha : PE X a (tE X.K ma)) (hb : PE X b (tE X.K mb)) (hc : PE X c (tE X.K mc)) :
    PT X (.Compare a [op, op'] [b, c] pos) (tT X.K (chainM o p ma mb mc)) := by
  obtain ⟨r1, h1, h2⟩ := cmp_rule hu ok
  obtain ⟨r2, h3, h4⟩ := cmp_rule hu ok'
  refine PT.imp' (pt_chain h1 h3 ha hb hc hm) fun σ H Q ⟨r, S, io, e, q, g⟩ => ?_
  dsimp only [chainM] at g
  simp only [Rs.assoc] at g
  refine ⟨r, S, io, e, q, Go.imp g.bind fun x H1 ⟨v, S1, io1, t1, q1, p1, g1⟩ => ?_⟩
  refine ⟨r, S1, io1, e.mono q t1, q1, Go.imp g1.bind fun y H2 ⟨w, S2, io2, t2, q2, p2, g2⟩ => ?_⟩
  refine h2 S2 io2 H2 v w x y _ q2 (p1.mono q1 t2) p2 (Go.imp g2.bind fun z H3 ⟨u, S3, io3, t3, q3, p3, g3⟩ => ?_)
  cases p3 <;> first | exact g3.elim | skip
  rename_i k _
  refine ⟨k, rfl, ?_⟩
  cases k with
  | false => exact ⟨false, rfl, g3.bl_tst q3⟩
  | true =>
    simp only [Rs.assoc] at g3
    refine ⟨r, S3, io3, (e.mono q (t1.trans (t2.trans t3))), q3, Go.imp g3.bind fun w' H4 ⟨u', S4, io4, t4, q4, p4, g4⟩ => ?_⟩
    refine h4 S4 io4 H4 w u' y w' _ q4 ((p2.mono q2 t3).mono q3 t4) p4 ?_
    cases hc : cmpop p w u' S4 with
    | no => rw [hc] at g4; exact g4
    | ok z S5 =>
      obtain ⟨k, rfl⟩ := cmpop_bl hc
      rw [hc] at g4
      intro H' io' b t5 q5 p5
      cases p5
      exact ⟨k, rfl, (Go.later t5 g4).bl_tst q5⟩
end
end A46
end
section
namespace A46
open PySem PySem.Spec L2
def rIxD : R2 := fun x y H Q => ∃ a v, x = .ref a ∧ DGet H a y (some v) ∧ Q v H
theorem ix_dict {X : Cx} (hu : X.A.units + 1 < cLine) : IxR X rIxD := by
  intro value slice pins s σ H x y v u Q I rx ry h hs
  obtain ⟨a, z, rfl, g, q⟩ := h
  cases rx
  have ty := dict_typeIs I g
  unfold PyProof.Rows.subscriptTail
  refine wpAny_bind ?_
  rw [getitemInPython_of_ne ty.not_modules]
  refine wpAny_bind (wpAny_specialOf ty PySem.F.slot_dict_getitem.lookup ?_)
  have key : wpAny (model X.prog X.w) X.A (subscripted slice false (.ref a) u) (fun r s1 => wpAny (model X.prog X.w) X.A (letTemporaryGo value (.ref a) r >>= fun _ => pure r) (EP X pins σ Q) X.xe s1) X.xe s := by
    rw [hs]
    refine wpAny_operating (d_getItem hu I g ry fun w' s' I' rw' => ?_)
    exact wpAny_bind (wpAny_letTemporaryGo (wpAny_pure ⟨z, H, I', rw', q⟩))
  first
    | exact wpAny_pure (wpAny_bind key)
    | exact wpAny_bind (wpAny_pure (wpAny_bind key))
    | exact wpAny_bind key
theorem pick_eq {α : Type} (xs : List α) (i : Int) : pick xs i = atI xs i := by
  unfold pick atI
  show (match place xs.length i with | some j => xs[j]? | none => none) = _
  rw [show place xs.length i = ixN xs.length i from rfl]
  cases ixN xs.length i <;> rfl
section
variable {K : PySem.W.Frag} {H : Hp} {io : List Addr} {S : Sto}
theorem Reps.pick {xs : List Val} {vs : List V} {i : Int} {v : Val} (q : Reps K H io xs vs) (h : A46.pick xs i = some v) : ∃ x, atI vs i = some x ∧ Rep K H io v x := by
  rw [pick_eq] at h
  unfold atI at h ⊢
  rw [← q.length]
  cases e : ixN xs.length i with
  | none => rw [e] at h; cases h
  | some j => rw [e] at h; exact q.get h
theorem kvR.look {k : KeyV} {v : Val} : ∀ {kvs : List (KeyV × Val)} {us : List (Key × V)}, kvR K H io kvs us → A46.look k kvs = some v → ∃ x, valV us k = some x ∧ Rep K H io v x
  | [], [], _, h => by cases h
  | [], _ :: _, h, _ => h.elim
  | _ :: _, [], h, _ => h.elim
  | (c, w) :: r, (d, u) :: t, ⟨h1, h2, h3⟩, h => by
    unfold A46.look at h
    subst h1
    split at h
    · rename_i e
      cases h
      exact ⟨u, valV_pos e, h2⟩
    · rename_i e
      rw [valV_neg (p := (c, u)) e]
      exact kvR.look h3 h
theorem keyOf_rep {v : Val} {x : V} {k : KeyV} (h : keyOf v = some k) (p : Rep K H io v x) : x = kV k := by
  cases p <;> first | (cases h; rfl) | cases h
end
abbrev rIxAll (K : PySem.W.Frag) : R2 := fun x y H Q => rIxL K x y H Q ∨ rIxT K x y H Q ∨ rIxS x y H Q ∨ rIxD x y H Q
theorem ixAll {X : Cx} (hu : X.A.units + 1 < cLine) : IxR X (rIxAll X.K) := IxR.or ix_list (IxR.or ix_tup (IxR.or ix_str (ix_dict hu)))
theorem op2_index {K : PySem.W.Frag} : Op2 K (rIxAll K) A46.index := by
  intro S io H a b x y Q r pa pb g
  unfold A46.index at g
  have of_ : ∀ {o : Option Val}, Go K (Rep K) H io (Rs.of o S) Q → ∃ v, o = some v ∧ ∀ z, Rep K H io v z → Q z H := fun {o} g => by
    cases o with
    | none => exact g.elim
    | some v => exact ⟨v, rfl, fun z p => g.at r p⟩
  split at g
  · cases pb
    obtain ⟨v, h, w⟩ := of_ g
    cases pa with
    | tup s1 q =>
      obtain ⟨z, h1, h2⟩ := q.pick h
      exact .inr (.inl ⟨_, _, _, z, rfl, rfl, s1.sq, h1, w z h2⟩)
  · cases pb
    obtain ⟨v, h, w⟩ := of_ g
    cases pa with
    | scr s1 q =>
      obtain ⟨z, h1, h2⟩ := q.pick h
      exact .inl ⟨_, _, _, z, rfl, rfl, s1.sq, h1, w z h2⟩
  · cases pb; cases pa
    split at g
    · rename_i hz
      obtain ⟨v, h, w⟩ := of_ g
      obtain ⟨c, h1, rfl⟩ := Option.map_eq_some_iff.mp h
      rw [pick_eq] at h1
      exact .inr (.inr (.inl ⟨_, _, c, rfl, rfl, hz, h1, w _ (.str _)⟩))
    · exact g.elim
  · split at g
    · rename_i hx
      cases pb
      obtain ⟨v, h, w⟩ := of_ g
      obtain ⟨a1, vs, rfl, _, e, q⟩ := r.lst hx pa
      obtain ⟨z, h1, h2⟩ := q.pick h
      exact .inl ⟨_, _, _, z, rfl, rfl, SqL.of e, h1, w z h2⟩
    · rename_i hx
      split at g
      · rename_i k hk
        obtain ⟨v, h, w⟩ := of_ g
        obtain ⟨a1, us, rfl, _, e, q⟩ := r.dct hx pa
        obtain ⟨z, h1, h2⟩ := q.look h
        have ey := keyOf_rep hk pb
        subst ey
        exact .inr (.inr (.inr ⟨a1, z, rfl, by rw [← h1]; exact DGet.k e, w z h2⟩))
      · exact g.elim
    · exact g.elim
  · exact g.elim
section
variable {X : Cx} {a b c : Expr} {pos p2 : Pos} {ma mb mc : Ev → Sto → Rs Val} {es : List Expr}
theorem d_idx (hu : X.A.units + 1 < cLine) (hs : PlainIx b) (ha : PE X a (tE X.K ma)) (hb : PE X b (tE X.K mb)) :
    PE X (.Subscript a b pos) (tE X.K fun r S => (ma r S).bind fun x S1 => (mb r S1).bind fun y S2 => A46.index x y S2) := by
  refine PE.imp' (pe_ix (ixAll hu) ha hb hs) fun σ H Q ⟨r, S, io, e, q, g⟩ => ?_
  refine ⟨r, S, io, e, q, Go.imp g.bind fun x H1 ⟨v, S1, io1, t1, q1, p1, g1⟩ => ?_⟩
  refine ⟨r, S1, io1, e.mono q t1, q1, Go.imp g1.bind fun y H2 ⟨w, S2, io2, t2, q2, p2, g2⟩ => ?_⟩
  exact op2_index S2 io2 H2 v w x y Q q2 (p1.mono q1 t2) p2 g2
/-- a slice's part -/
theorem PO.imp' {e : Option Expr} {t t' : TO} (h : PO X e t) (w : ∀ σ H Q, t' σ H Q → t σ H Q) : PO X e t' := ⟨fun pins s σ H Q I q => h.run pins s σ H Q I (w σ H Q q)⟩
theorem o_none : PO X none (tO X.K fun _ S => .ok none S) := PO.imp' po_none fun σ H Q ⟨r, S, io, e, q, g⟩ => g.at q rfl
theorem o_some (ha : PE X a (tE X.K ma)) : PO X (some a) (tO X.K fun r S => (ma r S).bind fun x S1 => match x with
    | .int i => .ok (some i) S1
    | _ => .no) := by
  refine PO.imp' (po_some ha) fun σ H Q ⟨r, S, io, e, q, g⟩ => ?_
  refine ⟨r, S, io, e, q, Go.imp g.bind fun x H1 ⟨v, S1, io1, t1, q1, p1, g1⟩ => ?_⟩
  cases v <;> first
    | exact g1.elim
    | (cases p1; exact ⟨_, rfl, g1.at q1 rfl⟩)
theorem Reps.cut {K : PySem.W.Frag} {H : Hp} {io : List Addr} {xs : List Val} {vs : List V} (q : Reps K H io xs vs) (lo hi : Option Int) : Reps K H io (A46.cut xs lo hi) (cutV vs lo hi) := by
  unfold A46.cut cutV
  rw [← q.length]
  exact (q.drop _).take _
theorem cut_whole {xs : List Val} {lo hi : Option Int} (h : bound xs.length 0 lo = 0) (k : bound xs.length xs.length hi = xs.length) : A46.cut xs lo hi = xs := by
  unfold A46.cut; rw [h, k]; simp
def rSlF (K : PySem.W.Frag) : V → Option Int → Option Int → Hp → VK → Prop := fun x lo hi H Q => ∃ a xs, x = .ref a ∧ SqT K H a xs ∧
  (HT.sIx xs.length 0 lo = 0 ∧ HT.sIx xs.length xs.length hi = xs.length → Q (.ref a) H) ∧ (¬ (HT.sIx xs.length 0 lo = 0 ∧ HT.sIx xs.length xs.length hi = xs.length) → ∀ (p : Addr) (ob : Obj), ob.dict = none → H p = none → Q (.ref p) (upd H p (.frz ob (.tup (cutV xs lo hi)))))
theorem sl_tupF : SlR X (rSlF X.K) := by
  intro pins s σ H x v vl vu lo hi sl Q I rx hs pl pu h
  obtain ⟨a, xs, rfl, hx, q1, q2⟩ := h
  by_cases hw : HT.sIx xs.length 0 lo = 0 ∧ HT.sIx xs.length xs.length hi = xs.length
  · exact sl_tupA pins s σ H _ v vl vu lo hi sl Q I rx hs pl pu ⟨a, xs, rfl, hx, q1, fun z => absurd hw z⟩
  · cases rx
    obtain ⟨its, r, ht, hz⟩ := I.tuple hx
    have hlen : its.toArray.size = xs.length := by rw [List.size_toArray]; exact r.length.symm
    refine ⟨"tuple", _, PyProof.Rows.slot_tuple_getitem.lookup, ht.typeIs, ?_⟩
    refine HT.getItem_tuple_cut ht hs pl pu (by rw [hlen]; exact hw) ?_ (by rw [hlen]; exact hz)
    rw [hlen]
    exact laidT I ((r.drop _).take _) (Nat.le_trans (cutV_length xs lo hi) hz) (q2 hw)
abbrev rSlAll (K : PySem.W.Frag) : V → Option Int → Option Int → Hp → VK → Prop := fun x lo hi H Q => rSlF K x lo hi H Q ∨ rSlS x lo hi H Q ∨ rSlL K x lo hi H Q
theorem slAll : SlR X (rSlAll X.K) := SlR.or sl_tupF (SlR.or sl_str sl_list)
theorem d_sl {lo hi : Option Expr} {ml mh : Ev → Sto → Rs (Option Int)} (ha : PE X a (tE X.K ma)) (hl : PO X lo (tO X.K ml)) (hh : PO X hi (tO X.K mh)) :
    PE X (.Subscript a (.Slice lo hi none p2) pos) (tE X.K fun r S => (ma r S).bind fun x S1 => (ml r S1).bind fun l S2 => (mh r S2).bind fun h S3 => A46.slice x l h S3) := by
  refine PE.imp' (pe_slice slAll ha hl hh) fun σ H Q ⟨r, S, io, e, q, g⟩ => ?_
  refine ⟨r, S, io, e, q, Go.imp g.bind fun x H1 ⟨v, S1, io1, t1, q1, p1, g1⟩ => ?_⟩
  refine ⟨r, S1, io1, e.mono q t1, q1, Go.imp g1.bind fun l H2 ⟨l', S2, io2, t2, q2, e2, g2⟩ => ?_⟩
  refine ⟨r, S2, io2, (e.mono q (t1.trans t2)), q2, Go.imp g2.bind fun h H3 ⟨h', S3, io3, t3, q3, e3, g3⟩ => ?_⟩
  subst e2; subst e3
  have p := (p1.mono q1 (t2.trans t3))
  unfold A46.slice at g3
  split at g3
  · cases p with
    | tup s1 qs =>
      refine .inl ⟨_, _, rfl, s1.sq, fun hw => ?_, fun _ => Go.tuple q3 (qs.cut _ _) g3⟩
      rw [← qs.length] at hw
      rw [cut_whole hw.1 hw.2] at g3
      exact g3.at q3 (.tup s1 qs)
  · cases p
    split at g3
    · rename_i hz
      refine .inr (.inl ⟨_, rfl, hz, ?_⟩)
      have el : ∀ z : Str, z.cps.toList.length = z.length := fun z => by simp [Str.length]
      have := g3.at q3 (.str _)
      unfold A46.cut at this
      rw [el] at this
      exact this
    · exact g3.elim
  · cases p with
    | scr s1 qs => exact .inr (.inr ⟨_, _, rfl, s1.sq, Go.alloc q3 (qs.cut _ _) g3⟩)
  · split at g3
    · rename_i hx
      obtain ⟨a1, vs, rfl, _, e1, qs⟩ := q3.lst hx p
      exact .inr (.inr ⟨_, _, rfl, SqL.of e1, Go.alloc q3 (qs.cut _ _) g3⟩)
    · exact g3.elim
  · exact g3.elim
theorem a_nil : PA X [] (tA X.K fun _ S => .ok [] S) := PA.imp' pa_nil fun σ H Q ⟨r, S, io, e, q, g⟩ => g.at q .nil
theorem a_cons {mt : Ev → Sto → Rs (List Val)} (hns : ∀ e p, a ≠ .Starred e p) (ha : PE X a (tE X.K ma)) (hr : PA X es (tA X.K mt)) :
    PA X (a :: es) (tA X.K fun r S => (ma r S).bind fun x S1 => (mt r S1).bind fun xs S2 => .ok (x :: xs) S2) := by
  have hs : starEach (a :: es) X.env = (false, eval a X.env) :: starEach es X.env := by
    cases a <;> first | rfl | exact absurd rfl (hns _ _)
  refine PA.imp' (pa_cons ha hr hs) fun σ H Q ⟨r, S, io, e, q, g⟩ => ?_
  refine ⟨r, S, io, e, q, Go.imp g.bind fun x H1 ⟨v, S1, io1, t1, q1, p1, g1⟩ => ?_⟩
  refine ⟨r, S1, io1, e.mono q t1, q1, Go.imp g1.bind fun xs H2 ⟨w, S2, io2, t2, q2, p2, g2⟩ => ?_⟩
  exact g2.at q2 (.cons (p1.mono q1 t2) p2)
theorem a_star {mt : Ev → Sto → Rs (List Val)} {p : Pos} (hc : X.calm = true) (ha : PE X a (tE X.K ma)) (hr : PA X es (tA X.K mt)) :
    PA X (.Starred a p :: es) (tA X.K fun r S => (ma r S).bind fun x S1 => match seqOf S1 x with
      | some ys => (mt r S1).bind fun xs S2 => .ok (ys ++ xs) S2
      | none => .no) := by
  refine PA.imp' (StX.pa_star ha hr) fun σ H Q ⟨r, S, io, e, q, g⟩ => ?_
  refine ⟨r, S, io, e, q, Go.imp g.bind fun x H1 ⟨v, S1, io1, t1, q1, p1, g1⟩ => ?_⟩
  split at g1
  · rename_i ys hy
    obtain ⟨p, vs, rfl, qs, hv⟩ := q1.seq hy p1
    refine ⟨p, vs, rfl, hv.symm, r, S1, io1, e.mono q t1, q1, Go.imp g1.bind fun xs H2 ⟨w, S2, io2, t2, q2, p2, g2⟩ => ?_⟩
    exact g2.at q2 ((qs.mono q1 t2).append p2)
  · exact g1.elim
theorem pe_tupF {es : List Expr} {t : TA} {x1 : Nat} (h : PA X es t) : PE X (.Tuple es x1 pos) (fun σ H Q => t σ H fun xs H1 => xs.length ≤ sizeLine ∧ ∀ (p : Addr) (ob : Obj), ob.dict = none → H1 p = none → Q (.ref p) (upd H1 p (.frz ob (.tup xs)))) := by
  refine ⟨fun pins s σ H Q I hq => ?_⟩
  exact wpAny_Tuple_spliced (thn (h.run pos pins s σ H _ I hq) fun us s1 ⟨xs, H1, I1, r, z, q⟩ => ⟨by rw [← r.length]; exact z, laidT I1 r z q⟩)
theorem d_tup {x1 : Nat} {mt : Ev → Sto → Rs (List Val)} (hr : PA X es (tA X.K mt)) : PE X (.Tuple es x1 pos) (tE X.K fun r S => (mt r S).bind fun xs S1 => if xs.length ≤ lim then .ok (.tup xs) S1 else .no) := by
  refine PE.imp' (pe_tupF hr) fun σ H Q ⟨r, S, io, e, q, g⟩ => ?_
  refine ⟨r, S, io, e, q, Go.imp g.bind fun x H1 ⟨v, S1, io1, t1, q1, p1, g1⟩ => ?_⟩
  split at g1
  · rename_i h
    exact ⟨by rw [← p1.length]; exact h, Go.tuple q1 p1 g1⟩
  · exact g1.elim
theorem d_lst {mt : Ev → Sto → Rs (List Val)} (hr : PA X es (tA X.K mt)) : PE X (.List es pos) (tE X.K fun r S => (mt r S).bind fun xs S1 => if xs.length ≤ lim then alloc (.lst xs) S1 else .no) := by
  refine PE.imp' (pe_lst hr) fun σ H Q ⟨r, S, io, e, q, g⟩ => ?_
  refine ⟨r, S, io, e, q, Go.imp g.bind fun x H1 ⟨v, S1, io1, t1, q1, p1, g1⟩ => ?_⟩
  split at g1
  · rename_i h
    exact ⟨by rw [← p1.length]; exact h, Go.alloc q1 p1 g1⟩
  · exact g1.elim
theorem d_var {i : Nat} {x : Str} (hN : X.N[i]? = some x) (hv : Vis X.env.scope x) (hd : (x == ("__debug__" : Str)) = false) (hcd : (x == ("__classdict__" : Str)) = false) :
    PE X (.Name x pos) (tE X.K fun r S => match r[i]? with
      | some (some v) => .ok v S
      | _ => .no) := by
  refine PE.imp' (pe_var hN hv hd hcd) fun σ H Q ⟨r, S, io, e, q, g⟩ => ?_
  dsimp only at g
  split at g
  · rename_i v h
    obtain ⟨y, h1, h2⟩ := e.2 i v h
    exact ⟨y, h1, g.at q h2⟩
  · exact g.elim
theorem d_int {i : Int} {j : Nat} : PE X (.Constant (.int i) j pos) (tE X.K fun _ S => .ok (.int i) S) := PE.imp' pe_int fun σ H Q ⟨r, S, io, e, q, g⟩ => g.at q (.int _)
theorem d_bool {i : Bool} {j : Nat} : PE X (.Constant (.bool i) j pos) (tE X.K fun _ S => .ok (.bl i) S) := PE.imp' pe_bl fun σ H Q ⟨r, S, io, e, q, g⟩ => g.at q (.bl _)
theorem d_none {j : Nat} : PE X (.Constant .none j pos) (tE X.K fun _ S => .ok .non S) := PE.imp' pe_non fun σ H Q ⟨r, S, io, e, q, g⟩ => g.at q .non
theorem d_str {i : Str} {j : Nat} : PE X (.Constant (.str i) j pos) (tE X.K fun _ S => .ok (.str i) S) := PE.imp' pe_str fun σ H Q ⟨r, S, io, e, q, g⟩ => g.at q (.str _)
end
end A46
end
section
namespace A46
open PySem PySem.Spec L2
/-- what a def of the store's reading promises -/
def spOf (K : PySem.W.Frag) (n : Nat) (f : List Val → Sto → Rs Val) : Sp := fun vs H Q _ => ∃ xs S io, xs.length = n ∧ Reps K H io xs vs ∧ SRel K H io S ∧ Go K (Rep K) H io (f xs S) Q
/-- a def that keeps its promise wherever no repr is under way -/
structure FnG (P : Program) (w : World) (K : PySem.W.Frag) (mg : Str → Option Value) (base : Heap) (k : Nat) (f : Addr) (fd : FuncData) (ps : List Str) (sp : Sp) : Prop where
  len : ∀ vs H Q E, sp vs H Q E → vs.length = ps.length
  run : ∀ (A : Around) (outer : List Env) (s : Shared) (H : Hp) (args : Args) (us : List Value) (vs : List V) (Q : VK) (E : XK), Room k A → A.guards = some [] →
    Env0 P w K mg base A outer s H → BindsTo s fd args (ps.zip us) → Vals vs us → sp vs H Q E → codeAny (model P w) A (.call (.ref f) args) (CR CX0 outer P w H s Q E) s
section
variable {X : Cx} {k : Nat} {f : Addr} {fd : FuncData} {ps : List Str} {sp : Sp} {x : Str} {p pos : Pos} {e : Expr} {es : List Expr}
theorem g_run {pins : List (Addr × Obj)} {σ : St} {H : Hp} {s : Shared} {Q : VK} {us : List Value} {vs : List V} (G : FnG X.prog X.w X.K X.mg X.base k f fd ps sp) (hr : Room k X.A) (hg : X.A.guards = some []) (hb : Binds X.K fd ps [])
    (I : L2.Inv X pins σ H s) (r : Vals vs us) (h : sp vs H Q E0) : wpAny (model X.prog X.w) X.A (call (.ref f) us) (EP X pins σ Q) X.xe s := by
  have hl : (us ++ ([] : List Value)).length = ps.length := by rw [List.append_nil, ← r.length]; exact G.len _ _ _ _ h
  have b := hb s us I.kIn hl
  rw [List.append_nil] at b
  refine wpAny_call (codeAny_mono (G.run X.A X.stack s H ⟨us, []⟩ us vs Q E0 hr hg I.env0 b r h) fun z s' hz => ?_)
  cases z with
  | error c => exact hz.elim
  | ok fl =>
    cases fl with
    | ret c => exact I.after hz
    | next => exact hz.elim
    | brk => exact hz.elim
    | cont => exact hz.elim
def noStars : List Expr → Bool
  | [] => true
  | .Starred _ _ :: _ => false
  | _ :: r => noStars r
theorem noStars_cons (h : noStars (e :: es) = true) : (∀ a p, e ≠ .Starred a p) ∧ noStars es = true := by
  refine ⟨fun a p z => ?_, ?_⟩
  · subst z; exact Bool.noConfusion h
  · cases e <;> first | exact h | exact Bool.noConfusion h
theorem star_cons (env : Env) (h : ∀ a p, e ≠ .Starred a p) : starEach (e :: es) env = (false, eval e env) :: starEach es env := by
  cases e <;> first | rfl | exact absurd rfl (h _ _)
theorem star_any (env : Env) (pos : Pos) : ∀ {es : List Expr}, noStars es = true → (backTo pos (starEach es env)).any (·.1) = false
  | [], _ => rfl
  | e :: es, h => by
    obtain ⟨h1, h2⟩ := noStars_cons h
    rw [star_cons env h1]
    have ih := star_any env pos h2
    unfold backTo at ih ⊢
    rw [List.map_cons, List.any_cons, ih]
    rfl
/-- f(e, ..) -/
theorem d_call {F : List Val → Sto → Rs Val} {n : Nat} {mt : Ev → Sto → Rs (List Val)} (G : FnG X.prog X.w X.K X.mg X.base k f fd ps (spOf X.K n F)) (hr : Room k X.A) (hg : X.A.guards = some []) (gl : Gl X x) (hm : X.mg x = some (.ref f))
    (hk : PySem.W.keepIn X.K (.ref f) = true) (hb : Binds X.K fd ps []) (hdb : (x == ("__debug__" : Str)) = false) (ns : noStars (e :: es) = true) (ha : PA X (e :: es) (tA X.K mt)) (hlen : ∀ r S xs S', mt r S = .ok xs S' → xs.length = n) :
    PE X (.Call (.Name x p) (e :: es) [] pos) (tE X.K fun r S => (mt r S).bind fun xs S1 => F xs S1) := by
  refine ⟨fun pins s σ H Q I ⟨r, S, io, er, q, g⟩ => ?_⟩
  refine wpAny_Call_Name_kw (ld_glob I gl hm ?_ hdb)
  have fin : ∀ us s1, AP X pins σ (fun vs H1 => spOf X.K n F vs H1 Q E0) us s1 → X.K.In s1.heap ∧ wpAny (model X.prog X.w) X.A (call (.ref f) ([] ++ us)) (EP X pins σ Q) X.xe s1 := fun us s1 ⟨vs, H1, I1, r1, q1⟩ => ⟨I1.kIn, g_run G hr hg hb I1 r1 q1⟩
  have arg : tA X.K mt σ H fun vs H1 => spOf X.K n F vs H1 Q E0 := by
    refine ⟨r, S, io, er, q, ?_⟩
    cases hm : mt r S with
    | no => dsimp only at g; rw [hm] at g; exact g
    | ok xs S1 =>
      dsimp only at g
      rw [hm] at g
      intro H1 io1 vs t1 q1 p1
      exact ⟨xs, S1, io1, hlen r S xs S1 hm, p1, q1, Go.later t1 g⟩
  obtain ⟨h1, h2⟩ := noStars_cons ns
  exact PySem.W.callWith_K (h₀ := X.base) I.ok.mod.kin hk (thn (ha.run pos pins s σ H _ I arg) fin) (star_cons _ h1) (star_any _ _ h2)
/-- f() -/
theorem d_call0 {F : List Val → Sto → Rs Val} (G : FnG X.prog X.w X.K X.mg X.base k f fd ps (spOf X.K 0 F)) (hr : Room k X.A) (hg : X.A.guards = some []) (gl : Gl X x) (hm : X.mg x = some (.ref f))
    (hk : PySem.W.keepIn X.K (.ref f) = true) (hb : Binds X.K fd ps []) (hdb : (x == ("__debug__" : Str)) = false) : PE X (.Call (.Name x p) [] [] pos) (tE X.K fun _ S => F [] S) := by
  refine ⟨fun pins s σ H Q I ⟨r, S, io, e, q, g⟩ => ?_⟩
  refine wpAny_Call_Name_kw (ld_glob I gl hm ?_ hdb)
  exact PySem.W.callWith_K0 I.kIn hk (g_run (us := []) (vs := []) G hr hg hb I .nil ⟨[], S, io, rfl, .nil, q, g⟩)
def tSt (K : PySem.W.Frag) (m : Ev → Sto → Rs (Fl × Ev)) : TS := fun D σ H => ∃ r S io, ERel K H io r σ ∧ SRel K H io S ∧ match m r S with
  | .ok (.nx, r') S' => ∀ H' io' σ', Stp io H io' H' → SRel K H' io' S' → ERel K H' io' r' σ' → D.nx σ' H'
  | .ok (.rt v, _) S' => ∀ H' io' x, Stp io H io' H' → SRel K H' io' S' → Rep K H' io' v x → D.rt x H'
  | .no => False
theorem erel_start {K : PySem.W.Frag} {H : Hp} {io : List Addr} {N : List Str} : ∀ {xs : List Val} {vs : List V} (n : Nat), Reps K H io xs vs → ERel K H io (xs.map some ++ List.replicate n none) (vs.map some ++ List.replicate n none) := fun {xs vs} n q => by
  refine ⟨by simp [q.length], fun i v h => ?_⟩
  by_cases hi : i < xs.length
  · rw [List.getElem?_append_left (by simpa using hi), List.getElem?_map] at h
    rw [List.getElem?_append_left (by simpa [← q.length] using hi), List.getElem?_map]
    cases e : xs[i]? with
    | none => rw [e] at h; cases h
    | some y =>
      rw [e] at h
      cases h
      obtain ⟨x, h1, h2⟩ := q.get e
      exact ⟨x, by rw [h1]; rfl, h2⟩
  · rw [List.getElem?_append_right (by simpa using hi), List.getElem?_replicate] at h
    split at h <;> cases h
theorem g_of {P : Program} {w : World} {K : PySem.W.Frag} {mg : Str → Option Value} {base : Heap} {name qual : Str} {params : Arguments} {body : List Stmt} {scope : Scope} {dV kV doc pm cdv ct oc : Value} {an od : Option Addr}
    {osl : Array (Option Value)} {N : List Str} {sp : Sp} (lk : K.lookup f = some ⟨oc, od, .func (PySem.W.fnOf name qual params body scope dV kV doc pm an cdv ct), osl⟩) (hcd : PySem.W.codeIn K cdv qual = true) (sc : FnScope N ps scope)
    (len : ∀ vs H Q E, sp vs H Q E → vs.length = ps.length)
    (hbody : ∀ (A : Around) (outer : List Env) (s : Shared) (H : Hp) (vs : List V) (Q : VK) (E : XK), Room k (A.deeper (PyProof.Rows.envOfC qual scope s.heap.objs.size f cdv)) → A.guards = some [] → sp vs H Q E →
      ∃ t, PSs (cxOf CX0 P w K mg base N qual scope f cdv A outer s H E) body t ∧ t { nx := fun _ H' => Q .non H', rt := Q } (start N vs) H) :
    FnG P w K mg base (k + 1) f (PySem.W.fnOf name qual params body scope dV kV doc pm an cdv ct) ps sp := by
  refine ⟨len, fun A outer s H args us vs Q E room gd env bnd rel want => ?_⟩
  have nps := len _ _ _ _ want
  have inK : K.In s.heap := env.mod.kin.keeps fun b o z => (env.bs b o z).1
  have free : s.heap.NoLimit := env.mod.nolimit.keeps fun b o z => (env.bs b o z).1
  have kinds : ∀ y ∈ ps.zip us, scope.names.lookup y.1 = some .local ∨ (scope.names.lookup y.1 = some .cell ∧ ((cellsFrom (s.heap.objs.size + 1) scope.names []).lookup y.1).isSome = true) := fun ⟨n, v⟩ hy => by
    rcases sc.par n (List.of_mem_zip hy).1 with z | z
    · exact .inl z
    · exact .inr ⟨z, PySem.W.cellsFrom_some _ _ _ (.inl z)⟩
  refine codeAny_call_function room.depth (inK _ _ lk) rfl sc.co sc.gen rfl (PySem.W.codeRec_of inK hcd) (bnd _ _ _ _ ?_)
  refine wpAny_newFunctionEnv_cells sc.kind kinds fun nenv he s1 inside => ?_
  subst he
  refine ⟨free.keeps inside.toInCall.keep, codeAny_func ?_⟩
  obtain ⟨t, ht, hq⟩ := hbody A outer s H vs Q E (room.deeper _) gd want
  have I : L2.Inv (cxOf CX0 P w K mg base N qual scope f cdv A outer s H E) [] (start N vs) H s1 := inv_start sc room.hd env nps rel inside
  refine wpAny_mono (ht.run [] s1 (start N vs) H _ I hq) (fun fl s' hs => ?_) fun _ _ z => z
  cases fl with
  | ret u =>
    obtain ⟨v, σ', H', J, rv, q⟩ := hs
    exact ⟨v, H', J.os, J.bare, J.base, J.hok, rv, q⟩
  | next =>
    obtain ⟨σ', H', J, q⟩ := hs
    exact ⟨V.non, H', J.os, J.bare, J.base, J.hok, rfl, q⟩
  | brk => exact hs.elim fun _ z => z.elim fun _ z => z.2.elim
  | cont => exact hs.elim fun _ z => z.elim fun _ z => z.2.elim
end
end A46
end
section
namespace A46
open PySem PySem.Spec L2
theorem ltCps_lt : ∀ a b : List Nat, ltCps a b = decide (a < b)
  | [], [] => by simp [ltCps]
  | [], _ :: _ => by simp [ltCps]
  | _ :: _, [] => by simp [ltCps]
  | a :: r, b :: t => by
    rw [ltCps, ltCps_lt r t]
    by_cases h : a < b
    · simp [h, List.cons_lt_cons_iff]
    · by_cases e : a = b
      · subst e; simp [List.cons_lt_cons_iff]
      · simp [h, e, List.cons_lt_cons_iff]
theorem strLe_iff {a b : Str} : strLe a b = true ↔ a.cps.toList ≤ b.cps.toList := by unfold strLe; exact decide_eq_true_iff
theorem strLe_refl (a : Str) : strLe a a = true := strLe_iff.mpr (List.le_refl _)
theorem strLe_trans {a b c : Str} (h : strLe a b = true) (k : strLe b c = true) : strLe a c = true := strLe_iff.mpr (List.le_trans (strLe_iff.mp h) (strLe_iff.mp k))
theorem strLe_total (a b : Str) : strLe a b = true ∨ strLe b a = true := by
  rw [strLe_iff, strLe_iff]; exact List.le_total _ _
theorem strLe_antisymm {a b : Str} (h : strLe a b = true) (k : strLe b a = true) : a = b := by
  have e := List.le_antisymm (strLe_iff.mp h) (strLe_iff.mp k)
  cases a; cases b
  simp only [Str.mk.injEq]
  exact Array.toList_inj.mp e
theorem ltCps_le {a b : Str} : ltCps b.cps.toList a.cps.toList = false ↔ strLe a b = true := by
  rw [ltCps_lt, strLe_eq, Bool.not_eq_true', decide_eq_false_iff_not]
theorem rising_pw : ∀ {p : Str} {xs : List Str}, PyProof.Rows.risingS p xs = true → (p :: xs).Pairwise fun a b => strLe a b = true
  | p, [], _ => List.pairwise_singleton _ _
  | p, x :: r, h => by
    rw [PyProof.Rows.risingS, Bool.and_eq_true, Bool.not_eq_true'] at h
    have ih := rising_pw h.2
    have hx := ltCps_le.mp h.1
    refine List.pairwise_cons.mpr ⟨fun y hy => ?_, ih⟩
    rcases List.mem_cons.mp hy with rfl | hy
    · exact hx
    · exact strLe_trans hx ((List.pairwise_cons.mp ih).1 y hy)
theorem sortedS_pw {xs : List Str} (h : PyProof.Rows.sortedS xs = true) : xs.Pairwise fun a b => strLe a b = true := by
  cases xs with
  | nil => exact .nil
  | cons x r => exact rising_pw h
theorem insS_perm (x : Str) : ∀ l : List Str, (insS x l).Perm (x :: l)
  | [] => .refl _
  | y :: r => by
    unfold insS
    split
    · exact .refl _
    · exact ((insS_perm x r).cons y).trans (.swap x y r)
theorem sortS_perm : ∀ l : List Str, (sortS l).Perm l
  | [] => .refl _
  | x :: r => (insS_perm x (sortS r)).trans ((sortS_perm r).cons x)
theorem insS_pw (x : Str) : ∀ {l : List Str}, (l.Pairwise fun a b => strLe a b = true) → (insS x l).Pairwise fun a b => strLe a b = true
  | [], _ => List.pairwise_singleton _ _
  | y :: r, h => by
    unfold insS
    split
    · rename_i hx
      refine List.pairwise_cons.mpr ⟨fun z hz => ?_, h⟩
      rcases List.mem_cons.mp hz with rfl | hz
      · exact hx
      · exact strLe_trans hx ((List.pairwise_cons.mp h).1 z hz)
    · rename_i hx
      have hy : strLe y x = true := (strLe_total x y).resolve_left hx
      obtain ⟨h1, h2⟩ := List.pairwise_cons.mp h
      refine List.pairwise_cons.mpr ⟨fun z hz => ?_, insS_pw x h2⟩
      rcases List.mem_cons.mp ((insS_perm x r).mem_iff.mp hz) with rfl | hz
      · exact hy
      · exact h1 z hz
theorem sortS_pw : ∀ l : List Str, (sortS l).Pairwise fun a b => strLe a b = true
  | [] => .nil
  | x :: r => insS_pw x (sortS_pw r)
theorem sortS_uniq {xs ys : List Str} (p : ys.Perm xs) (h : ys.Pairwise fun a b => strLe a b = true) : ys = sortS xs :=
  List.Perm.eq_of_pairwise (fun a b _ _ h k => strLe_antisymm h k) h (sortS_pw xs) (p.trans (sortS_perm xs).symm)
theorem insI_perm (x : Int) : ∀ l : List Int, (insI x l).Perm (x :: l)
  | [] => .refl _
  | y :: r => by
    unfold insI
    split
    · exact .refl _
    · exact ((insI_perm x r).cons y).trans (.swap x y r)
theorem sortI_perm : ∀ l : List Int, (sortI l).Perm l
  | [] => .refl _
  | x :: r => (insI_perm x (sortI r)).trans ((sortI_perm r).cons x)
theorem insI_pw (x : Int) : ∀ {l : List Int}, l.Pairwise (· ≤ ·) → (insI x l).Pairwise (· ≤ ·)
  | [], _ => List.pairwise_singleton _ _
  | y :: r, h => by
    unfold insI
    obtain ⟨h1, h2⟩ := List.pairwise_cons.mp h
    split
    · rename_i hx
      refine List.pairwise_cons.mpr ⟨fun z hz => ?_, h⟩
      rcases List.mem_cons.mp hz with rfl | hz
      · exact hx
      · exact Int.le_trans hx (h1 z hz)
    · rename_i hx
      refine List.pairwise_cons.mpr ⟨fun z hz => ?_, insI_pw x h2⟩
      rcases List.mem_cons.mp ((insI_perm x r).mem_iff.mp hz) with rfl | hz
      · omega
      · exact h1 z hz
theorem sortI_pw : ∀ l : List Int, (sortI l).Pairwise (· ≤ ·)
  | [] => .nil
  | x :: r => insI_pw x (sortI_pw r)
theorem sortI_uniq {xs ys : List Int} (p : ys.Perm xs) (h : ys.Pairwise (· ≤ ·)) : ys = sortI xs :=
  List.Perm.eq_of_pairwise (fun a b _ _ h k => Int.le_antisymm h k) h (sortI_pw xs) (p.trans (sortI_perm xs).symm)
theorem maxI_spec : ∀ (m : Int) (l : List Int), maxI m l ∈ m :: l ∧ ∀ y ∈ m :: l, y ≤ maxI m l
  | m, [] => ⟨by simp [maxI], fun y hy => by simp at hy; subst hy; exact Int.le_refl _⟩
  | m, x :: r => by
    unfold maxI
    obtain ⟨h1, h2⟩ := maxI_spec (if m < x then x else m) r
    refine ⟨?_, fun y hy => ?_⟩
    · rcases List.mem_cons.mp h1 with e | e
      · rw [e]; split <;> simp
      · exact List.mem_cons_of_mem _ (List.mem_cons_of_mem _ e)
    · have h3 := h2 _ List.mem_cons_self
      rcases List.mem_cons.mp hy with rfl | hy
      · split at h3 <;> rename_i hc <;> simp only [hc, if_true, if_false] at h3 ⊢ <;> omega
      · rcases List.mem_cons.mp hy with rfl | hy
        · split at h3 <;> rename_i hc <;> simp only [hc, if_true, if_false] at h3 ⊢ <;> omega
        · exact h2 y (List.mem_cons_of_mem _ hy)
theorem minI_spec : ∀ (m : Int) (l : List Int), minI m l ∈ m :: l ∧ ∀ y ∈ m :: l, minI m l ≤ y
  | m, [] => ⟨by simp [minI], fun y hy => by simp at hy; subst hy; exact Int.le_refl _⟩
  | m, x :: r => by
    unfold minI
    obtain ⟨h1, h2⟩ := minI_spec (if x < m then x else m) r
    refine ⟨?_, fun y hy => ?_⟩
    · rcases List.mem_cons.mp h1 with e | e
      · rw [e]; split <;> simp
      · exact List.mem_cons_of_mem _ (List.mem_cons_of_mem _ e)
    · have h3 := h2 _ List.mem_cons_self
      rcases List.mem_cons.mp hy with rfl | hy
      · split at h3 <;> rename_i hc <;> simp only [hc, if_true, if_false] at h3 ⊢ <;> omega
      · rcases List.mem_cons.mp hy with rfl | hy
        · split at h3 <;> rename_i hc <;> simp only [hc, if_true, if_false] at h3 ⊢ <;> omega
        · exact h2 y (List.mem_cons_of_mem _ hy)
end A46
end
section
namespace A46
open PySem PySem.Spec L2
abbrev RC := List V → Hp → VK → Prop
def orC (a b : RC) : RC := fun x H Q => a x H Q ∨ b x H Q
theorem CallR.or {X : Cx} {f : Value} {a b : RC} (h : CallR X f a) (k : CallR X f b) : CallR X f (orC a b) := by
  intro pins s σ H xs us Q I r q
  rcases q with q | q
  · exact h pins s σ H xs us Q I r q
  · exact k pins s σ H xs us Q I r q
/-- a call by values keeps what the store's operation says -/
def Cb (K : PySem.W.Frag) (r : RC) (f : List Val → Sto → Rs Val) : Prop := ∀ (S : Sto) (io : List Addr) (H : Hp) (vs : List Val) (xs : List V) (Q : VK), SRel K H io S → Reps K H io vs xs → Go K (Rep K) H io (f vs S) Q → r xs H Q
section
variable {K : PySem.W.Frag} {H : Hp} {io : List Addr} {S : Sto}
theorem SRel.lst' (r : SRel K H io S) {v : Val} {x : V} {xs : List Val} (h : lstOf S v = some xs) (p : Rep K H io v x) : ∃ a vs, x = .ref a ∧ Reps K H io xs vs ∧ SqL K H a vs := by
  unfold lstOf at h
  split at h
  · cases h; cases p with
    | scr s1 q => exact ⟨_, _, rfl, q, s1.sq⟩
  · split at h
    · rename_i hx
      cases h
      obtain ⟨a, vs, rfl, _, e, q⟩ := r.lst hx p
      exact ⟨_, _, rfl, q, SqL.of e⟩
    · cases h
  · cases h
theorem Reps.ints_ : ∀ {xs : List Val} {vs : List V} {ns : List Int}, Reps K H io xs vs → intsOf xs = some ns → vs = ns.map V.int
  | [], _, _, q, h => by cases q; cases h; rfl
  | x :: r, _, _, q, h => by
    cases q with
    | cons p q =>
      cases x <;> simp only [intsOf] at h <;> first
        | cases h
        | (obtain ⟨ns, h1, rfl⟩ := Option.map_eq_some_iff.mp h
           cases p
           rw [Reps.ints_ q h1]; rfl)
theorem Reps.texts_ : ∀ {xs : List Val} {vs : List V} {ns : List Str}, Reps K H io xs vs → textsOf xs = some ns → vs = ns.map V.str
  | [], _, _, q, h => by cases q; cases h; rfl
  | x :: r, _, _, q, h => by
    cases q with
    | cons p q =>
      cases x <;> simp only [textsOf] at h <;> first
        | cases h
        | (obtain ⟨ns, h1, rfl⟩ := Option.map_eq_some_iff.mp h
           cases p
           rw [Reps.texts_ q h1]; rfl)
theorem Reps.bools_ : ∀ {xs : List Val} {vs : List V} {ns : List Bool}, Reps K H io xs vs → boolsOf xs = some ns → vs = ns.map V.bl
  | [], _, _, q, h => by cases q; cases h; rfl
  | x :: r, _, _, q, h => by
    cases q with
    | cons p q =>
      cases x <;> simp only [boolsOf] at h <;> first
        | cases h
        | (obtain ⟨ns, h1, rfl⟩ := Option.map_eq_some_iff.mp h
           cases p
           rw [Reps.bools_ q h1]; rfl)
theorem reps_ints : ∀ ns : List Int, Reps K H io (ns.map Val.int) (ns.map V.int)
  | [] => .nil
  | n :: r => .cons (.int n) (reps_ints r)
theorem reps_texts : ∀ ns : List Str, Reps K H io (ns.map Val.str) (ns.map V.str)
  | [] => .nil
  | n :: r => .cons (.str n) (reps_texts r)
theorem Reps.one {v : Val} {xs : List V} (q : Reps K H io [v] xs) : ∃ x, xs = [x] ∧ Rep K H io v x := by
  cases q with
  | cons p q => cases q; exact ⟨_, rfl, p⟩
end
theorem cb_abs {K : PySem.W.Frag} : Cb K (fun xs H Q => ∃ i, xs = [.int i] ∧ Q (.int (if i < 0 then -i else i)) H) (A46.bi .abs) := by
  intro S io H vs xs Q r q g
  unfold A46.bi at g
  split at g <;> first | exact g.elim | (rename_i h; cases h) | contradiction | skip
  obtain ⟨x, rfl, p⟩ := q.one
  cases p
  refine ⟨_, rfl, ?_⟩
  have e : ∀ i : Int, (if i < 0 then -i else i) = (i.natAbs : Int) := fun i => by split <;> omega
  rw [e]; exact g.at r (.int _)
abbrev rLenA (K : PySem.W.Frag) : RC := orC (fun xs H Q => ∃ x n, xs = [x] ∧ LenV K x H n ∧ Q (.int n) H) (fun xs H Q => ∃ a kvs, xs = [V.ref a] ∧ H a = some (.dK kvs) ∧ Q (.int kvs.length) H)
theorem kvR_len {K : PySem.W.Frag} {H : Hp} {io : List Addr} : ∀ {kvs : List (KeyV × Val)} {us : List (Key × V)}, kvR K H io kvs us → kvs.length = us.length
  | [], [], _ => rfl
  | (_, _) :: _, (_, _) :: _, ⟨_, _, h⟩ => by simp only [List.length_cons, kvR_len h]
  | [], _ :: _, h => h.elim
  | _ :: _, [], h => h.elim
theorem cb_len {K : PySem.W.Frag} : Cb K (rLenA K) (A46.bi .len) := by
  intro S io H vs xs Q r q g
  unfold A46.bi at g
  split at g <;> first | exact g.elim | (rename_i h; cases h) | contradiction | skip
  · obtain ⟨x, rfl, p⟩ := q.one
    cases p
    split at g
    · rename_i h
      exact .inl ⟨_, _, rfl, ⟨h, rfl⟩, g.at r (.int _)⟩
    · exact g.elim
  · obtain ⟨x, rfl, p⟩ := q.one
    cases p with
    | tup s1 qs => exact .inl ⟨_, _, rfl, .inr ⟨_, s1.sq, qs.length⟩, g.at r (.int _)⟩
  · obtain ⟨x, rfl, p⟩ := q.one
    cases p with
    | scr s1 qs => exact .inl ⟨_, _, rfl, .inl ⟨_, s1.sq, qs.length⟩, g.at r (.int _)⟩
  · obtain ⟨x, rfl, p⟩ := q.one
    split at g
    · rename_i hx
      obtain ⟨a, us, rfl, _, e, qs⟩ := r.lst hx p
      exact .inl ⟨_, _, rfl, .inl ⟨_, SqL.of e, qs.length⟩, g.at r (.int _)⟩
    · rename_i hx
      obtain ⟨a, us, rfl, _, e, qs⟩ := r.dct hx p
      refine .inr ⟨_, _, rfl, e, ?_⟩
      rw [← kvR_len qs]; exact g.at r (.int _)
    · exact g.elim
theorem cb_int {K : PySem.W.Frag} : Cb K (fun xs H Q => (∃ i, xs = [.int i] ∧ Q (.int i) H) ∨ ∃ k, xs = [.bl k] ∧ Q (.int (if k then 1 else 0)) H) (A46.bi .int) := by
  intro S io H vs xs Q r q g
  unfold A46.bi at g
  split at g <;> first | exact g.elim | (rename_i h; cases h) | contradiction | skip
  · obtain ⟨x, rfl, p⟩ := q.one
    cases p
    exact .inl ⟨_, rfl, g.at r (.int _)⟩
  · obtain ⟨x, rfl, p⟩ := q.one
    cases p
    exact .inr ⟨_, rfl, g.at r (.int _)⟩
abbrev rTupF (K : PySem.W.Frag) : RC := fun xs H Q => ∃ p ys, xs = [.ref p] ∧ ((SqL K H p ys ∧ ∀ (l : Addr) (ob : Obj), ob.dict = none → H l = none → Q (.ref l) (upd H l (.frz ob (.tup ys)))) ∨ (SqT K H p ys ∧ Q (.ref p) H))
theorem cr_tupF {X : Cx} : CallR X (.type "tuple") (rTupF X.K) := by
  intro pins s σ H xs us Q I r h
  obtain ⟨p, ys, rfl, h⟩ := h
  rcases h with ⟨hq, q⟩ | ⟨hq, q⟩
  · obtain ⟨u, rfl, rx⟩ := vals1 r
    cases rx
    obtain ⟨its, r', pl, hz⟩ := I.list hq
    have hlen := r'.length
    refine call_tuple_list pl.isList (fun h' kp => ?_) (by simp only [List.size_toArray] <;> omega)
    exact laidT (I.kept (t' := s.toks) kp) r' hz q
  · exact call_tuple_of pins s σ H _ us Q I r ⟨p, ys, rfl, .inr ⟨hq, q⟩⟩
theorem cb_tuple {K : PySem.W.Frag} : Cb K (rTupF K) (A46.bi .tuple) := by
  intro S io H vs xs Q r q g
  unfold A46.bi at g
  split at g <;> first | exact g.elim | (rename_i h; cases h) | contradiction | skip
  · obtain ⟨x, rfl, p⟩ := q.one
    cases p with
    | tup s1 qs => exact ⟨_, _, rfl, .inr ⟨s1.sq, g.at r (.tup s1 qs)⟩⟩
  · rename_i hnt
    obtain ⟨x, rfl, p⟩ := q.one
    split at g
    · rename_i ys hy
      obtain ⟨a, us, rfl, qs, hs⟩ := r.lst' (xs := ys) (by
        unfold seqOf at hy
        unfold lstOf
        split at hy
        · exact absurd rfl (hnt _)
        · exact hy
        · exact hy
        · cases hy) p
      exact ⟨_, _, rfl, .inl ⟨hs, Go.tuple r qs g⟩⟩
    · exact g.elim
theorem cb_list {K : PySem.W.Frag} : Cb K (fun xs H Q => ∃ p ys, xs = [.ref p] ∧ (SqL K H p ys ∨ SqT K H p ys) ∧ ∀ l, H l = none → Q (.ref l) (upd H l (.lst ys))) (A46.bi .list) := by
  intro S io H vs xs Q r q g
  unfold A46.bi at g
  split at g <;> first | exact g.elim | (rename_i h; cases h) | contradiction | skip
  obtain ⟨x, rfl, p⟩ := q.one
  split at g
  · rename_i ys hy
    obtain ⟨a, us, rfl, qs, hs⟩ := r.seq hy p
    exact ⟨_, _, rfl, hs, Go.alloc r qs g⟩
  · exact g.elim
/-- sum of a tuple of ints -/
def rSumT (K : PySem.W.Frag) : RC := fun vs H Q => ∃ (a : Addr) (ns : List Int), vs = [V.ref a] ∧ SqT K H a (ns.map V.int) ∧ Q (.int ns.sum) H
theorem preSum_sum (f : Nat → Int) : ∀ (n : Nat) (l : List Int), l.length = n → (∀ i, i < n → l[i]? = some (f i)) → preSum f n = l.sum := by
  intro n
  induction n with
  | zero => intro l hl _; rw [List.eq_nil_of_length_eq_zero hl]; rfl
  | succ n ih =>
    intro l hl hf
    have hd : l = l.dropLast ++ [f n] := by
      have hne : l ≠ [] := fun e => by rw [e] at hl; cases hl
      have h1 := (List.dropLast_concat_getLast hne).symm
      have h2 : l.getLast hne = f n := by
        rw [List.getLast_eq_getElem]
        have h3 := hf n (Nat.lt_succ_self n)
        have h4 : l.length - 1 = n := by omega
        rw [List.getElem?_eq_getElem (by omega)] at h3
        simp only [h4]
        exact Option.some.inj h3
      rw [h2] at h1; exact h1
    have hl' : l.dropLast.length = n := by rw [List.length_dropLast]; omega
    have e := ih l.dropLast hl' fun i hi => by
      have := hf i (Nat.lt_succ_of_lt hi)
      rw [hd, List.getElem?_append_left (by rw [hl']; exact hi)] at this
      exact this
    rw [hd, List.sum_append]
    show preSum f n + f n = _
    rw [e]; simp
theorem cr_sumT {X : Cx} (hc : X.calm = true) : CallR X (.builtin "sum") (rSumT X.K) := by
  intro pins s σ H vs us Q I r h
  obtain ⟨a, ns, rfl, hs, q⟩ := h
  obtain ⟨its, rv, ht, _⟩ := I.tuple hs
  obtain ⟨u, rfl, ru⟩ := vals1 r
  cases ru
  have hlt : a < s.heap.objs.size := ht.lt
  have hints := intsAre_of rv
  refine PySem.call_sum_walkG (PyProof.Rows.iter_tuple ht ?_)
  obtain ⟨o, ho, hcl, n, hd⟩ := id ht
  refine ⟨_, _, _, _, _, _, fun i => (ns[i]?).getD 0, rfl, Walks.tuple (A := X.A.in1) (I.ok.hd hc) s.heap.objs.size a (Nat.ne_of_lt hlt) its.toArray, ⟨⟨_, Heap.get?_push_size _ rfl, rfl, rfl⟩, ⟨o, Heap.get?_push_of_some _ ho, hcl, n, hd⟩⟩, ?_, ?_, ?_⟩
  · intro b hb
    show b < (s.heap.push _).objs.size
    rw [Heap.size_push]
    rcases List.mem_cons.mp hb with rfl | hb
    · exact Nat.lt_succ_self _
    · rcases List.mem_cons.mp hb with rfl | hb
      · exact Nat.lt_succ_of_lt hlt
      · cases hb
  · intro i v hv
    have hv' : its[i]? = some v := by simpa using hv
    obtain ⟨x, hx, rx⟩ : ∃ x, (ns.map V.int)[i]? = some x ∧ RelV x v := by
      have hi : i < (ns.map V.int).length := by rw [rv.length]; exact (List.getElem?_eq_some_iff.mp hv').1
      refine ⟨_, List.getElem?_eq_getElem hi, ?_⟩
      obtain ⟨u, e1, e2⟩ := rv.get (List.getElem?_eq_getElem hi)
      rw [hv'] at e1; cases e1; exact e2
    rw [List.getElem?_map] at hx
    cases e : ns[i]? with
    | none => rw [e] at hx; cases hx
    | some k =>
      rw [e] at hx
      cases hx
      obtain ⟨t, rfl⟩ := rx
      exact ⟨t, by simp [e]⟩
  · intro h' tk t' hk
    have hsz : its.toArray.size = ns.length := by
      have := rv.length
      rw [List.length_map] at this
      simp [this]
    rw [hsz, preSum_sum (fun i => (ns[i]?).getD 0) ns.length ns rfl fun i hi => by simp [List.getElem?_eq_getElem hi]]
    refine ⟨.int _, H, I.kept fun b o e => hk b o ?_ (Heap.get?_push_of_some _ e), ⟨_, rfl⟩, q⟩
    intro z
    rw [List.mem_singleton] at z
    exact absurd (z ▸ Heap.lt_size e) (Nat.lt_irrefl _)
theorem cb_sum {K : PySem.W.Frag} : Cb K (orC (rSum K) (rSumT K)) (A46.bi .sum) := by
  intro S io H vs xs Q r q g
  unfold A46.bi at g
  split at g <;> first | exact g.elim | (rename_i h; cases h) | contradiction | skip
  obtain ⟨x, rfl, p⟩ := q.one
  split at g
  · rename_i ys hy
    split at g
    · rename_i ns hn
      obtain ⟨a, us, rfl, qs, hs⟩ := r.seq hy p
      rw [qs.ints_ hn] at hs
      rcases hs with hs | hs
      · exact .inl ⟨_, _, rfl, hs, g.at r (.int _)⟩
      · exact .inr ⟨_, _, rfl, hs, g.at r (.int _)⟩
    · exact g.elim
  · exact g.elim
theorem cb_sorted {K : PySem.W.Frag} : Cb K (orC (rSortedI K) (rSortedS K)) (A46.bi .sorted) := by
  intro S io H vs xs Q r q g
  unfold A46.bi at g
  split at g <;> first | exact g.elim | (rename_i h; cases h) | contradiction | skip
  obtain ⟨x, rfl, p⟩ := q.one
  split at g
  · rename_i ys hy
    obtain ⟨a, us, rfl, qs, hs⟩ := r.lst' hy p
    unfold sortV at g
    cases hn : intsOf ys with
    | some ns =>
      rw [hn] at g
      rw [qs.ints_ hn] at hs
      refine .inl ⟨_, _, rfl, hs, fun ns' p' hp hw hpn => ?_⟩
      have e := sortI_uniq hp hw
      subst e
      exact Go.alloc r (reps_ints _) g p' hpn
    | none =>
      rw [hn] at g
      cases ht : textsOf ys with
      | some ss =>
        rw [ht] at g
        dsimp only at g
        split at g
        · rename_i ys' hl
          split at hl
          · rename_i h64
            cases hl
            rw [qs.texts_ ht] at hs
            refine .inr ⟨_, _, rfl, hs, h64, fun ns' p' hp hw hpn => ?_⟩
            have e := sortS_uniq hp (sortedS_pw hw)
            subst e
            exact Go.alloc r (reps_texts _) g p' hpn
          · cases hl
        · exact g.elim
      | none => rw [ht] at g; exact g.elim
  · exact g.elim
theorem cb_all {K : PySem.W.Frag} : Cb K (rAll K) (A46.bi .all) := by
  intro S io H vs xs Q r q g
  unfold A46.bi at g
  split at g <;> first | exact g.elim | (rename_i h; cases h) | contradiction | skip
  obtain ⟨x, rfl, p⟩ := q.one
  split at g
  · rename_i ys hy
    split at g
    · rename_i ns hn
      obtain ⟨a, us, rfl, qs, hs⟩ := r.lst' hy p
      rw [qs.bools_ hn] at hs
      exact ⟨_, _, rfl, hs, g.at r (.bl _)⟩
    · exact g.elim
  · exact g.elim
theorem cb_any {K : PySem.W.Frag} : Cb K (rAny K) (A46.bi .any) := by
  intro S io H vs xs Q r q g
  unfold A46.bi at g
  split at g <;> first | exact g.elim | (rename_i h; cases h) | contradiction | skip
  obtain ⟨x, rfl, p⟩ := q.one
  split at g
  · rename_i ys hy
    split at g
    · rename_i ns hn
      obtain ⟨a, us, rfl, qs, hs⟩ := r.lst' hy p
      rw [qs.bools_ hn] at hs
      exact ⟨_, _, rfl, hs, g.at r (.bl _)⟩
    · exact g.elim
  · exact g.elim
theorem cb_max {K : PySem.W.Frag} : Cb K (rMax K) (A46.bi .max) := by
  intro S io H vs xs Q r q g
  unfold A46.bi at g
  split at g <;> first | exact g.elim | (rename_i h; cases h) | contradiction | skip
  obtain ⟨x, rfl, p⟩ := q.one
  split at g
  · rename_i ys hy
    split at g
    · rename_i n ns hn
      obtain ⟨a, us, rfl, qs, hs⟩ := r.lst' hy p
      rw [qs.ints_ hn] at hs
      refine ⟨_, _, rfl, hs, by simp, fun m hm hle => ?_⟩
      obtain ⟨h1, h2⟩ := maxI_spec n ns
      have e : m = maxI n ns := Int.le_antisymm (h2 m hm) (hle _ h1)
      subst e
      exact g.at r (.int _)
    · exact g.elim
  · exact g.elim
theorem cb_min {K : PySem.W.Frag} : Cb K (rMin K) (A46.bi .min) := by
  intro S io H vs xs Q r q g
  unfold A46.bi at g
  split at g <;> first | exact g.elim | (rename_i h; cases h) | contradiction | skip
  obtain ⟨x, rfl, p⟩ := q.one
  split at g
  · rename_i ys hy
    split at g
    · rename_i n ns hn
      obtain ⟨a, us, rfl, qs, hs⟩ := r.lst' hy p
      rw [qs.ints_ hn] at hs
      refine ⟨_, _, rfl, hs, by simp, fun m hm hle => ?_⟩
      obtain ⟨h1, h2⟩ := minI_spec n ns
      have e : m = minI n ns := Int.le_antisymm (hle _ h1) (h2 m hm)
      subst e
      exact g.at r (.int _)
    · exact g.elim
  · exact g.elim
end A46
end
section
namespace A46
open PySem PySem.Spec L2
def rRepr (K : PySem.W.Frag) : RC := fun xs H Q => ∃ x d, xs = [x] ∧ Dp K H x d ∧ d.canLay0 = true ∧ d.showable = true ∧ d.depth ≤ 64 ∧ d.shown.length ≤ sizeLine ∧ Q (.str d.shown) H
theorem cr_repr {X : Cx} (hg : X.A.guards = some []) (hu : X.A.units + 100 < cLine) : CallR X (.builtin "repr") (rRepr X.K) := by
  intro pins s σ H xs us Q I r h
  obtain ⟨x, d, rfl, dp, lay, sh, dep, len, q⟩ := h
  obtain ⟨u, rfl, ru⟩ := vals1 r
  obtain ⟨as, rd⟩ := Dp.reads I d x u dp ru
  cases dp with
  | non =>
    cases ru
    refine PySem.P.repr_of_none ⟨.str _, H, I.tok _, ⟨_, rfl⟩, ?_⟩
    rw [PySem.PyData.shown_none] at q; exact q
  | bl b =>
    cases ru
    refine PySem.P.repr_of_bool ⟨.str _, H, I.tok _, ⟨_, rfl⟩, ?_⟩
    rw [PySem.PyData.shown_bool] at q; cases b <;> exact q
  | int i =>
    obtain ⟨t, rfl⟩ := ru
    refine PySem.P.repr_of_int (by simpa [PyData.showable] using sh) ⟨.str _, H, I.tok _, ⟨_, rfl⟩, ?_⟩
    rw [PySem.PyData.shown_int] at q; exact q
  | str z =>
    obtain ⟨t, rfl⟩ := ru
    rw [PySem.PyData.shown_str] at q len
    exact PySem.P.repr_of_str ⟨.str _, H, I.tok _, ⟨_, rfl⟩, q⟩ len
  | lst _ _ =>
    cases ru
    exact repr_of_reads' rd sh (PySem.PyData.noDict_hsm (PySem.PyData.hasDict_of_canLay _ lay)) hg (by omega) (fun _ _ e => e) (fun h' u tk hk => ⟨.str _, H, I.kept hk, ⟨_, rfl⟩, q⟩) len
  | tup _ _ =>
    cases ru
    exact repr_of_reads' rd sh (PySem.PyData.noDict_hsm (PySem.PyData.hasDict_of_canLay _ lay)) hg (by omega) (fun _ _ e => e) (fun h' u tk hk => ⟨.str _, H, I.kept hk, ⟨_, rfl⟩, q⟩) len
theorem cb_repr {K : PySem.W.Frag} : Cb K (rRepr K) (A46.bi .repr) := by
  intro S io H vs xs Q r q g
  unfold A46.bi at g
  split at g <;> first | exact g.elim | (rename_i h; cases h) | contradiction | skip
  obtain ⟨x, rfl, p⟩ := q.one
  split at g
  · rename_i d hd
    split at g
    · rename_i ok
      unfold showOk at ok
      simp only [Bool.and_eq_true, decide_eq_true_eq] at ok
      exact ⟨x, d, rfl, r.dp _ hd p, ok.1.1.1, ok.1.1.2, ok.1.2, ok.2, g.at r (.str _)⟩
    · exact g.elim
  · exact g.elim
section
variable {K : PySem.W.Frag} {H : Hp} {io : List Addr} {S : Sto}
theorem kvR.any (k : KeyV) : ∀ {kvs : List (KeyV × Val)} {us : List (Key × V)}, kvR K H io kvs us → (kvs.any fun q => decide (q.1 = k)) = us.any fun q => decide (q.1 = k)
  | [], [], _ => rfl
  | (c, v) :: r, (d, u) :: t, ⟨h1, _, h3⟩ => by subst h1; rw [List.any_cons, List.any_cons, kvR.any k h3]
  | [], _ :: _, h => h.elim
  | _ :: _, [], h => h.elim
theorem kvR.map {k : KeyV} {v : Val} {x : V} (p : Rep K H io v x) : ∀ {kvs : List (KeyV × Val)} {us : List (Key × V)}, kvR K H io kvs us →
    kvR K H io (kvs.map fun q => if q.1 = k then (q.1, v) else q) (us.map fun q => if q.1 = k then (q.1, x) else q)
  | [], [], _ => trivial
  | (c, w) :: r, (d, u) :: t, ⟨h1, h2, h3⟩ => by
    subst h1
    rw [List.map_cons, List.map_cons]
    by_cases e : c = k
    · simp only [e, if_true]; exact ⟨rfl, p, kvR.map p h3⟩
    · simp only [e, if_false]; exact ⟨rfl, h2, kvR.map p h3⟩
  | [], _ :: _, h => h.elim
  | _ :: _, [], h => h.elim
theorem kvR.snoc {k : KeyV} {v : Val} {x : V} (p : Rep K H io v x) : ∀ {kvs : List (KeyV × Val)} {us : List (Key × V)}, kvR K H io kvs us → kvR K H io (kvs ++ [(k, v)]) (us ++ [(k, x)])
  | [], [], _ => ⟨rfl, p, trivial⟩
  | (c, w) :: r, (d, u) :: t, ⟨h1, h2, h3⟩ => ⟨h1, h2, kvR.snoc p h3⟩
  | [], _ :: _, h => h.elim
  | _ :: _, [], h => h.elim
theorem kvR.put {k : KeyV} {v : Val} {x : V} (p : Rep K H io v x) {kvs : List (KeyV × Val)} {us : List (Key × V)} (q : kvR K H io kvs us) : kvR K H io (putD k v kvs) (putK us k x) := by
  unfold putD putK
  rw [q.any k]
  split
  · exact q.map p
  · exact q.snoc p
theorem kvR.fold : ∀ {more : List (KeyV × Val)} {ms : List (Key × V)} {kvs : List (KeyV × Val)} {us : List (Key × V)}, kvR K H io more ms → kvR K H io kvs us →
    kvR K H io (more.foldl (fun acc q => putD q.1 q.2 acc) kvs) (mergeK us ms)
  | [], [], _, _, _, q => q
  | (c, w) :: r, (d, u) :: t, _, _, ⟨h1, h2, h3⟩, q => by
    subst h1
    unfold mergeK
    rw [List.foldl_cons, List.foldl_cons]
    exact kvR.fold h3 (q.put h2)
  | [], _ :: _, _, _, h, _ => h.elim
  | _ :: _, [], _, _, h, _ => h.elim
theorem Go.allocD (r : SRel K H io S) {xs : List (KeyV × Val)} {vs : List (Key × V)} {Q : VK} (q : kvR K H io xs vs) (g : Go K (Rep K) H io (A46.alloc (.dct xs) S) Q) : ∀ p, H p = none → Q (.ref p) (upd H p (.dK vs)) := fun p hp => by
  have st : Stp io H (io ++ [p]) (upd H p (.dK vs)) := ⟨List.prefix_append _ _, fun b hb => by
    rcases List.mem_append.mp hb with z | z
    · exact .inl z
    · rw [List.mem_singleton.mp z]; exact .inr hp, fun b u e _ => by rw [upd_ne (ne_of_none e hp)]; exact e⟩
  obtain ⟨s1, s2⟩ := r.new (o := .dct xs) (u := .dK vs) hp ⟨vs, upd_same, q.mono r st⟩
  refine g _ _ _ s1 s2 (.ref ?_)
  rw [← r.len, List.getElem?_append_right (Nat.le_refl _)]; simp
theorem pairs_of : ∀ {xs : List Val} {vs : List V} {kvs : List (KeyV × Val)}, Reps K H io xs vs → optAll pairOf xs = some kvs →
    ∃ (ps : List Addr) (us : List (Key × V)), vs = ps.map V.ref ∧ Paired (fun p kv => SqT K H p [kV kv.1, kv.2]) ps us ∧ kvR K H io kvs us
  | [], _, _, q, h => by cases q; cases h; exact ⟨[], [], rfl, .nil, trivial⟩
  | x :: xs, _, _, q, h => by
    cases q with
    | cons p q =>
      unfold optAll at h
      split at h
      · cases h
      · rename_i y hy
        split at h
        · cases h
        · rename_i ys hys
          cases h
          obtain ⟨ps, us, rfl, h2, h3⟩ := pairs_of q hys
          unfold pairOf at hy
          split at hy
          · rename_i k w
            obtain ⟨kk, hk, rfl⟩ := Option.map_eq_some_iff.mp hy
            cases p with
            | tup s1 q2 =>
              cases q2 with
              | cons p1 q3 =>
                cases q3 with
                | cons p2 q4 =>
                  cases q4
                  have e := keyOf_rep hk p1
                  subst e
                  exact ⟨_ :: ps, (kk, _) :: us, rfl, .cons s1.sq h2, rfl, p2, h3⟩
          · cases hy
end
theorem cb_dict {K : PySem.W.Frag} : Cb K (fun xs H Q => ∃ (a : Addr) (ps : List Addr) (kvs : List (Key × V)), xs = [.ref a] ∧ SqL K H a (ps.map V.ref) ∧ Paired (fun p kv => SqT K H p [kV kv.1, kv.2]) ps kvs ∧
    ∀ p, H p = none → Q (.ref p) (upd H p (.dK (mergeK [] kvs)))) (A46.bi .dict) := by
  intro S io H vs xs Q r q g
  unfold A46.bi at g
  split at g <;> first | exact g.elim | (rename_i h; cases h) | contradiction | skip
  obtain ⟨x, rfl, p⟩ := q.one
  split at g
  · rename_i ys hy
    split at g
    · rename_i kvs hk
      obtain ⟨a, us, rfl, qs, hs⟩ := r.lst' hy p
      obtain ⟨ps, ws, rfl, h2, h3⟩ := pairs_of qs hk
      exact ⟨_, _, _, rfl, hs, h2, Go.allocD r (kvR.fold h3 (kvs := []) (us := []) trivial) g⟩
    · exact g.elim
  · exact g.elim
abbrev RM := V → List V → Hp → VK → Prop
def Mb (K : PySem.W.Frag) (T : String) (r : RM) (f : Val → List Val → Sto → Rs Val) : Prop := ∀ (S : Sto) (io : List Addr) (H : Hp) (v : Val) (x : V) (vs : List Val) (xs : List V) (Q : VK), SRel K H io S → Rep K H io v x → Reps K H io vs xs → Go K (Rep K) H io (f v vs S) Q → r x xs H Q
end A46
end
section
namespace A46
open PySem PySem.Spec L2
def tyF (K : PySem.W.Frag) (T : String) (x : V) (H : Hp) : Prop := tyV K T x H ∨ (T = "tuple" ∧ ∃ a vs, x = .ref a ∧ SqD K H a vs)
section
variable {X : Cx} {o e : Expr} {es : List Expr} {to : TE} {t : TA} {name : Str} {apos cpos : Pos} {T id : String} {r : RM}
theorem tyF_is {pins : List (Addr × Obj)} {σ : St} {H : Hp} {s : Shared} {x : V} {v : Value} (I : L2.Inv X pins σ H s) (rx : RelV x v) (ty : tyF X.K T x H) :
    s.TypeIs v T ∧ ∀ a, v = .ref a → ∃ ob, s.heap.get? a = some ob ∧ ob.dict = none := by
  rcases ty with ty | ⟨rfl, a, vs, rfl, h⟩
  · exact tyV_is I rx ty
  · cases rx
    rcases h with ⟨ob, hd, h⟩ | ⟨ob, its, n, h1, h2, h3, _⟩
    · obtain ⟨e1, _, _, _, ob2, e2, hc, _⟩ := I.hok _ _ h
      rw [e1] at e2; cases e2
      exact ⟨⟨ob, e1, hc⟩, fun b z => by cases z; exact ⟨ob, e1, hd⟩⟩
    · exact ⟨⟨ob, I.kIn _ _ h1, h3⟩, fun b z => by cases z; exact ⟨ob, I.kIn _ _ h1, h2⟩⟩
def noSuper : Expr → Bool
  | .Call (.Name _ _) [] [] _ => false
  | _ => true
theorem base_of (h : noSuper o = true) (env : Env) : attributeBase o name env (eval o env) = eval o env := by
  unfold attributeBase
  split
  · exact Bool.noConfusion h
  · rfl
theorem few_of (env : Env) (h : noStars es = true) (hl : es.length < 20) : ((backTo cpos (starEach es env)).all (fun x => !x.1) && (backToKw cpos (keywordEach [] env)).all (fun x => x.1.isSome)
      && decide (es.length + ([] : List Keyword).length + (if ([] : List Keyword).isEmpty then 0 else 1) < 30)) = true := by
  have h1 := star_any env cpos h
  have h2 : (backTo cpos (starEach es env)).all (fun x => !x.1) = true := by
    rw [List.all_eq_true]
    intro y hy
    rw [List.any_eq_false] at h1
    have := h1 y hy
    simpa using this
  rw [h2]
  simp only [keywordEach, backToKw, List.map_nil, List.all_nil, Bool.true_and, List.length_nil, List.isEmpty_nil, if_true, decide_eq_true_eq]
  omega
theorem pe_bmF (pa : PlainAttrs T) (slot : Slot T name id) (hty : typeOf (.builtin id) = pure (.type "method_descriptor")) (hm : MtR X id r) (ho : PE X o to) (ha : PA X (e :: es) t) (hn : noSuper o = true) (hs : noStars (e :: es) = true) (hl : (e :: es).length < 20)
    (hline : (apos.endLine == cpos.line) = true) : PE X (.Call (.Attribute o name apos) (e :: es) [] cpos) (fun σ H Q => to σ H fun x H1 => tyF X.K T x H1 ∧ t σ H1 fun xs H2 => r x xs H2 Q) := by
  refine ⟨fun pins s σ H Q I h => ?_⟩
  refine wpAny_Call_method_late (base_of hn _) (few_of _ hs hl) hline rfl (thn (ho.run pins s σ H _ I h) fun v s1 ⟨x, H1, I1, r1, ty, q1⟩ => ?_)
  obtain ⟨h1, h2⟩ := tyF_is I1 r1 ty
  refine ⟨T, id, pa, slot, hty, h1, h2, ?_⟩
  obtain ⟨n1, n2⟩ := noStars_cons hs
  have run := ha.run cpos pins s1 σ H1 _ I1 q1
  rw [star_cons _ n1] at run ⊢
  refine Calls.callWith_builtin (by show (false || (backTo cpos (starEach es X.env)).any (·.1)) = false; rw [star_any _ _ n2] <;> rfl) (Calls.evalArgs_plain ?_)
  exact thn run fun us s2 ⟨vs, H2, I2, r2, q2⟩ => hm pins s2 σ H2 x vs v us Q I2 r1 r2 q2
theorem pe_bm0F (pa : PlainAttrs T) (slot : Slot T name id) (hty : typeOf (.builtin id) = pure (.type "method_descriptor")) (hm : MtR X id r) (ho : PE X o to) (hn : noSuper o = true)
    (hline : (apos.endLine == cpos.line) = true) : PE X (.Call (.Attribute o name apos) [] [] cpos) (fun σ H Q => to σ H fun x H1 => tyF X.K T x H1 ∧ r x [] H1 Q) := by
  refine ⟨fun pins s σ H Q I h => ?_⟩
  refine wpAny_Call_method0_late (base_of hn _) hline (thn (ho.run pins s σ H _ I h) fun v s1 ⟨x, H1, I1, r1, ty, q1⟩ => ?_)
  obtain ⟨h1, h2⟩ := tyF_is I1 r1 ty
  exact ⟨T, id, pa, slot, hty, h1, h2, Calls.callWith_builtin rfl (PySem.evalArgs_none (hm pins s1 σ H1 x [] v [] Q I1 r1 .nil q1))⟩
end
/-- t.count(y), flat items -/
def rCountT (K : PySem.W.Frag) : RM := fun x xs H Q => ∃ (a : Addr) (ys : List V) (y : V), x = .ref a ∧ xs = [y] ∧ SqT K H a ys ∧ flatV y = true ∧ ys.all flatV = true ∧ Q (.int ((ys.countP fun z => eqV z y : Nat) : Int)) H
theorem countP_eqU {y : V} : ∀ {ys : List V} {us : List Value}, Vals ys us → ys.all flatV = true → us.countP (eqU y) = ys.countP fun z => eqV z y
  | _, _, .nil, _ => rfl
  | _, _, .cons r q, h => by
    rw [List.all_cons, Bool.and_eq_true] at h
    rw [List.countP_cons, List.countP_cons, countP_eqU q h.2, eqU_of r h.1]
theorem mt_countT {X : Cx} : MtR X "tuple.count" (rCountT X.K) := by
  intro pins s σ H x xs v us Q I rx rxs h
  obtain ⟨a, ys, y, rfl, rfl, hs, fy, fys, q⟩ := h
  cases rx
  obtain ⟨its, r, ⟨⟨cls, dd, data, sl⟩, ho, hc, n, hd⟩, hz⟩ := I.tuple hs
  simp only at hc hd
  subst hc hd
  obtain ⟨u, rfl, ru⟩ := vals1 rxs
  refine call_meets PySem.F.slot_tuple_count ⟨_, ho, rfl⟩ PySem.F.entry_tuple_count (PySem.F.args_tuple_count_2 _ _) (SeqAt.tuple_countAt a its.toArray n dd sl u (eqU y)) ⟨ho, fun z hz => mem_eqAt ru fy r fys z (by simpa using hz), ?_⟩
  refine ⟨.int _, H, I.tok _, ⟨_, rfl⟩, ?_⟩
  have e : its.toArray.toList.countP (eqU y) = ys.countP fun z => eqV z y := countP_eqU r fys
  rw [e]; exact q
section
variable {K : PySem.W.Frag} {H : Hp} {io : List Addr} {S : Sto}
theorem Reps.two {v w : Val} {xs : List V} (q : Reps K H io [v, w] xs) : ∃ x y, xs = [x, y] ∧ Rep K H io v x ∧ Rep K H io w y := by
  cases q with
  | cons p q => cases q with
    | cons p2 q => cases q; exact ⟨_, _, rfl, p, p2⟩
theorem Reps.count {w : Val} {y : V} (p : Rep K H io w y) (k : A46.flat w = true) : ∀ {xs : List Val} {vs : List V}, Reps K H io xs vs → xs.all A46.flat = true → (xs.filter fun z => eqF z w).length = vs.countP fun z => eqV z y
  | _, _, .nil, _ => rfl
  | _, _, .cons p1 q, h => by
    rw [List.all_cons, Bool.and_eq_true] at h
    rw [List.countP_cons, ← Reps.count p k q h.2, p1.eqF p h.1 k, List.filter_cons]
    split <;> simp_all
theorem Reps.findIdx {w : Val} {y : V} (p : Rep K H io w y) (k : A46.flat w = true) : ∀ {xs : List Val} {vs : List V}, Reps K H io xs vs → xs.all A46.flat = true → (xs.findIdx? fun z => eqF z w) = vs.findIdx? fun z => eqV z y
  | _, _, .nil, _ => rfl
  | _, _, .cons p1 q, h => by
    rw [List.all_cons, Bool.and_eq_true] at h
    rw [List.findIdx?_cons, List.findIdx?_cons, Reps.findIdx p k q h.2, p1.eqF p h.1 k]
/-- a changed list for what is wanted -/
theorem Go.putL (r : SRel K H io S) {l : Nat} {a : Addr} {xs : List Val} {vs : List V} {Q : VK} (e : io[l]? = some a) (q : Reps K H io xs vs) (g : Go K (Rep K) H io (.ok .non (S.set l (.lst xs))) Q) : Q .non (upd H a (.lst vs)) := by
  have st : Stp io H io (upd H a (.lst vs)) := ⟨List.prefix_rfl, fun _ z => .inl z, fun b u h hb => by
    rw [upd_ne (show b ≠ a from fun z => hb (by rw [z]; exact List.mem_of_getElem? e))]; exact h⟩
  obtain ⟨s1, s2⟩ := r.put (o := .lst xs) (u := .lst vs) e ⟨vs, upd_same, q.mono r st⟩
  exact g _ _ _ s1 s2 .non
end
/-- a method: its type, name, identity -/
def meT : Me → String
  | .count => "tuple"
  | .split => "str"
  | _ => "list"
def meN : Me → Str
  | .append => "append"
  | .clear => "clear"
  | .count => "count"
  | .split => "split"
  | .insert => "insert"
  | .extend => "extend"
  | .index => "index"
/-- what each method's rule asks, from what the store says -/
def MeOk (X : Cx) (m : Me) : Prop := ∃ id r, PlainAttrs (meT m) ∧ Slot (meT m) (meN m) id ∧ typeOf (.builtin id) = pure (.type "method_descriptor") ∧ MtR X id r ∧
  ∀ (S : Sto) (io : List Addr) (H : Hp) (v : Val) (x : V) (vs : List Val) (xs : List V) (Q : VK), SRel X.K H io S → Rep X.K H io v x → Reps X.K H io vs xs → Go X.K (Rep X.K) H io (meth m v vs S) Q → r x xs H Q
theorem me_append {X : Cx} : MeOk X .append := by
  refine ⟨_, _, PySem.F.plainAttrs_list, PySem.F.slot_list_append, PySem.F.type_list_append, mt_append, ?_⟩
  intro S io H v x vs xs Q r p q g
  unfold meth at g
  split at g <;> first | exact g.elim | (rename_i h; cases h) | contradiction | skip
  split at g
  · rename_i hx
    split at g
    · rename_i hl
      obtain ⟨y, rfl, p2⟩ := q.one
      obtain ⟨a, us, rfl, e1, e2, qs⟩ := r.lst hx p
      exact ⟨_, _, _, rfl, rfl, e2, by rw [← qs.length]; exact hl, Go.putL r e1 (qs.append (.cons p2 .nil)) g⟩
    · exact g.elim
  · exact g.elim
theorem me_clear {X : Cx} : MeOk X .clear := by
  refine ⟨_, _, PySem.F.plainAttrs_list, PySem.F.slot_list_clear, PySem.F.type_list_clear, mt_clear, ?_⟩
  intro S io H v x vs xs Q r p q g
  unfold meth at g
  split at g <;> first | exact g.elim | (rename_i h; cases h) | contradiction | skip
  split at g
  · rename_i hx
    cases q
    obtain ⟨a, us, rfl, e1, e2, qs⟩ := r.lst hx p
    exact ⟨_, _, rfl, rfl, e2, Go.putL r e1 .nil g⟩
  · exact g.elim
theorem me_extend {X : Cx} : MeOk X .extend := by
  refine ⟨_, _, PySem.F.plainAttrs_list, PySem.F.slot_list_extend, PySem.F.type_list_extend, mt_extend, ?_⟩
  intro S io H v x vs xs Q r p q g
  unfold meth at g
  split at g <;> first | exact g.elim | (rename_i h; cases h) | contradiction | skip
  split at g
  · rename_i hx hy
    split at g
    · rename_i hl
      obtain ⟨y, rfl, p2⟩ := q.one
      obtain ⟨a, us, rfl, e1, e2, qs⟩ := r.lst hx p
      obtain ⟨b, ws, rfl, _, e3, qs2⟩ := r.lst hy p2
      exact ⟨_, _, _, _, rfl, rfl, e2, e3, by rw [← qs.length, ← qs2.length]; exact hl, Go.putL r e1 (qs.append qs2) g⟩
    · exact g.elim
  · exact g.elim
theorem me_insert {X : Cx} : MeOk X .insert := by
  refine ⟨_, _, PySem.F.plainAttrs_list, PySem.F.slot_list_insert, PySem.F.type_list_insert, mt_insert, ?_⟩
  intro S io H v x vs xs Q r p q g
  unfold meth at g
  split at g <;> first | exact g.elim | (rename_i h; cases h) | contradiction | skip
  split at g
  · rename_i hx
    split at g
    · rename_i hl
      simp only [Bool.and_eq_true, decide_eq_true_eq] at hl
      obtain ⟨y, z, rfl, p1, p2⟩ := q.two
      cases p1
      obtain ⟨a, us, rfl, e1, e2, qs⟩ := r.lst hx p
      exact ⟨_, _, _, _, rfl, rfl, e2, by rw [← qs.length]; exact hl.1.1, hl.1.2, hl.2, Go.putL r e1 (((qs.take _).append (.cons p2 .nil)).append (qs.drop _)) g⟩
    · exact g.elim
  · exact g.elim
theorem me_index {X : Cx} : MeOk X .index := by
  refine ⟨_, _, PySem.F.plainAttrs_list, PySem.F.slot_list_index, PySem.F.type_list_index, mt_index, ?_⟩
  intro S io H v x vs xs Q r p q g
  unfold meth at g
  split at g <;> first | exact g.elim | (rename_i h; cases h) | contradiction | skip
  split at g
  · rename_i hx
    split at g
    · rename_i hl
      rw [Bool.and_eq_true] at hl
      obtain ⟨y, rfl, p2⟩ := q.one
      obtain ⟨a, us, rfl, e1, e2, qs⟩ := r.lst hx p
      split at g
      · rename_i j hj
        rw [qs.findIdx p2 hl.1 hl.2] at hj
        obtain ⟨h1, h2, h3⟩ := List.findIdx?_eq_some_iff_getElem.mp hj
        refine ⟨_, _, _, j, us[j], rfl, rfl, SqL.of e2, p2.flat hl.1, qs.flat hl.2, List.getElem?_eq_getElem h1, h2, fun m z hm hz => ?_, g.at r (.int _)⟩
        have := h3 m hm
        have hm2 : m < us.length := Nat.lt_trans hm h1
        rw [List.getElem?_eq_getElem hm2] at hz
        cases hz
        simpa using this
      · exact g.elim
    · exact g.elim
  · exact g.elim
theorem me_count {X : Cx} : MeOk X .count := by
  refine ⟨_, _, PySem.F.plainAttrs_tuple, PySem.F.slot_tuple_count, PySem.F.type_tuple_count, mt_countT, ?_⟩
  intro S io H v x vs xs Q r p q g
  unfold meth at g
  split at g <;> first | exact g.elim | (rename_i h; cases h) | contradiction | skip
  split at g
  · rename_i hl
    rw [Bool.and_eq_true] at hl
    obtain ⟨y, rfl, p2⟩ := q.one
    cases p with
    | tup s1 qs =>
      refine ⟨_, _, _, rfl, rfl, s1.sq, p2.flat hl.1, qs.flat hl.2, ?_⟩
      rw [← qs.count p2 hl.1 hl.2]
      exact g.at r (.int _)
  · exact g.elim
theorem me_split {X : Cx} : MeOk X .split := by
  refine ⟨_, _, PySem.F.plainAttrs_str, PySem.F.slot_str_split, PySem.F.type_str_split, mt_split, ?_⟩
  intro S io H v x vs xs Q r p q g
  unfold meth at g
  split at g <;> first | exact g.elim | (rename_i h; cases h) | contradiction | skip
  split at g
  · rename_i hl
    simp only [Bool.and_eq_true, decide_eq_true_eq, Bool.not_eq_true'] at hl
    obtain ⟨y, rfl, p2⟩ := q.one
    cases p; cases p2
    exact ⟨_, _, rfl, rfl, hl.1, hl.2, Go.alloc r (reps_texts _) g⟩
  · exact g.elim
theorem me_ok {X : Cx} (m : Me) : MeOk X m := by
  cases m
  · exact me_append
  · exact me_clear
  · exact me_count
  · exact me_split
  · exact me_insert
  · exact me_extend
  · exact me_index
theorem recv_ty {K : PySem.W.Frag} {H : Hp} {io : List Addr} {S : Sto} {m : Me} {v : Val} {x : V} (r : SRel K H io S) (h : recv m v S = true) (p : Rep K H io v x) : tyF K (meT m) x H := by
  unfold recv at h
  split at h <;> first
    | exact Bool.noConfusion h
    | (cases p with
       | tup s1 q => exact .inr ⟨rfl, _, _, rfl, s1⟩)
    | (cases p; exact .inl rfl)
    | skip
  rename_i h1 h2
  split at h
  · rename_i hx
    obtain ⟨a, us, rfl, e1, e2, qs⟩ := r.lst hx p
    have e : meT m = "list" := by
      cases m <;> first | rfl | exact absurd rfl (h1 _) | exact absurd rfl (h2 _) | exact absurd rfl h1 | exact absurd rfl h2
    rw [e]
    exact .inl (.inl ⟨rfl, _, SqL.of e2⟩)
  · exact Bool.noConfusion h
section
variable {X : Cx} {o e : Expr} {es : List Expr} {apos cpos : Pos} {mo : Ev → Sto → Rs Val} {mt : Ev → Sto → Rs (List Val)}
theorem d_me (m : Me) (ho : PE X o (tE X.K mo)) (ha : PA X (e :: es) (tA X.K mt)) (hn : noSuper o = true) (hs : noStars (e :: es) = true) (hl : (e :: es).length < 20) (hline : (apos.endLine == cpos.line) = true) :
    PE X (.Call (.Attribute o (meN m) apos) (e :: es) [] cpos) (tE X.K fun r S => (mo r S).bind fun x S1 => if recv m x S1 then (mt r S1).bind fun xs S2 => meth m x xs S2 else .no) := by
  obtain ⟨id, rr, h1, h2, h3, h4, h5⟩ := me_ok (X := X) m
  refine PE.imp' (pe_bmF h1 h2 h3 h4 ho ha hn hs hl hline) fun σ H Q ⟨r, S, io, er, q, g⟩ => ?_
  refine ⟨r, S, io, er, q, Go.imp g.bind fun x H1 ⟨v, S1, io1, t1, q1, p1, g1⟩ => ?_⟩
  split at g1
  · rename_i hr
    refine ⟨recv_ty q1 hr p1, r, S1, io1, er.mono q t1, q1, Go.imp g1.bind fun xs H2 ⟨w, S2, io2, t2, q2, p2, g2⟩ => ?_⟩
    exact h5 S2 io2 H2 v x w xs Q q2 (p1.mono q1 t2) p2 g2
  · exact g1.elim
theorem d_me0 (m : Me) (ho : PE X o (tE X.K mo)) (hn : noSuper o = true) (hline : (apos.endLine == cpos.line) = true) :
    PE X (.Call (.Attribute o (meN m) apos) [] [] cpos) (tE X.K fun r S => (mo r S).bind fun x S1 => if recv m x S1 then (Rs.ok ([] : List Val) S1).bind fun xs S2 => meth m x xs S2 else .no) := by
  obtain ⟨id, rr, h1, h2, h3, h4, h5⟩ := me_ok (X := X) m
  refine PE.imp' (pe_bm0F h1 h2 h3 h4 ho hn hline) fun σ H Q ⟨r, S, io, er, q, g⟩ => ?_
  refine ⟨r, S, io, er, q, Go.imp g.bind fun x H1 ⟨v, S1, io1, t1, q1, p1, g1⟩ => ?_⟩
  split at g1
  · rename_i hr
    exact ⟨recv_ty q1 hr p1, h5 S1 io1 H1 v x [] [] Q q1 p1 .nil g1⟩
  · exact g1.elim
end
def biN : Bi → Str
  | .abs => "abs"
  | .len => "len"
  | .int => "int"
  | .tuple => "tuple"
  | .list => "list"
  | .sum => "sum"
  | .sorted => "sorted"
  | .repr => "repr"
  | .dict => "dict"
  | .all => "all"
  | .any => "any"
  | .max => "max"
  | .min => "min"
def BiOk (X : Cx) (b : Bi) : Prop := (∃ id r, bootBuiltins (biN b) = some (.builtin id) ∧ CallR X (.builtin id) r ∧ Cb X.K r (bi b)) ∨ ∃ T r, bootBuiltins (biN b) = some (.type T) ∧ CallR X (.type T) r ∧ Cb X.K r (bi b)
theorem bi_ok {X : Cx} (hc : X.calm = true) (hg : X.A.guards = some []) (hu : X.A.units + 100 < cLine) (b : Bi) : BiOk X b := by
  cases b
  · exact .inl ⟨_, _, by decide +kernel, call_abs, cb_abs⟩
  · exact .inl ⟨_, _, by decide +kernel, .or call_len call_lenD, cb_len⟩
  · exact .inr ⟨_, _, by decide +kernel, call_int1, cb_int⟩
  · exact .inr ⟨_, _, by decide +kernel, cr_tupF, cb_tuple⟩
  · exact .inr ⟨_, _, by decide +kernel, call_list_of, cb_list⟩
  · exact .inl ⟨_, _, by decide +kernel, .or (cr_sum hc) (cr_sumT hc), cb_sum⟩
  · exact .inl ⟨_, _, by decide +kernel, .or cr_sortedI cr_sortedS, cb_sorted⟩
  · exact .inl ⟨_, _, by decide +kernel, cr_repr hg hu, cb_repr⟩
  · exact .inr ⟨_, _, by decide +kernel, call_dictP hc, cb_dict⟩
  · exact .inl ⟨_, _, by decide +kernel, cr_all hc, cb_all⟩
  · exact .inl ⟨_, _, by decide +kernel, cr_any hc, cb_any⟩
  · exact .inl ⟨_, _, by decide +kernel, cr_max hc, cb_max⟩
  · exact .inl ⟨_, _, by decide +kernel, cr_min hc, cb_min⟩
theorem biN_name (b : Bi) : biN b ≠ "__name__" := by cases b <;> decide +kernel
theorem biN_debug (b : Bi) : (biN b == ("__debug__" : Str)) = false := by cases b <;> decide +kernel
theorem d_bi {X : Cx} {e : Expr} {es : List Expr} {p pos : Pos} {mt : Ev → Sto → Rs (List Val)} (hc : X.calm = true) (hg : X.A.guards = some []) (hu : X.A.units + 100 < cLine) (b : Bi) (gl : Gl X (biN b)) (hm : X.mg (biN b) = none) (ha : PA X (e :: es) (tA X.K mt))
    (hs : noStars (e :: es) = true) : PE X (.Call (.Name (biN b) p) (e :: es) [] pos) (tE X.K fun r S => (mt r S).bind fun xs S1 => A46.bi b xs S1) := by
  obtain ⟨n1, n2⟩ := noStars_cons hs
  rcases bi_ok hc hg hu b with ⟨id, rr, h1, h2, h3⟩ | ⟨T, rr, h1, h2, h3⟩
  · refine PE.imp' (pe_callB h2 gl hm h1 ha (biN_name b) (biN_debug b) (star_cons _ n1) (star_any _ _ n2)) fun σ H Q ⟨r, S, io, er, q, g⟩ => ?_
    refine ⟨r, S, io, er, q, Go.imp g.bind fun x H1 ⟨v, S1, io1, t1, q1, p1, g1⟩ => ?_⟩
    exact h3 S1 io1 H1 v x Q q1 p1 g1
  · refine PE.imp' (pe_callTy h2 gl hm h1 ha (biN_name b) (biN_debug b) (star_cons _ n1) (star_any _ _ n2)) fun σ H Q ⟨r, S, io, er, q, g⟩ => ?_
    refine ⟨r, S, io, er, q, Go.imp g.bind fun x H1 ⟨v, S1, io1, t1, q1, p1, g1⟩ => ?_⟩
    exact h3 S1 io1 H1 v x Q q1 p1 g1
end A46
end
section
namespace A46
open PySem PySem.Spec L2
/-- an item: a value, or a pair made for the turn -/
def ItR (K : PySem.W.Frag) (b : Bool) (H : Hp) (io : List Addr) (v : Val) (x : V) : Prop := Rep K H io v x ∨ (b = true ∧ ∃ a vs xs, v = .tup xs ∧ x = .ref a ∧ SqT K H a vs ∧ Reps K H io xs vs)
structure SrcR (K : PySem.W.Frag) (b : Bool) (src : Src) (io : List Addr) (H : Hp) (J : It) : Prop where
  go : ∀ (H' : Hp) (io' : List Addr) (S : Sto) (k : Nat) (v : Val), Stp io H io' H' → SRel K H' io' S → src.get S k = some (some v) → J.go k H' ∧ ∀ x H2, J.yld k H' x H2 → Stp io' H' io' H2 ∧ SRel K H2 io' S ∧ ItR K b H2 io' v x
  stop : ∀ (H' : Hp) (io' : List Addr) (S : Sto) (k : Nat), Stp io H io' H' → SRel K H' io' S → src.get S k = some none → J.stop k H'
def tI (K : PySem.W.Frag) (b : Bool) (m : Ev → Sto → Rs Src) : TI := fun σ H R => ∃ r S io, ERel K H io r σ ∧ SRel K H io S ∧ match m r S with
  | .ok src S1 => ∀ H1 io1 J, Stp io H io1 H1 → SRel K H1 io1 S1 → SrcR K b src io1 H1 J → R J H1
  | .no => False
section
variable {K : PySem.W.Frag} {H : Hp} {io : List Addr} {S : Sto}
theorem src_lst {i : Nat} {a : Addr} (e : io[i]? = some a) : SrcR K false (.lst i) io H (Itl K a) := by
  have look : ∀ {io' : List Addr} {H' : Hp}, Stp io H io' H' → io'[i]? = some a := fun t => by
    obtain ⟨z, rfl⟩ := t.pre
    rw [List.getElem?_append_left (List.getElem?_eq_some_iff.mp e).1]; exact e
  refine ⟨fun H' io' S k v t r h => ?_, fun H' io' S k t r h => ?_⟩
  · unfold Src.get at h
    split at h
    · rename_i xs hx
      obtain ⟨vs, h1, q⟩ := r.at_ _ _ _ hx (look t)
      obtain ⟨x, h2, p⟩ := q.get (Option.some.inj h)
      refine ⟨⟨vs, x, SqL.of h1, h2⟩, fun y H2 yl => ?_⟩
      obtain ⟨rfl, hy⟩ := yl
      have := hy vs (SqL.of h1)
      rw [h2] at this; cases this
      exact ⟨.refl, r, .inl p⟩
    · cases h
  · unfold Src.get at h
    split at h
    · rename_i xs hx
      obtain ⟨vs, h1, q⟩ := r.at_ _ _ _ hx (look t)
      refine ⟨vs, SqL.of h1, ?_⟩
      rw [← q.length]
      exact List.getElem?_eq_none_iff.mp (Option.some.inj h)
    · cases h
theorem src_tup {a : Addr} {xs : List Val} {vs : List V} (r0 : SRel K H io S) (hs : SqD K H a vs) (q0 : Reps K H io xs vs) : SrcR K false (.tup xs) io H (Itt K a) := by
  refine ⟨fun H' io' S k v t r h => ?_, fun H' io' S k t r h => ?_⟩
  · have h1 := (sqD_mono r0 t hs).sq
    obtain ⟨x, h2, p⟩ := (q0.mono r0 t).get (Option.some.inj h)
    refine ⟨⟨vs, x, h1, h2⟩, fun y H2 yl => ?_⟩
    obtain ⟨rfl, hy⟩ := yl
    have := hy vs h1
    rw [h2] at this; cases this
    exact ⟨.refl, r, .inl p⟩
  · refine ⟨vs, (sqD_mono r0 t hs).sq, ?_⟩
    rw [← q0.length]
    exact List.getElem?_eq_none_iff.mp (Option.some.inj h)
theorem sqF_mono {H' : Hp} {io' : List Addr} (r : SRel K H io S) (t : Stp io H io' H') {a : Addr} {vs : List V} (h : SqF K H a vs) : SqF K H' a vs := by
  rcases h with ⟨o, h⟩ | h
  · exact .inl ⟨o, t.keep _ _ h (r.notIn h (fun _ q => nomatch q) fun _ q => nomatch q)⟩
  · exact .inr h
theorem src_scr {a : Addr} {xs : List Val} {vs : List V} (r0 : SRel K H io S) (hs : SqF K H a vs) (q0 : Reps K H io xs vs) : SrcR K false (.scr xs) io H (Itl K a) := by
  refine ⟨fun H' io' S k v t r h => ?_, fun H' io' S k t r h => ?_⟩
  · have h1 := (sqF_mono r0 t hs).sq
    obtain ⟨x, h2, p⟩ := (q0.mono r0 t).get (Option.some.inj h)
    refine ⟨⟨vs, x, h1, h2⟩, fun y H2 yl => ?_⟩
    obtain ⟨rfl, hy⟩ := yl
    have := hy vs h1
    rw [h2] at this; cases this
    exact ⟨.refl, r, .inl p⟩
  · refine ⟨vs, (sqF_mono r0 t hs).sq, ?_⟩
    rw [← q0.length]
    exact List.getElem?_eq_none_iff.mp (Option.some.inj h)
theorem src_rng (lo : Int) (n : Nat) : SrcR K false (.rng lo n) io H (L2.Itr lo n) := by
  refine ⟨fun H' io' S k v t r h => ?_, fun H' io' S k t r h => ?_⟩
  · unfold Src.get at h
    have h := Option.some.inj h
    split at h
    · rename_i hk
      cases h
      refine ⟨hk, fun x H2 yl => ?_⟩
      obtain ⟨rfl, rfl⟩ := yl
      exact ⟨.refl, r, .inl (.int _)⟩
    · cases h
  · unfold Src.get at h
    have h := Option.some.inj h
    split at h
    · cases h
    · rename_i hk; exact Nat.le_of_not_lt hk
theorem src_str (z : Str) : SrcR K false (.str z) io H (Its z) := by
  refine ⟨fun H' io' S k v t r h => ?_, fun H' io' S k t r h => ?_⟩
  · unfold Src.get at h
    obtain ⟨c, h1, rfl⟩ := Option.map_eq_some_iff.mp (Option.some.inj h)
    have hk : k < z.cps.size := by have := (List.getElem?_eq_some_iff.mp h1).1; simpa using this
    refine ⟨hk, fun x H2 yl => ?_⟩
    obtain ⟨rfl, d, h2, rfl⟩ := yl
    have h3 : z.cps[k]? = some c := by simpa using h1
    rw [h3] at h2; cases h2
    exact ⟨.refl, r, .inl (.str _)⟩
  · unfold Src.get at h
    have h := Option.some.inj h
    rw [Option.map_eq_none_iff, List.getElem?_eq_none_iff] at h
    show z.cps.size ≤ k
    simpa using h
/-- a pair made for the turn -/
theorem pair_step {H' : Hp} {io' : List Addr} {S : Sto} {T : Addr} {x y : V} {v w : Val} (r : SRel K H' io' S) (hT : H' T = none) (p : Rep K H' io' v x) (p2 : Rep K H' io' w y) :
    Stp io' H' io' (upd H' T (.tup [x, y])) ∧ SRel K (upd H' T (.tup [x, y])) io' S ∧ ItR K true (upd H' T (.tup [x, y])) io' (.tup [v, w]) (.ref T) := by
  have np : T ∉ io' := fun z => by obtain ⟨_, e, _⟩ := r.mem z; rw [hT] at e; cases e
  have st : Stp io' H' io' (upd H' T (.tup [x, y])) := ⟨List.prefix_rfl, fun _ z => .inl z, fun b u e _ => by rw [upd_ne (ne_of_none e hT)]; exact e⟩
  exact ⟨st, ⟨r.len, r.nd, fun i o a h1 h2 => (r.at_ i o a h1 h2).mono_ne r st (upd_ne (fun z => np (by rw [← z]; exact List.mem_of_getElem? h2)))⟩,
    .inr ⟨rfl, _, _, _, rfl, rfl, SqT.of upd_same, .cons (p.mono r st) (.cons (p2.mono r st) .nil)⟩⟩
/-- lists by their two sources -/
def LSrc (K : PySem.W.Frag) (io : List Addr) (H : Hp) (a : Addr) (s : Src) : Prop := (∃ i, s = .lst i ∧ io[i]? = some a) ∨ ∃ xs vs S, s = .scr xs ∧ SRel K H io S ∧ SqF K H a vs ∧ Reps K H io xs vs
theorem LSrc.at {a : Addr} {s : Src} (h : LSrc K io H a s) {H' : Hp} {io' : List Addr} {S : Sto} (t : Stp io H io' H') (r : SRel K H' io' S) {k : Nat} {o : Option Val} (hg : s.get S k = some o) :
    ∃ vs, SqL K H' a vs ∧ (∀ v, o = some v → ∃ x, vs[k]? = some x ∧ Rep K H' io' v x) ∧ (o = none → vs.length ≤ k) := by
  rcases h with ⟨i, rfl, e⟩ | ⟨xs, vs, S0, rfl, r0, hs, q0⟩
  · unfold Src.get at hg
    split at hg
    · rename_i xs hx
      have e' : io'[i]? = some a := by
        obtain ⟨z, rfl⟩ := t.pre
        rw [List.getElem?_append_left (List.getElem?_eq_some_iff.mp e).1]; exact e
      obtain ⟨vs, h1, q⟩ := r.at_ _ _ _ hx e'
      refine ⟨vs, SqL.of h1, fun v ho => ?_, fun ho => ?_⟩
      · subst ho; exact q.get (Option.some.inj hg)
      · subst ho; rw [← q.length]; exact List.getElem?_eq_none_iff.mp (Option.some.inj hg)
    · cases hg
  · have q := q0.mono r0 t
    refine ⟨vs, (sqF_mono r0 t hs).sq, fun v ho => ?_, fun ho => ?_⟩
    · subst ho; exact q.get (Option.some.inj hg)
    · subst ho; rw [← q.length]; exact List.getElem?_eq_none_iff.mp (Option.some.inj hg)
theorem zip_get {s1 s2 : Src} {k : Nat} {o : Option Val} (h : (Src.zip s1 s2).get S k = some o) : ∃ o1 o2, s1.get S k = some o1 ∧ s2.get S k = some o2 ∧ o = (match o1, o2 with
    | some x, some y => some (.tup [x, y])
    | _, _ => none) := by
  rw [Src.get] at h
  cases e1 : Src.get S s1 k with
  | none => rw [e1] at h; cases e2 : Src.get S s2 k <;> rw [e2] at h <;> cases h
  | some o1 =>
    cases e2 : Src.get S s2 k with
    | none => rw [e1, e2] at h; cases o1 <;> cases h
    | some o2 => rw [e1, e2] at h; cases o1 <;> cases o2 <;> (cases h; exact ⟨_, _, rfl, rfl, rfl⟩)
theorem src_zipL {a b : Addr} {s1 s2 : Src} (h1 : LSrc K io H a s1) (h2 : LSrc K io H b s2) : SrcR K true (.zip s1 s2) io H (Itz K a b) := by
  refine ⟨fun H' io' S k v t r h => ?_, fun H' io' S k t r h => ?_⟩
  · obtain ⟨o1, o2, g1, g2, e⟩ := zip_get h
    obtain ⟨vs, l1, k1, _⟩ := h1.at t r g1
    obtain ⟨ws, l2, k2, _⟩ := h2.at t r g2
    cases o1 with
    | none => cases e
    | some x =>
      cases o2 with
      | none => cases e
      | some y =>
        cases e
        obtain ⟨x', e1, p1⟩ := k1 _ rfl
        obtain ⟨y', e2, p2⟩ := k2 _ rfl
        refine ⟨⟨vs, ws, x', y', l1, l2, e1, e2⟩, fun z H2 yl => ?_⟩
        obtain ⟨T, u, w, rfl, hT, rfl, m1, m2⟩ := yl
        have a1 := m1 vs l1
        have a2 := m2 ws l2
        rw [e1] at a1; rw [e2] at a2
        cases a1; cases a2
        exact pair_step r hT p1 p2
  · obtain ⟨o1, o2, g1, g2, e⟩ := zip_get h
    obtain ⟨vs, l1, _, k1⟩ := h1.at t r g1
    obtain ⟨ws, l2, _, k2⟩ := h2.at t r g2
    refine ⟨vs, ws, l1, l2, ?_⟩
    cases o1 with
    | none => exact .inl (k1 rfl)
    | some x =>
      cases o2 with
      | none => exact .inr (k2 rfl)
      | some y => cases e
theorem src_zipT {a b : Addr} {xs ys : List Val} {vs ws : List V} (r0 : SRel K H io S) (h1 : SqD K H a vs) (q1 : Reps K H io xs vs) (h2 : SqD K H b ws) (q2 : Reps K H io ys ws) : SrcR K true (.zip (.tup xs) (.tup ys)) io H (RZ.ItzT K a b) := by
  refine ⟨fun H' io' S k v t r h => ?_, fun H' io' S k t r h => ?_⟩
  · obtain ⟨o1, o2, g1, g2, e⟩ := zip_get h
    have l1 := (sqD_mono r0 t h1).sq
    have l2 := (sqD_mono r0 t h2).sq
    have g1 := Option.some.inj g1
    have g2 := Option.some.inj g2
    cases o1 with
    | none => cases e
    | some x =>
      cases o2 with
      | none => cases e
      | some y =>
        cases e
        obtain ⟨x', e1, p1⟩ := (q1.mono r0 t).get g1
        obtain ⟨y', e2, p2⟩ := (q2.mono r0 t).get g2
        refine ⟨⟨vs, ws, x', y', l1, l2, e1, e2⟩, fun z H2 yl => ?_⟩
        obtain ⟨T, u, w, rfl, hT, rfl, m1, m2⟩ := yl
        have a1 := m1 vs l1
        have a2 := m2 ws l2
        rw [e1] at a1; rw [e2] at a2
        cases a1; cases a2
        exact pair_step r hT p1 p2
  · obtain ⟨o1, o2, g1, g2, e⟩ := zip_get h
    refine ⟨vs, ws, (sqD_mono r0 t h1).sq, (sqD_mono r0 t h2).sq, ?_⟩
    have g1 := Option.some.inj g1
    have g2 := Option.some.inj g2
    cases o1 with
    | none => left; rw [← q1.length]; exact List.getElem?_eq_none_iff.mp g1
    | some x =>
      cases o2 with
      | none => right; rw [← q2.length]; exact List.getElem?_eq_none_iff.mp g2
      | some y => cases e
theorem src_enumL {a : Addr} {s1 : Src} (h1 : LSrc K io H a s1) : SrcR K true (.enum s1) io H (Ite K a) := by
  refine ⟨fun H' io' S k v t r h => ?_, fun H' io' S k t r h => ?_⟩
  · rw [Src.get] at h
    cases g : Src.get S s1 k with
    | none => rw [g] at h; cases h
    | some o =>
      rw [g] at h
      cases o with
      | none => cases h
      | some x =>
        cases h
        obtain ⟨vs, l1, k1, _⟩ := h1.at t r g
        obtain ⟨x', e1, p1⟩ := k1 _ rfl
        refine ⟨⟨vs, x', l1, e1⟩, fun z H2 yl => ?_⟩
        obtain ⟨T, u, rfl, hT, rfl, m1⟩ := yl
        have a1 := m1 vs l1
        rw [e1] at a1; cases a1
        exact pair_step r hT (.int _) p1
  · rw [Src.get] at h
    cases g : Src.get S s1 k with
    | none => rw [g] at h; cases h
    | some o =>
      rw [g] at h
      cases o with
      | some x => cases h
      | none =>
        obtain ⟨vs, l1, _, k1⟩ := h1.at t r g
        exact ⟨vs, l1, k1 rfl⟩
end
theorem PI.or {X : Cx} {tg e : Expr} {a b : TI} (h : PI X tg e a) (k : PI X tg e b) : PI X tg e (fun σ H R => a σ H R ∨ b σ H R) := ⟨fun pins s σ H R I q => by
  rcases q with q | q
  · exact h.run pins s σ H R I q
  · exact k.run pins s σ H R I q⟩
section
variable {X : Cx} {tg e e2 : Expr} {m m2 : Ev → Sto → Rs Val} {p pos tpos : Pos} {elts : List Expr} {kk : Nat}
theorem i_seq (he : PE X e (tE X.K m)) : PI X tg e (tI X.K false fun r S => (m r S).bind fun x S1 => Rs.of (srcOf S1 x) S1) := by
  refine PI.imp' (PI.or (pi_list he) (PI.or (pi_tup he) (pi_str he))) fun σ H R ⟨r, S, io, er, q, g⟩ => ?_
  dsimp only at g
  cases hm : m r S with
  | no => rw [hm] at g; exact g.elim
  | ok v S1 =>
    rw [hm] at g
    simp only [Rs.bind_ok] at g
    cases hs : srcOf S1 v with
    | none => rw [hs] at g; exact g.elim
    | some src =>
      rw [hs] at g
      unfold srcOf at hs
      split at hs
      · cases hs
        refine .inr (.inl ⟨r, S, io, er, q, ?_⟩)
        rw [hm]
        intro H1 io1 x t1 q1 p1
        cases p1 with
        | tup s1 qs => exact ⟨_, rfl, ⟨_, s1.sq⟩, g H1 io1 _ t1 q1 (src_tup q1 s1 qs)⟩
      · cases hs
        refine .inl ⟨r, S, io, er, q, ?_⟩
        rw [hm]
        intro H1 io1 x t1 q1 p1
        cases p1 with
        | scr s1 qs => exact ⟨_, rfl, ⟨_, s1.sq⟩, g H1 io1 _ t1 q1 (src_scr q1 s1 qs)⟩
      · cases hs
        refine .inr (.inr ⟨r, S, io, er, q, ?_⟩)
        rw [hm]
        intro H1 io1 x t1 q1 p1
        cases p1
        exact ⟨_, rfl, g H1 io1 _ t1 q1 (src_str _)⟩
      · split at hs
        · rename_i hx
          cases hs
          refine .inl ⟨r, S, io, er, q, ?_⟩
          rw [hm]
          intro H1 io1 x t1 q1 p1
          obtain ⟨a, vs, rfl, e1, e2, qs⟩ := q1.lst hx p1
          exact ⟨_, rfl, ⟨_, SqL.of e2⟩, g H1 io1 _ t1 q1 (src_lst e1)⟩
        · cases hs
      · cases hs
theorem i_range1 (gl : Gl X "range") (hm : X.mg "range" = none) (ns : noStars [e] = true) (he : PE X e (tE X.K m)) :
    PI X tg (.Call (.Name "range" p) [e] [] pos) (tI X.K false fun r S => ((m r S).bind fun x S1 => (Rs.ok ([] : List Val) S1).bind fun xs S2 => .ok (x :: xs) S2).bind fun xs S1 => Rs.of (rangeOf xs) S1) := by
  obtain ⟨n1, n2⟩ := noStars_cons ns
  refine PI.imp' (pi_range1 gl hm (a_cons n1 he a_nil) (star_cons _ n1)) fun σ H R ⟨r, S, io, er, q, g⟩ => ?_
  refine ⟨r, S, io, er, q, ?_⟩
  dsimp only at g ⊢
  cases hm : m r S with
  | no => rw [hm] at g; exact g.elim
  | ok v S1 =>
    rw [hm] at g
    simp only [Rs.bind_ok] at g ⊢
    intro H1 io1 xs t1 q1 p1
    cases hr : rangeOf [v] with
    | none => rw [hr] at g; exact g.elim
    | some src =>
      rw [hr] at g
      unfold rangeOf at hr
      split at hr
      · rename_i j hj
        cases hj
        split at hr
        · rename_i hb
          cases hr
          simp only [Bool.and_eq_true, decide_eq_true_eq] at hb
          obtain ⟨x, rfl, px⟩ := p1.one
          cases px
          exact ⟨j, rfl, hb.1, hb.2, g H1 io1 _ t1 q1 (src_rng _ _)⟩
        · cases hr
      · rename_i hj; cases hj
      · cases hr
theorem i_range2 (gl : Gl X "range") (hm : X.mg "range" = none) (ns : noStars [e, e2] = true) (he : PE X e (tE X.K m)) (he2 : PE X e2 (tE X.K m2)) :
    PI X tg (.Call (.Name "range" p) [e, e2] [] pos) (tI X.K false fun r S => ((m r S).bind fun x S1 => ((m2 r S1).bind fun x S1 => (Rs.ok ([] : List Val) S1).bind fun xs S2 => .ok (x :: xs) S2).bind fun xs S2 => .ok (x :: xs) S2).bind fun xs S1 => Rs.of (rangeOf xs) S1) := by
  obtain ⟨n1, n2⟩ := noStars_cons ns
  obtain ⟨n3, n4⟩ := noStars_cons n2
  refine PI.imp' (pi_range2 gl hm (a_cons n1 he (a_cons n3 he2 a_nil)) (by rw [star_cons _ n1, star_cons _ n3]; rfl) (star_cons _ n3)) fun σ H R ⟨r, S, io, er, q, g⟩ => ?_
  refine ⟨r, S, io, er, q, ?_⟩
  dsimp only at g ⊢
  cases hm : m r S with
  | no => rw [hm] at g; exact g.elim
  | ok v S1 =>
    rw [hm] at g
    simp only [Rs.bind_ok] at g ⊢
    cases hm2 : m2 r S1 with
    | no => rw [hm2] at g; exact g.elim
    | ok v2 S2 =>
      rw [hm2] at g
      simp only [Rs.bind_ok] at g ⊢
      intro H1 io1 xs t1 q1 p1
      cases hr : rangeOf [v, v2] with
      | none => rw [hr] at g; exact g.elim
      | some src =>
        rw [hr] at g
        unfold rangeOf at hr
        split at hr
        · rename_i hj; cases hj
        · rename_i i j hj
          cases hj
          split at hr
          · rename_i hb
            cases hr
            simp only [Bool.and_eq_true, decide_eq_true_eq] at hb
            obtain ⟨x, y, rfl, px, py⟩ := p1.two
            cases px; cases py
            exact ⟨i, j, rfl, ⟨hb.1.1.1, hb.1.1.2, hb.1.2, hb.2⟩, g H1 io1 _ t1 q1 (src_rng _ _)⟩
          · cases hr
        · cases hr
end
end A46
end
section
namespace A46
open PySem PySem.Spec L2
section
variable {X : Cx} {tg e e2 : Expr} {m m2 : Ev → Sto → Rs Val} {p pos tpos : Pos} {elts : List Expr} {kk : Nat}
theorem lsrc_of {K : PySem.W.Frag} {H : Hp} {io : List Addr} {S : Sto} (q : SRel K H io S) {v : Val} {x : V} {s : Src} (h : srcOf S v = some s) (p : Rep K H io v x) :
    (∃ a vs, x = .ref a ∧ SqL K H a vs ∧ LSrc K io H a s) ∨ (∃ a xs vs, x = .ref a ∧ s = .tup xs ∧ SqD K H a vs ∧ Reps K H io xs vs) ∨ ∃ z, s = .str z := by
  unfold srcOf at h
  split at h
  · cases h
    cases p with
    | tup s1 qs => exact .inr (.inl ⟨_, _, _, rfl, rfl, s1, qs⟩)
  · cases h
    cases p with
    | scr s1 qs => exact .inl ⟨_, _, rfl, s1.sq, .inr ⟨_, _, S, rfl, q, s1, qs⟩⟩
  · cases h; exact .inr (.inr ⟨_, rfl⟩)
  · split at h
    · rename_i hx
      cases h
      obtain ⟨a, vs, rfl, e1, e2, qs⟩ := q.lst hx p
      exact .inl ⟨_, _, rfl, SqL.of e2, .inl ⟨_, rfl, e1⟩⟩
    · cases h
  · cases h
theorem i_zip (gl : Gl X "zip") (hm : X.mg "zip" = none) (ns : noStars [e, e2] = true) (he : PE X e (tE X.K m)) (he2 : PE X e2 (tE X.K m2)) :
    PI X (.Tuple elts kk tpos) (.Call (.Name "zip" p) [e, e2] [] pos) (tI X.K true fun r S => (m r S).bind fun x S1 => (m2 r S1).bind fun y S2 => match srcOf S2 x, srcOf S2 y with
      | some a, some b => if zipOk a b then .ok (.zip a b) S2 else .no
      | _, _ => .no) := by
  obtain ⟨n1, n2⟩ := noStars_cons ns
  obtain ⟨n3, n4⟩ := noStars_cons n2
  refine PI.imp' (RZ.pi_zipA gl hm (a_cons n1 he (a_cons n3 he2 a_nil)) (star_cons _ n1) (star_any _ _ n2)) fun σ H R ⟨r, S, io, er, q, g⟩ => ?_
  refine ⟨r, S, io, er, q, ?_⟩
  dsimp only at g ⊢
  cases hm : m r S with
  | no => rw [hm] at g; exact g.elim
  | ok v S1 =>
    rw [hm] at g
    simp only [Rs.bind_ok] at g ⊢
    cases hm2 : m2 r S1 with
    | no => rw [hm2] at g; exact g.elim
    | ok v2 S2 =>
      rw [hm2] at g
      simp only [Rs.bind_ok] at g ⊢
      intro H1 io1 xs t1 q1 p1
      obtain ⟨x, y, rfl, px, py⟩ := p1.two
      cases h1 : srcOf S2 v with
      | none => rw [h1] at g; exact g.elim
      | some a =>
        cases h2 : srcOf S2 v2 with
        | none => rw [h1, h2] at g; exact g.elim
        | some b =>
          rw [h1, h2] at g
          dsimp only at g
          cases hz : zipOk a b with
          | false => rw [hz] at g; exact g.elim
          | true =>
            rw [hz] at g
            rcases lsrc_of q1 h1 px with ⟨a1, vs1, rfl, l1, k1⟩ | ⟨a1, xs1, vs1, rfl, rfl, d1, k1⟩ | ⟨z, rfl⟩
            · rcases lsrc_of q1 h2 py with ⟨a2, vs2, rfl, l2, k2⟩ | ⟨a2, xs2, vs2, rfl, rfl, d2, k2⟩ | ⟨z, rfl⟩
              · exact ⟨a1, a2, vs1, vs2, rfl, .inl ⟨l1, l2, g H1 io1 _ t1 q1 (src_zipL k1 k2)⟩⟩
              · rcases k1 with ⟨i, rfl, _⟩ | ⟨_, _, _, rfl, _⟩ <;> exact Bool.noConfusion hz
              · rcases k1 with ⟨i, rfl, _⟩ | ⟨_, _, _, rfl, _⟩ <;> exact Bool.noConfusion hz
            · rcases lsrc_of q1 h2 py with ⟨a2, vs2, rfl, l2, k2⟩ | ⟨a2, xs2, vs2, rfl, rfl, d2, k2⟩ | ⟨z, rfl⟩
              · rcases k2 with ⟨i, rfl, _⟩ | ⟨_, _, _, rfl, _⟩ <;> exact Bool.noConfusion hz
              · exact ⟨a1, a2, vs1, vs2, rfl, .inr ⟨d1.sq, d2.sq, g H1 io1 _ t1 q1 (src_zipT q1 d1 k1 d2 k2)⟩⟩
              · exact Bool.noConfusion hz
            · cases b <;> exact Bool.noConfusion hz
theorem i_enum (gl : Gl X "enumerate") (hm : X.mg "enumerate" = none) (ns : noStars [e] = true) (he : PE X e (tE X.K m)) :
    PI X (.Tuple elts kk tpos) (.Call (.Name "enumerate" p) [e] [] pos) (tI X.K true fun r S => (m r S).bind fun x S1 => match srcOf S1 x with
      | some a => if enumOk a then .ok (.enum a) S1 else .no
      | none => .no) := by
  obtain ⟨n1, n2⟩ := noStars_cons ns
  refine PI.imp' (pi_enum gl hm (a_cons n1 he a_nil) (star_cons _ n1)) fun σ H R ⟨r, S, io, er, q, g⟩ => ?_
  refine ⟨r, S, io, er, q, ?_⟩
  dsimp only at g ⊢
  cases hm : m r S with
  | no => rw [hm] at g; exact g.elim
  | ok v S1 =>
    rw [hm] at g
    simp only [Rs.bind_ok] at g ⊢
    intro H1 io1 xs t1 q1 p1
    obtain ⟨x, rfl, px⟩ := p1.one
    cases h1 : srcOf S1 v with
    | none => rw [h1] at g; exact g.elim
    | some a =>
      rw [h1] at g
      dsimp only at g
      cases hz : enumOk a with
      | false => rw [hz] at g; exact g.elim
      | true =>
        rw [hz] at g
        rcases lsrc_of q1 h1 px with ⟨a1, vs1, rfl, l1, k1⟩ | ⟨a1, xs1, vs1, rfl, rfl, d1, k1⟩ | ⟨z, rfl⟩
        · exact ⟨a1, vs1, rfl, l1, g H1 io1 _ t1 q1 (src_enumL k1)⟩
        · exact Bool.noConfusion hz
        · exact Bool.noConfusion hz
end
theorem ERel.set {K : PySem.W.Frag} {H : Hp} {io : List Addr} {r : Ev} {σ : St} {v : Val} {x : V} (i : Nat) (e : ERel K H io r σ) (p : Rep K H io v x) : ERel K H io (r.set i (some v)) (σ.set i (some x)) := by
  refine ⟨by rw [List.length_set, List.length_set]; exact e.1, fun j w h => ?_⟩
  by_cases hj : i = j
  · subst hj
    by_cases hi : i < r.length
    · rw [List.getElem?_set_self hi] at h
      cases h
      exact ⟨x, by rw [List.getElem?_set_self (by rw [← e.1]; exact hi)], p⟩
    · rw [List.getElem?_eq_none (by rw [List.length_set]; omega)] at h; cases h
  · rw [List.getElem?_set_ne hj] at h
    rw [List.getElem?_set_ne hj]
    exact e.2 j w h
theorem ERel.setN {K : PySem.W.Frag} {H : Hp} {io : List Addr} {r : Ev} {σ : St} (i : Nat) (e : ERel K H io r σ) : ERel K H io (r.set i none) (σ.set i none) := by
  refine ⟨by rw [List.length_set, List.length_set]; exact e.1, fun j w h => ?_⟩
  by_cases hj : i = j
  · subst hj
    by_cases hi : i < r.length
    · rw [List.getElem?_set_self hi] at h; cases h
    · rw [List.getElem?_eq_none (by rw [List.length_set]; omega)] at h; cases h
  · rw [List.getElem?_set_ne hj] at h
    rw [List.getElem?_set_ne hj]
    exact e.2 j w h
theorem ERel.wipe {K : PySem.W.Frag} {H : Hp} {io : List Addr} {r : Ev} {σ : St} (e : ERel K H io r σ) : ∀ vs : List Nat, ERel K H io (wipeE r vs) (L2.wipe σ vs)
  | [] => e
  | v :: vs => (ERel.wipe e vs).setN v
def gNames : List Nat → TGs
  | [] => gNil
  | i :: r => gCons (gName i) (gNames r)
def gT (K : PySem.W.Frag) : Tg → TG
  | .nm i => gName i
  | .tp ts => gTup K ts.length (gNames ts)
theorem gNames_ok {K : PySem.W.Frag} {H : Hp} {io : List Addr} {Q : St → Hp → Prop} : ∀ {ts : List Nat} {xs : List Val} {vs : List V} {r r2 : Ev} {σ : St}, Reps K H io xs vs → ERel K H io r σ → bindAll ts xs r = some r2 →
    (∀ σ2, ERel K H io r2 σ2 → (∀ j, j ∉ ts → σ2[j]? = σ[j]?) → σ2.length = σ.length → Q σ2 H) → gNames ts vs σ H Q
  | [], [], _, _, _, _, q, e, h, k => by cases q; cases h; exact ⟨rfl, k _ e (fun _ _ => rfl) rfl⟩
  | i :: ts, x :: xs, _, r, r2, σ, q, e, h, k => by
    cases q with
    | cons p q =>
      refine ⟨_, _, rfl, ?_⟩
      refine gNames_ok q (e.set i p) h fun σ2 e2 h2 h3 => k σ2 e2 (fun j hj => ?_) (by rw [h3, List.length_set])
      rw [h2 j fun z => hj (List.mem_cons_of_mem _ z), List.getElem?_set_ne (fun z => hj (by rw [z]; exact List.mem_cons_self))]
  | [], _ :: _, _, _, _, _, _, _, h, _ => by cases h
  | _ :: _, [], _, _, _, _, _, _, h, _ => by cases h
def Tg.slots : Tg → List Nat
  | .nm i => [i]
  | .tp ts => ts
theorem bindAll_len : ∀ {ts : List Nat} {xs : List Val} {r r2 : Ev}, bindAll ts xs r = some r2 → xs.length = ts.length
  | [], [], _, _, _ => rfl
  | _ :: ts, _ :: xs, _, _, h => by rw [bindAll] at h; simp only [List.length_cons, bindAll_len h]
  | [], _ :: _, _, _, h => by cases h
  | _ :: _, [], _, _, h => by cases h
theorem gT_ok {K : PySem.W.Frag} {H : Hp} {io : List Addr} {b : Bool} {t : Tg} {v : Val} {x : V} {r r2 : Ev} {σ : St} {Q : St → Hp → Prop} (hb : b = true → ∃ ts, t = .tp ts) (p : ItR K b H io v x) (e : ERel K H io r σ) (h : t.bind v r = some r2)
    (k : ∀ σ2, ERel K H io r2 σ2 → (∀ j, j ∉ t.slots → σ2[j]? = σ[j]?) → σ2.length = σ.length → Q σ2 H) : gT K t x σ H Q := by
  cases t with
  | nm i =>
    cases h
    rcases p with p | ⟨rfl, _⟩
    · exact k _ (e.set i p) (fun j hj => List.getElem?_set_ne (fun z => hj (by rw [z]; exact List.mem_singleton.mpr rfl))) (List.length_set ..)
    · obtain ⟨ts, z⟩ := hb rfl; cases z
  | tp ts =>
    simp only [Tg.bind] at h
    cases v <;> simp only at h <;> first | cases h | skip
    rcases p with p | ⟨_, a, vs, ys, e1, rfl, hs, q⟩
    · cases p with
      | tup s1 q => exact ⟨_, _, rfl, s1.sq, by rw [← q.length]; exact bindAll_len h, gNames_ok q e h k⟩
    · cases e1
      exact ⟨_, _, rfl, hs, by rw [← q.length]; exact bindAll_len h, gNames_ok q e h k⟩
theorem wipe_get (σ : St) : ∀ (vs : List Nat) (j : Nat), (L2.wipe σ vs)[j]? = if j ∈ vs then (if j < σ.length then some none else none) else σ[j]?
  | [], j => by simp [L2.wipe]
  | v :: vs, j => by
    unfold L2.wipe
    by_cases hv : v = j
    · subst hv
      rw [if_pos List.mem_cons_self]
      by_cases hl : v < σ.length
      · rw [List.getElem?_set_self (by rw [wipe_length]; exact hl), if_pos hl]
      · rw [List.getElem?_eq_none (by rw [List.length_set, wipe_length]; omega), if_neg hl]
    · rw [List.getElem?_set_ne hv, wipe_get σ vs j]
      have : (j ∈ v :: vs) ↔ j ∈ vs := ⟨fun z => (List.mem_cons.mp z).resolve_left fun w => hv w.symm, List.mem_cons_of_mem _⟩
      simp only [this]
theorem wipe_same {σ σ2 : St} {vs ts : List Nat} (hts : ∀ i ∈ ts, i ∈ vs) (h : ∀ j, j ∉ ts → σ2[j]? = (L2.wipe σ vs)[j]?) (hl : σ2.length = (L2.wipe σ vs).length) : L2.wipe σ2 vs = L2.wipe σ vs := by
  refine List.ext_getElem? fun j => ?_
  have hl2 : σ2.length = σ.length := by rw [hl, wipe_length]
  rw [wipe_get σ2, wipe_get σ]
  by_cases hj : j ∈ vs
  · simp only [hj, if_true, hl2]
  · simp only [hj, if_false]
    rw [h j (fun z => hj (hts j z)), wipe_get, if_neg hj]
section
variable {K : PySem.W.Frag} {H : Hp} {io io2 : List Addr}
mutual
theorem Rep.ext (t : io <+: io2) : ∀ {v : Val} {x : V}, Rep K H io v x → Rep K H io2 v x
  | _, _, .non => .non
  | _, _, .bl b => .bl b
  | _, _, .int b => .int b
  | _, _, .str b => .str b
  | _, _, .tup h q => .tup h (Reps.ext t q)
  | _, _, .scr h q => .scr h (Reps.ext t q)
  | _, _, .ref h => .ref (by
      obtain ⟨z, rfl⟩ := t
      rw [List.getElem?_append_left (List.getElem?_eq_some_iff.mp h).1]; exact h)
  | _, _, .ty n => .ty n
theorem Reps.ext (t : io <+: io2) : ∀ {v : List Val} {x : List V}, Reps K H io v x → Reps K H io2 v x
  | _, _, .nil => .nil
  | _, _, .cons h q => .cons (Rep.ext t h) (Reps.ext t q)
end
theorem kvR.ext (t : io <+: io2) : ∀ {kvs : List (KeyV × Val)} {us : List (Key × V)}, kvR K H io kvs us → kvR K H io2 kvs us
  | [], [], _ => trivial
  | (_, _) :: _, (_, _) :: _, ⟨h1, h2, h3⟩ => ⟨h1, h2.ext t, kvR.ext t h3⟩
  | [], _ :: _, h => h.elim
  | _ :: _, [], h => h.elim
/-- an object that stands apart is taken into the store -/
theorem SRel.adopt {S : Sto} {D : Addr} {acc : List Val} {av : List V} (r : SRel K H io S) (nD : D ∉ io) (hD : H D = some (.lst av)) (q : Reps K H io acc av) : SRel K H (io ++ [D]) (S ++ [.lst acc]) := by
  have t : io <+: io ++ [D] := List.prefix_append _ _
  refine ⟨by simp [r.len], ?_, fun i o a h1 h2 => ?_⟩
  · rw [List.nodup_append]
    exact ⟨r.nd, by simp, fun a ha b hb => by rw [List.mem_singleton.mp hb]; exact fun z => nD (z ▸ ha)⟩
  · by_cases hi : i < S.length
    · rw [List.getElem?_append_left hi] at h1
      rw [List.getElem?_append_left (by rw [r.len]; exact hi)] at h2
      have z := r.at_ i o a h1 h2
      cases o with
      | lst xs => obtain ⟨vs, z1, z2⟩ := z; exact ⟨vs, z1, z2.ext t⟩
      | dct kvs => obtain ⟨us, z1, z2⟩ := z; exact ⟨us, z1, z2.ext t⟩
    · have e : i = S.length := by
        have := (List.getElem?_eq_some_iff.mp h1).1
        simp at this; omega
      subst e
      rw [List.getElem?_append_right (Nat.le_refl _)] at h1
      rw [List.getElem?_append_right (by rw [r.len]; exact Nat.le_refl _), r.len] at h2
      simp at h1 h2
      subst h1; subst h2
      exact ⟨av, hD, q.ext t⟩
/-- an object that stands apart is changed -/
theorem SRel.aside {S : Sto} {D : Addr} {u : HO} (r : SRel K H io S) (nD : D ∉ io) (hm : ∃ av, H D = some (.lst av)) : SRel K (upd H D u) io S ∧ ∀ {v : Val} {x : V}, Rep K H io v x → Rep K (upd H D u) io v x := by
  obtain ⟨av, hD⟩ := hm
  have st : ∀ a, a ≠ D → upd H D u a = H a := fun a h => upd_ne h
  have sd : ∀ {a : Addr} {vs : List V}, SqD K H a vs → SqD K (upd H D u) a vs := fun {a vs} h => by
    rcases h with ⟨o, d, h⟩ | h
    · refine .inl ⟨o, d, ?_⟩
      rw [st a (fun z => by rw [z, hD] at h; cases h)]; exact h
    · exact .inr h
  have sf : ∀ {a : Addr} {vs : List V}, SqF K H a vs → SqF K (upd H D u) a vs := fun {a vs} h => by
    rcases h with ⟨o, h⟩ | h
    · refine .inl ⟨o, ?_⟩
      rw [st a (fun z => by rw [z, hD] at h; cases h)]; exact h
    · exact .inr h
  have rep : ∀ (n : Nat), (∀ (v : Val) (x : V), sizeOf v ≤ n → Rep K H io v x → Rep K (upd H D u) io v x) ∧ ∀ (v : List Val) (x : List V), sizeOf v ≤ n → Reps K H io v x → Reps K (upd H D u) io v x := by
    intro n
    induction n with
    | zero =>
      refine ⟨fun v x hz p => ?_, fun v x hz p => ?_⟩
      · cases v <;> simp at hz
      · cases v <;> simp at hz
    | succ n ih =>
      refine ⟨fun v x hz p => ?_, fun v x hz p => ?_⟩
      · cases p with
        | non => exact .non
        | bl b => exact .bl b
        | int b => exact .int b
        | str b => exact .str b
        | tup h q => exact .tup (sd h) (ih.2 _ _ (by simp at hz; omega) q)
        | scr h q => exact .scr (sf h) (ih.2 _ _ (by simp at hz; omega) q)
        | ref h => exact .ref h
        | ty n => exact .ty n
      · cases p with
        | nil => exact .nil
        | cons p q => exact .cons (ih.1 _ _ (by simp at hz; omega) p) (ih.2 _ _ (by simp at hz; omega) q)
  have rp : ∀ {v : Val} {x : V}, Rep K H io v x → Rep K (upd H D u) io v x := fun p => (rep _).1 _ _ (Nat.le_refl _) p
  have rps : ∀ {v : List Val} {x : List V}, Reps K H io v x → Reps K (upd H D u) io v x := fun p => (rep _).2 _ _ (Nat.le_refl _) p
  have rkv : ∀ {kvs : List (KeyV × Val)} {us : List (Key × V)}, kvR K H io kvs us → kvR K (upd H D u) io kvs us := by
    intro kvs
    induction kvs with
    | nil => intro us h; cases us <;> first | trivial | exact h.elim
    | cons q r ih =>
      intro us h
      cases us with
      | nil => exact h.elim
      | cons w t =>
        obtain ⟨k, v⟩ := q
        obtain ⟨c, x⟩ := w
        obtain ⟨h1, h2, h3⟩ := h
        exact ⟨h1, rp h2, ih h3⟩
  refine ⟨⟨r.len, r.nd, fun i o a h1 h2 => ?_⟩, rp⟩
  have ha : a ≠ D := fun z => nD (by rw [← z]; exact List.mem_of_getElem? h2)
  have z := r.at_ i o a h1 h2
  cases o with
  | lst xs => obtain ⟨vs, z1, z2⟩ := z; exact ⟨vs, (st a ha).trans z1, rps z2⟩
  | dct kvs => obtain ⟨us, z1, z2⟩ := z; exact ⟨us, (st a ha).trans z1, rkv z2⟩
end
section
variable {X : Cx} {elt tg iter : Expr} {ifs : List Expr} {scope : Scope} {own : List (Str × Nat)} {pos : Pos}
abbrev lcStep (t : Tg) (vs : List Nat) (mc : Ev → Sto → Rs Bool) (me : Ev → Sto → Rs Val) (r : Ev) : Val → Sto → Rs (Option Val) := fun x S2 => match t.bind x (wipeE r vs) with
      | none => .no
      | some r2 => (mc r2 S2).bind fun b S3 => if b then (me r2 S3).bind fun y S4 => .ok (some y) S4 else .ok none S3
abbrev lcM (mi : Ev → Sto → Rs Src) (t : Tg) (vs : List Nat) (mc : Ev → Sto → Rs Bool) (me : Ev → Sto → Rs Val) : Ev → Sto → Rs Val := fun r S => (mi r S).bind fun src S1 => (turns src (lcStep t vs mc me r) (src.size S1) 0 S1).bind fun ys S2 => if ys.length ≤ lim then alloc (.lst ys) S2 else .no
theorem tLc_ok {K : PySem.W.Frag} {b : Bool} {mi : Ev → Sto → Rs Src} {t : Tg} {vs : List Nat} {mc : Ev → Sto → Rs Bool} {me : Ev → Sto → Rs Val} {σ : St} {H : Hp} {Q : VK} (hb : b = true → ∃ ts, t = .tp ts) (hts : ∀ i ∈ t.slots, i ∈ vs)
    (h : tE K (lcM mi t vs mc me) σ H Q) : tLc (tI K b mi) (gT K t) (tB' K mc) (tE K me) vs σ H Q := by
  obtain ⟨r, S, io, er, q, g⟩ := h
  refine ⟨r, S, io, er, q, ?_⟩
  dsimp only [lcM] at g
  cases hmi : mi r S with
  | no => rw [hmi] at g; exact g.elim
  | ok src S1 =>
    rw [hmi] at g
    simp only [Rs.bind_ok] at g
    intro H1 io1 J t1 q1 sr D hD
    have g1 := Go.later t1 g
    have nD : D ∉ io1 := fun z => by obtain ⟨_, e, _⟩ := q1.mem z; rw [hD] at e; cases e
    refine ⟨fun i m Hn => ∃ (S' : Sto) (io' : List Addr) (acc : List Val) (av : List V), Stp io1 H1 io' Hn ∧ SRel K Hn io' S' ∧ D ∉ io' ∧ Hn D = some (.lst av) ∧ Reps K Hn io' acc av ∧
      Go K (Rep K) H1 io1 ((turns src (lcStep t vs mc me r) m i S').bind fun ys S2 => if (acc ++ ys).length ≤ lim then alloc (.lst (acc ++ ys)) S2 else .no) Q, ⟨src.size S1, S1, io1, [], [], ?_, ?_, nD, upd_same, .nil, g1⟩, ?_⟩
    · exact ⟨List.prefix_rfl, fun _ z => .inl z, fun b u e _ => by rw [upd_ne (ne_of_none e hD)]; exact e⟩
    · have st : Stp io1 H1 io1 (upd H1 D (.lst [])) := ⟨List.prefix_rfl, fun _ z => .inl z, fun b u e _ => by rw [upd_ne (ne_of_none e hD)]; exact e⟩
      exact ⟨q1.len, q1.nd, fun i o a h1 h2 => (q1.at_ i o a h1 h2).mono_ne q1 st (upd_ne (fun z => nD (by rw [← z]; exact List.mem_of_getElem? h2)))⟩
    · rintro i m Hn ⟨S', io', acc, av, st, q', nD', hDn, qa, gg⟩
      rw [turns] at gg
      cases hg : src.get S' i with
      | none => rw [hg] at gg; exact gg.elim
      | some o =>
        rw [hg] at gg
        cases o with
        | none =>
          left
          refine ⟨sr.stop Hn io' S' i st q' hg, ?_⟩
          simp only [Rs.bind_ok, List.append_nil] at gg
          split at gg
          · have st2 : Stp io1 H1 (io' ++ [D]) Hn := ⟨st.pre.trans (List.prefix_append _ _), fun b hb => by
              rcases List.mem_append.mp hb with z | z
              · exact st.fresh b z
              · rw [List.mem_singleton.mp z]; exact .inr hD, st.keep⟩
            refine gg _ _ _ st2 (q'.adopt nD' hDn qa) (.ref ?_)
            rw [← q'.len, List.getElem?_append_right (Nat.le_refl _)]; simp
          · exact gg.elim
        | some v =>
          right
          obtain ⟨go, yl⟩ := sr.go Hn io' S' i v st q' hg
          refine ⟨go, ?_⟩
          cases m with
          | zero => exact gg.elim
          | succ m =>
            simp only at gg
            refine ⟨fun Hx => ∃ (S' : Sto) (io' : List Addr) (acc : List Val) (av : List V), Stp io1 H1 io' Hx ∧ SRel K Hx io' S' ∧ D ∉ io' ∧ Hx D = some (.lst av) ∧ Reps K Hx io' acc av ∧
              Go K (Rep K) H1 io1 ((turns src (lcStep t vs mc me r) m (i + 1) S').bind fun ys S2 => if (acc ++ ys).length ≤ lim then alloc (.lst (acc ++ ys)) S2 else .no) Q, fun Hx w => ⟨m, Nat.lt_succ_self _, w⟩, fun x H2 y2 => ?_⟩
            obtain ⟨st2, q2, pit⟩ := yl x H2 y2
            have sta := st.trans st2
            have keepD : ∀ {ioa ioB : List Addr} {Ha Hb : Hp} {w : List V}, Stp ioa Ha ioB Hb → D ∉ ioa → Ha D = some (.lst w) → D ∉ ioB ∧ Hb D = some (.lst w) := fun {ioa ioB Ha Hb w} tt nd hd => by
              refine ⟨fun z => ?_, tt.keep _ _ hd nd⟩
              rcases tt.fresh _ z with z | z
              · exact nd z
              · rw [hd] at z; cases z
            obtain ⟨nD2, hD2⟩ := keepD st2 nD' hDn
            cases hbind : t.bind v (wipeE r vs) with
            | none =>
              simp only [lcStep, hbind] at gg
              exact gg.elim
            | some r2 =>
              have e0 : ERel K H2 io' (wipeE r vs) (L2.wipe σ vs) := (er.mono q (t1.trans sta)).wipe vs
              refine gT_ok hb pit e0 hbind fun σ2 e2 hk hl => ⟨wipe_same hts hk hl, ?_⟩
              simp only [lcStep, hbind] at gg
              refine ⟨r2, S', io', e2, q2, ?_⟩
              cases hmc : mc r2 S' with
              | no => rw [hmc] at gg; exact gg.elim
              | ok bb S3 =>
                rw [hmc] at gg
                simp only [Rs.bind_ok] at gg
                intro H3 io3 b3 t3 q3 eb
                subst eb
                obtain ⟨nD3, hD3⟩ := keepD t3 nD2 hD2
                cases bb with
                | false =>
                  simp only [Bool.false_eq_true, if_false, Rs.bind_ok] at gg ⊢
                  refine ⟨S3, io3, acc, av, sta.trans t3, q3, nD3, hD3, (qa.mono q' (st2.trans t3)), ?_⟩
                  rw [Rs.assoc] at gg
                  exact gg
                | true =>
                  simp only [if_true] at gg ⊢
                  refine ⟨r2, S3, io3, e2.mono q2 t3, q3, ?_⟩
                  cases hme : me r2 S3 with
                  | no => rw [hme] at gg; exact gg.elim
                  | ok y S4 =>
                    rw [hme] at gg
                    simp only [Rs.bind_ok, Rs.assoc] at gg
                    intro H4 io4 yv t4 q4 py
                    obtain ⟨nD4, hD4⟩ := keepD t4 nD3 hD3
                    have qa4 := qa.mono q' (st2.trans (t3.trans t4))
                    have lenb : (acc ++ [y]).length ≤ lim := by
                      cases ht : turns src (lcStep t vs mc me r) m (i + 1) S4 with
                      | no => rw [ht] at gg; exact gg.elim
                      | ok rest S5 =>
                        rw [ht] at gg
                        simp only [Rs.bind_ok] at gg
                        split at gg
                        · rename_i hh
                          simp only [List.length_append, List.length_cons, List.length_nil] at hh ⊢
                          omega
                        · exact gg.elim
                    refine ⟨av, hD4, ?_, ?_⟩
                    · have := qa4.length
                      simp only [List.length_append, List.length_cons, List.length_nil] at lenb
                      show av.length < lim
                      omega
                    · obtain ⟨q5, rp5⟩ := q4.aside (u := .lst (av ++ [yv])) nD4 ⟨av, hD4⟩
                      have rps5 : ∀ {v : List Val} {x : List V}, Reps K H4 io4 v x → Reps K (upd H4 D (.lst (av ++ [yv]))) io4 v x := by
                        intro v
                        induction v with
                        | nil => intro x h; cases h; exact .nil
                        | cons a b ih => intro x h; cases h with
                          | cons p q => exact .cons (rp5 p) (ih q)
                      refine ⟨S4, io4, acc ++ [y], av ++ [yv], ⟨(sta.trans (t3.trans t4)).pre, (sta.trans (t3.trans t4)).fresh, fun b o h hb => ?_⟩, q5, nD4, upd_same, rps5 (qa4.append (.cons py .nil)), ?_⟩
                      · have hbD : b ≠ D := fun z => by rw [z, hD] at h; cases h
                        rw [upd_ne hbD]
                        exact (sta.trans (t3.trans t4)).keep b o h hb
                      · have eq : ∀ rest : List Val, acc ++ [y] ++ rest = acc ++ (y :: rest) := fun rest => by simp
                        simp only [eq]
                        exact gg
theorem d_lc {b : Bool} {mi : Ev → Sto → Rs Src} {t : Tg} {mc : Ev → Sto → Rs Bool} {me : Ev → Sto → Rs Val} (hc : X.calm = true) (hN : X.N.Nodup) (ok : BlkOk X.N X.env.scope scope own) (hb : b = true → ∃ ts, t = .tp ts) (hts : ∀ i ∈ t.slots, i ∈ own.map (·.2))
    (hs : ∀ x, foldedSetIterable iter X.env x = pure x) (hi : PI X tg iter (tI X.K b mi)) (hg : ∀ (s : Shared) (H : Hp) (C : Addr) (cl : List (Str × Addr)) (fp : List Addr), PG (X.blk s H scope (compEnvC scope cl C X.env) fp) tg (gT X.K t))
    (ht : ∀ (s : Shared) (H : Hp) (C : Addr) (cl : List (Str × Addr)) (fp : List Addr), PTs (X.blk s H scope (compEnvC scope cl C X.env) fp) ifs (tB' X.K mc))
    (he : ∀ (s : Shared) (H : Hp) (C : Addr) (cl : List (Str × Addr)) (fp : List Addr), PE (X.blk s H scope (compEnvC scope cl C X.env) fp) elt (tE X.K me)) :
    PE X (.ListComp elt [⟨tg, iter, ifs, 0⟩] scope pos) (tE X.K (lcM mi t (own.map (·.2)) mc me)) :=
  PE.imp' (pe_lc hc hN hi ok hg ht he hs) fun σ H Q h => tLc_ok hb hts h
end
end A46
end
section
namespace A46
open PySem PySem.Spec L2
def GoS (K : PySem.W.Frag) (D : Ends) (H : Hp) (io : List Addr) (q : Rs (Fl × Ev)) : Prop := match q with
  | .ok (.nx, r') S' => ∀ H' io' σ', Stp io H io' H' → SRel K H' io' S' → ERel K H' io' r' σ' → D.nx σ' H'
  | .ok (.rt v, _) S' => ∀ H' io' x, Stp io H io' H' → SRel K H' io' S' → Rep K H' io' v x → D.rt x H'
  | .no => False
theorem tSt_def {K : PySem.W.Frag} {m : Ev → Sto → Rs (Fl × Ev)} {D : Ends} {σ : St} {H : Hp} : tSt K m D σ H ↔ ∃ r S io, ERel K H io r σ ∧ SRel K H io S ∧ GoS K D H io (m r S) := Iff.rfl
theorem GoS.later {K : PySem.W.Frag} {D : Ends} {H H' : Hp} {io io' : List Addr} {q : Rs (Fl × Ev)} (t : Stp io H io' H') (h : GoS K D H io q) : GoS K D H' io' q := by
  cases q with
  | no => exact h
  | ok a S =>
    obtain ⟨fl, r⟩ := a
    cases fl with
    | nx => exact fun H2 io2 σ2 t2 r2 e2 => h H2 io2 σ2 (t.trans t2) r2 e2
    | rt v => exact fun H2 io2 σ2 t2 r2 e2 => h H2 io2 σ2 (t.trans t2) r2 e2
section
variable {X : Cx} {e : Expr} {pos : Pos} {m : Ev → Sto → Rs Val}
def isComp : Expr → Bool
  | .ListComp .. => true
  | .SetComp .. => true
  | .DictComp .. => true
  | _ => false
theorem swaps_no {tg : Option Expr} {l : Nat} {env : Env} (h : isComp e = false) : swapsWith e tg l env = pure false := by
  unfold swapsWith
  cases e <;> first | rfl | exact Bool.noConfusion h
/-- behind a value -/
theorem GoS.val {K : PySem.W.Frag} {D : Ends} {H : Hp} {io : List Addr} {q : Rs Val} {f : Val → Sto → Rs (Fl × Ev)} (g : GoS K D H io (q.bind f)) :
    Go K (Rep K) H io q fun x H1 => ∃ v S1 io1, Stp io H io1 H1 ∧ SRel K H1 io1 S1 ∧ Rep K H1 io1 v x ∧ GoS K D H1 io1 (f v S1) := by
  cases q with
  | no => exact g
  | ok v S => exact fun H1 io1 x t r p => ⟨v, S, io1, t, r, p, GoS.later t g⟩
theorem s_expr (hn : isComp e = false) (he : PE X e (tE X.K m)) : PS X (.Expr e pos) (tSt X.K fun r S => (m r S).bind fun _ S1 => .ok (.nx, r) S1) := by
  refine PS.imp' (ps_expr he (swaps_no hn)) fun D σ H h => ?_
  obtain ⟨r, S, io, er, q, g⟩ := tSt_def.mp h
  exact ⟨r, S, io, er, q, Go.imp (GoS.val g) fun x H1 ⟨v, S1, io1, t1, q1, p1, g1⟩ => g1 H1 io1 σ .refl q1 (er.mono q t1)⟩
theorem s_ret (he : PE X e (tE X.K m)) : PS X (.Return (some e) pos) (tSt X.K fun r S => (m r S).bind fun v S1 => .ok (.rt v, r) S1) := by
  refine PS.imp' (ps_ret he) fun D σ H h => ?_
  obtain ⟨r, S, io, er, q, g⟩ := tSt_def.mp h
  exact ⟨r, S, io, er, q, Go.imp (GoS.val g) fun x H1 ⟨v, S1, io1, t1, q1, p1, g1⟩ => g1 H1 io1 x .refl q1 p1⟩
theorem s_pass : PS X (.Pass pos) (tSt X.K fun r S => .ok (.nx, r) S) := by
  refine PS.imp' ps_pass fun D σ H h => ?_
  obtain ⟨r, S, io, er, q, g⟩ := tSt_def.mp h
  exact g H io σ .refl q er
theorem ss_nil : PSs X [] (tSt X.K fun r S => .ok (.nx, r) S) := by
  refine PSs.imp' pss_nil fun D σ H h => ?_
  obtain ⟨r, S, io, er, q, g⟩ := tSt_def.mp h
  exact g H io σ .refl q er
theorem ss_cons {st : Stmt} {rest : List Stmt} {ma mb : Ev → Sto → Rs (Fl × Ev)} (h1 : PS X st (tSt X.K ma)) (h2 : PSs X rest (tSt X.K mb)) :
    PSs X (st :: rest) (tSt X.K fun r S => (ma r S).bind fun q S1 => match q.1 with
      | .rt v => .ok (.rt v, q.2) S1
      | .nx => mb q.2 S1) := by
  refine PSs.imp' (pss_cons h1 h2) fun D σ H h => ?_
  obtain ⟨r, S, io, er, q, g⟩ := tSt_def.mp h
  refine ⟨r, S, io, er, q, ?_⟩
  cases hm : ma r S with
  | no => rw [hm] at g; exact g.elim
  | ok a S1 =>
    obtain ⟨fl, r1⟩ := a
    rw [hm] at g
    simp only [Rs.bind_ok] at g
    cases fl with
    | rt v => exact g
    | nx => exact fun H1 io1 σ1 t1 q1 e1 => ⟨r1, S1, io1, e1, q1, GoS.later t1 g⟩
theorem s_if {c : Expr} {a b : List Stmt} {mc : Ev → Sto → Rs Val} {ma mb : Ev → Sto → Rs (Fl × Ev)} (hc : PT X c (tT X.K mc)) (ha : PSs X a (tSt X.K ma)) (hb : PSs X b (tSt X.K mb)) :
    PS X (.If c a b pos) (tSt X.K fun r S => (mc r S).bind fun x S1 => (tst S1 x).bind fun t S2 => if t then ma r S2 else mb r S2) := by
  refine PS.imp' (ps_if hc ha hb) fun D σ H h => ?_
  obtain ⟨r, S, io, er, q, g⟩ := tSt_def.mp h
  refine ⟨r, S, io, er, q, ?_⟩
  dsimp only at g ⊢
  rw [← Rs.assoc] at g
  cases hm : (mc r S).bind fun x S1 => tst S1 x with
  | no => rw [hm] at g; exact g.elim
  | ok k S1 =>
    rw [hm] at g
    simp only [Rs.bind_ok] at g
    intro H1 io1 b t1 q1 eb
    subst eb
    cases k with
    | true => exact ⟨r, S1, io1, er.mono q t1, q1, GoS.later t1 g⟩
    | false => exact ⟨r, S1, io1, er.mono q t1, q1, GoS.later t1 g⟩
theorem s_set {i : Nat} {x : Str} {pos' : Pos} (hN : X.N.Nodup) (hi : X.N[i]? = some x) (hx : Loc X.env.scope x) (hf : X.fn x = true ∨ X.env.scope.names.lookup x = some .local) (hsw : swapsWith e (some (.Name x pos')) pos.line X.env = pure false) (he : PE X e (tE X.K m)) :
    PS X (.Assign [.Name x pos'] e pos) (tSt X.K fun r S => (m r S).bind fun v S1 => .ok (.nx, r.set i (some v)) S1) := by
  refine PS.imp' (ps_set hN hi hx he hsw hf) fun D σ H h => ?_
  obtain ⟨r, S, io, er, q, g⟩ := tSt_def.mp h
  exact ⟨r, S, io, er, q, Go.imp (GoS.val g) fun y H1 ⟨v, S1, io1, t1, q1, p1, g1⟩ => g1 H1 io1 _ .refl q1 ((er.mono q t1).set i p1)⟩
theorem s_tup {es : List Expr} {kk : Nat} {tpos : Pos} {ts : List Nat} (hc : X.calm = true) (hg : PG X (.Tuple es kk tpos) (gT X.K (.tp ts))) (hsw : swapsWithSole [.Tuple es kk tpos] e pos.line X.env = pure false) (hw : swappedStores [.Tuple es kk tpos] e X.env = pure none) (he : PE X e (tE X.K m)) :
    PS X (.Assign [.Tuple es kk tpos] e pos) (tSt X.K fun r S => (m r S).bind fun v S1 => (Rs.of ((Tg.tp ts).bind v r) S1).bind fun r2 S2 => .ok (.nx, r2) S2) := by
  refine PS.imp' (ps_asg he hg hsw hw) fun D σ H h => ?_
  obtain ⟨r, S, io, er, q, g⟩ := tSt_def.mp h
  refine ⟨r, S, io, er, q, Go.imp (GoS.val g) fun y H1 ⟨v, S1, io1, t1, q1, p1, g1⟩ => ?_⟩
  cases hb : (Tg.tp ts).bind v r with
  | none => rw [hb] at g1; exact g1.elim
  | some r2 =>
    rw [hb] at g1
    exact gT_ok (b := false) (fun z => Bool.noConfusion z) (.inl p1) (er.mono q t1) hb fun σ2 e2 _ _ => g1 H1 io1 σ2 .refl q1 e2
theorem s_par {x y : Str} {i j : Nat} {a b : Expr} {px py pt : Pos} {kt k2 : Nat} {pt2 : Pos} {ma mb : Ev → Sto → Rs Val} (hc : X.calm = true) (hN : X.N.Nodup) (hi : X.N[i]? = some x) (hj : X.N[j]? = some y) (hij : i ≠ j)
    (hx : X.env.scope.names.lookup x = some .local) (hy : X.env.scope.names.lookup y = some .local) (hw : swappedStores [.Tuple [.Name x px, .Name y py] kt pt] (.Tuple [a, b] k2 pt2) X.env = pure (some [x, y]))
    (ns : noStars [a, b] = true) (ha : PE X a (tE X.K ma)) (hb : PE X b (tE X.K mb)) :
    PS X (.Assign [.Tuple [.Name x px, .Name y py] kt pt] (.Tuple [a, b] k2 pt2) pos) (tSt X.K fun r S => (((ma r S).bind fun x S1 => ((mb r S1).bind fun x S1 => (Rs.ok ([] : List Val) S1).bind fun xs S2 => .ok (x :: xs) S2).bind fun xs S2 => .ok (x :: xs) S2).bind fun xs S1 => if xs.length ≤ lim then .ok (.tup xs) S1 else .no).bind
      fun v S1 => (Rs.of ((Tg.tp [i, j]).bind v r) S1).bind fun r2 S2 => .ok (.nx, r2) S2) := by
  obtain ⟨n1, n2⟩ := noStars_cons ns
  obtain ⟨n3, n4⟩ := noStars_cons n2
  refine PS.imp' (ps_par hc hN hi hj hij hx hy (a_cons n1 ha (a_cons n3 hb a_nil)) hw (by unfold swapsWithSole; exact swaps_no rfl)) fun D σ H h => ?_
  obtain ⟨r, S, io, er, q, g⟩ := tSt_def.mp h
  refine ⟨r, S, io, er, q, ?_⟩
  dsimp only at g ⊢
  cases h1 : ma r S with
  | no => rw [h1] at g; exact g.elim
  | ok v S1 =>
    rw [h1] at g
    simp only [Rs.bind_ok] at g ⊢
    cases h2 : mb r S1 with
    | no => rw [h2] at g; exact g.elim
    | ok w S2 =>
      rw [h2] at g
      simp only [Rs.bind_ok] at g ⊢
      rw [if_pos (by show 2 ≤ lim; decide)] at g
      simp only [Rs.bind_ok, Tg.bind, bindAll, Rs.of_some] at g
      intro H1 io1 xs t1 q1 p1
      obtain ⟨x', y', rfl, pa, pb⟩ := p1.two
      exact ⟨x', y', rfl, g H1 io1 _ t1 q1 (((er.mono q t1).set i pa).set j pb)⟩
end
theorem set_dictF {X : Cx} (hu : X.A.units + 1 < cLine) : PSet X (fun o i v H Q => ∃ a H', o = .ref a ∧ DPut H a i v H' ∧ Q H') := by
  intro pins s σ H o i v ov iv u Q I ro ri rv h
  obtain ⟨a, H', rfl, g, q⟩ := h
  cases ro
  exact d_setItem hu I g ri rv fun s' I' => ⟨H', I', q⟩
theorem PSet.or {X : Cx} {a b : TSet} (h : PSet X a) (k : PSet X b) : PSet X (fun o i v H Q => a o i v H Q ∨ b o i v H Q) := by
  intro pins s σ H o i v ov iv u Q I ro ri rv q
  rcases q with q | q
  · exact h pins s σ H o i v ov iv u Q I ro ri rv q
  · exact k pins s σ H o i v ov iv u Q I ro ri rv q
abbrev rSetAll : TSet := fun o i v H Q => rSetL o i v H Q ∨ ∃ a H', o = .ref a ∧ DPut H a i v H' ∧ Q H'
theorem setAll {X : Cx} (hu : X.A.units + 1 < cLine) : PSet X rSetAll := PSet.or set_list (set_dictF hu)
theorem set_ok {K : PySem.W.Frag} {H : Hp} {io : List Addr} {S S' : Sto} {o i v : Val} {x y z : V} {Q : Hp → Prop} (r : SRel K H io S) (po : Rep K H io o x) (pi : Rep K H io i y) (pv : Rep K H io v z) (h : setItem o i v S = some S')
    (k : ∀ H', Stp io H io H' → SRel K H' io S' → Q H') : rSetAll x y z H Q := by
  unfold A46.setItem at h
  split at h
  · split at h
    · rename_i xs kk hx
      obtain ⟨j, hj, rfl⟩ := Option.map_eq_some_iff.mp h
      obtain ⟨a, vs, rfl, e1, e2, qs⟩ := r.lst hx po
      cases pi
      refine .inl ⟨_, _, _, j, rfl, rfl, e2, by rw [← qs.length]; exact hj, ?_⟩
      have st : Stp io H io (upd H a (.lst (vs.set j z))) := ⟨List.prefix_rfl, fun _ z => .inl z, fun b u h hb => by
        rw [upd_ne (show b ≠ a from fun z => hb (by rw [z]; exact List.mem_of_getElem? e1))]; exact h⟩
      obtain ⟨s1, s2⟩ := r.put (o := .lst (xs.set j v)) (u := .lst (vs.set j z)) e1 ⟨_, upd_same, (qs.set pv j).mono r st⟩
      exact k _ s1 s2
    · rename_i kvs hx
      split at h
      · rename_i c hc
        split at h
        · rename_i hl
          cases h
          obtain ⟨a, us, rfl, e1, e2, qs⟩ := r.dct hx po
          have ey := keyOf_rep hc pi
          subst ey
          refine .inr ⟨a, _, rfl, DPut.k e2 (by rw [← kvR_len qs]; exact hl), ?_⟩
          have st : Stp io H io (upd H a (.dK (putK us c z))) := ⟨List.prefix_rfl, fun _ z => .inl z, fun b u h hb => by
            rw [upd_ne (show b ≠ a from fun z => hb (by rw [z]; exact List.mem_of_getElem? e1))]; exact h⟩
          obtain ⟨s1, s2⟩ := r.put (o := .dct (putD c v kvs)) (u := .dK (putK us c z)) e1 ⟨_, upd_same, (qs.put pv).mono r st⟩
          exact k _ s1 s2
        · cases h
      · cases h
    · cases h
  · cases h
section
variable {X : Cx} {e o i : Expr} {pos tpos : Pos} {m mo mi : Ev → Sto → Rs Val}
def isSlice : Expr → Bool
  | .Slice .. => true
  | _ => false
theorem s_sub (hu : X.A.units + 1 < cLine) (hn : isSlice i = false) (hc : isComp e = false) (he : PE X e (tE X.K m)) (ho : PE X o (tE X.K mo)) (hi : PE X i (tE X.K mi)) :
    PS X (.Assign [.Subscript o i tpos] e pos) (tSt X.K fun r S => (m r S).bind fun v S1 => ((mo r S1).bind fun x S1 => (mi r S1).bind fun y S2 => match A46.setItem x y v S2 with
      | some S3 => .ok r S3
      | none => .no).bind fun r2 S2 => .ok (.nx, r2) S2) := by
  refine PS.imp' (ps_asg he (pg_sub ho hi (setAll hu) (fun v => by cases i <;> first | rfl | exact Bool.noConfusion hn)) (by unfold swapsWithSole; exact swaps_no hc) (by rfl) (by rfl)) fun D σ H h => ?_
  obtain ⟨r, S, io, er, q, g⟩ := tSt_def.mp h
  refine ⟨r, S, io, er, q, Go.imp (GoS.val g) fun z H1 ⟨v, S1, io1, t1, q1, p1, g1⟩ => ?_⟩
  simp only [Rs.assoc] at g1
  refine ⟨r, S1, io1, er.mono q t1, q1, Go.imp (GoS.val g1) fun x H2 ⟨ov, S2, io2, t2, q2, p2, g2⟩ => ?_⟩
  refine ⟨r, S2, io2, er.mono q (t1.trans t2), q2, Go.imp (GoS.val g2) fun y H3 ⟨iv, S3, io3, t3, q3, p3, g3⟩ => ?_⟩
  cases hs : A46.setItem ov iv v S3 with
  | none => rw [hs] at g3; exact g3.elim
  | some S4 =>
    rw [hs] at g3
    exact set_ok q3 (p2.mono q2 t3) p3 (p1.mono q1 (t2.trans t3)) hs fun H4 st4 q4 => g3 H4 io3 σ st4 q4 (er.mono q (t1.trans (t2.trans (t3.trans st4))))
theorem get_of (hu : X.A.units + 1 < cLine) : PGet X (fun o i H Q => (∃ p xs k v, o = .ref p ∧ i = .int k ∧ H p = some (.lst xs) ∧ 0 ≤ k ∧ xs[k.toNat]? = some v ∧ Q v H)) := by
  intro pins s σ H o i ov iv Q I ro ri h
  obtain ⟨p, xs, k, v, rfl, rfl, hp, h0, hx, q⟩ := h
  cases ro
  obtain ⟨t, rfl⟩ := ri
  obtain ⟨its, r, pl, hz⟩ := I.list (SqL.of (K := X.K) hp)
  obtain ⟨w, ew, rw'⟩ := r.get hx
  have hl := line63
  have hlt := (List.getElem?_eq_some_iff.mp hx).1
  exact wpAny_getItem_list pl.isList h0 (by omega) (by simpa using ew) ⟨v, H, I, rw', q⟩
def augOp : Operator → Bo → Bool
  | .Add, .add => true
  | .Sub, .sub => true
  | _, _ => false
theorem pip_of {op : Operator} {b : Bo} (h : augOp op b = true) : PIp X op (fun x y H Q => ∃ i j k, x = .int i ∧ y = .int j ∧ augI b (.int i) (.int j) = some (.int k) ∧ Q (.int k) H) := by
  cases op <;> cases b <;> first | exact Bool.noConfusion h | skip
  · intro pins s σ H x y v u Q I rx ry q
    obtain ⟨i, j, k, rfl, rfl, e, q⟩ := q
    cases e
    exact ip_add pins s σ H _ _ v u Q I rx ry ⟨i, j, rfl, rfl, q⟩
  · intro pins s σ H x y v u Q I rx ry q
    obtain ⟨i, j, k, rfl, rfl, e, q⟩ := q
    cases e
    exact ip_sub pins s σ H _ _ v u Q I rx ry ⟨i, j, rfl, rfl, q⟩
theorem augI_int {b : Bo} {u w z : Val} (h : augI b u w = some z) : ∃ i j k, u = .int i ∧ w = .int j ∧ z = .int k := by
  unfold augI at h
  split at h <;> first | (cases h; exact ⟨_, _, _, rfl, rfl, rfl⟩) | cases h
theorem s_aug (hu : X.A.units + 1 < cLine) {op : Operator} {b : Bo} (hop : augOp op b = true) (hn : isSlice i = false) (ho : PE X o (tE X.K mo)) (hi : PE X i (tE X.K mi)) (he : PE X e (tE X.K m)) :
    PS X (.AugAssign (.Subscript o i tpos) op e pos) (tSt X.K fun r S => (mo r S).bind fun x S1 => (mi r S1).bind fun y S2 => match getL x y S2 with
    | some u => (m r S2).bind fun w S4 => (match augI b u w with
      | some z => (match A46.setItem x y z S4 with
        | some S6 => .ok (.nx, r) S6
        | none => .no)
      | none => .no)
    | none => .no) := by
  refine PS.imp' (ps_augS ho hi (get_of hu) he (pip_of hop) (setAll hu) (fun ov iv new => by cases i <;> first | rfl | exact Bool.noConfusion hn)) fun D σ H h => ?_
  obtain ⟨r, S, io, er, q, g⟩ := tSt_def.mp h
  refine ⟨r, S, io, er, q, Go.imp (GoS.val g) fun x H1 ⟨ov, S1, io1, t1, q1, p1, g1⟩ => ?_⟩
  refine ⟨r, S1, io1, er.mono q t1, q1, Go.imp (GoS.val g1) fun y H2 ⟨iv, S2, io2, t2, q2, p2, g2⟩ => ?_⟩
  cases hg : getL ov iv S2 with
  | none => rw [hg] at g2; exact g2.elim
  | some u =>
    rw [hg] at g2
    simp only at g2
    have p1' := p1.mono q1 t2
    unfold getL at hg
    split at hg
    · split at hg
      · rename_i xs hx
        split at hg
        · rename_i h0
          obtain ⟨a, vs, rfl, e1, e2, qs⟩ := q2.lst hx p1'
          cases p2
          obtain ⟨uv, h2, pu⟩ := qs.get hg
          refine ⟨a, vs, _, uv, rfl, rfl, e2, h0, h2, ?_⟩
          refine ⟨r, S2, io2, er.mono q (t1.trans t2), q2, Go.imp (GoS.val g2) fun w H3 ⟨wv, S3, io3, t3, q3, p3, g3⟩ => ?_⟩
          cases ha : augI b u wv with
          | none => rw [ha] at g3; exact g3.elim
          | some z =>
            rw [ha] at g3
            simp only at g3
            obtain ⟨ii, jj, kk, rfl, rfl, rfl⟩ := augI_int ha
            cases pu
            cases p3
            refine ⟨ii, jj, kk, rfl, rfl, ha, ?_⟩
            split at g3
            case h_2 => exact g3.elim
            case h_1 S4 hs =>
              exact set_ok q3 (p1'.mono q2 t3) (.int _) (.int _) hs fun H4 st4 q4 => g3 H4 io3 σ st4 q4 (er.mono q (t1.trans (t2.trans (t3.trans st4))))
        · cases hg
      · cases hg
    · cases hg
theorem s_augN {op : Operator} {b : Bo} {x : Str} {j : Nat} (hop : augOp op b = true) (hN : X.N.Nodup) (hj : X.N[j]? = some x) (hx : Loc X.env.scope x) (hf : X.fn x = true ∨ X.env.scope.names.lookup x = some .local) (he : PE X e (tE X.K m)) :
    PS X (.AugAssign (.Name x tpos) op e pos) (tSt X.K fun r S => match r[j]? with
    | some (some u) => (m r S).bind fun w S1 => (match augI b u w with
      | some z => .ok (.nx, r.set j (some z)) S1
      | none => .no)
    | _ => .no) := by
  refine PS.imp' (ps_aug hN hj hx he (pip_of hop) hf) fun D σ H h => ?_
  obtain ⟨r, S, io, er, q, g⟩ := tSt_def.mp h
  split at g
  · rename_i u hr
    obtain ⟨uv, h1, pu⟩ := er.2 j u hr
    refine ⟨uv, h1, r, S, io, er, q, Go.imp (GoS.val g) fun w H1 ⟨wv, S1, io1, t1, q1, p1, g1⟩ => ?_⟩
    cases ha : augI b u wv with
    | none => rw [ha] at g1; exact g1.elim
    | some z =>
      rw [ha] at g1
      obtain ⟨ii, jj, kk, rfl, rfl, rfl⟩ := augI_int ha
      cases pu
      cases p1
      exact ⟨ii, jj, kk, rfl, rfl, ha, g1 H1 io1 _ .refl q1 ((er.mono q t1).set j (.int _))⟩
  · exact g.elim
end
section
variable {X : Cx}
theorem s_for {tg iter : Expr} {body : List Stmt} {pos : Pos} {b : Bool} {mi : Ev → Sto → Rs Src} {t : Tg} {mb : Ev → Sto → Rs (Fl × Ev)} (hx : X.xe = fun _ _ => False) (hc : X.calm = true) (hb : b = true → ∃ ts, t = .tp ts) (hs : ∀ x, foldedSetIterable iter X.env x = pure x)
    (hi : PI X tg iter (tI X.K b mi)) (hg : PG X tg (gT X.K t)) (hbody : PSs X body (tSt X.K mb)) :
    PS X (.For tg iter body [] pos) (tSt X.K fun r S => (mi r S).bind fun src S1 => loop src (fun x r2 S2 => match t.bind x r2 with
      | none => .no
      | some r3 => mb r3 S2) (src.size S1) 0 r S1) := by
  refine PS.imp' (ps_for (by rw [hx]; exact PassesOwn.never) hc hi hg hbody hs) fun D σ H h => ?_
  obtain ⟨r, S, io, er, q, g⟩ := tSt_def.mp h
  refine ⟨r, S, io, er, q, ?_⟩
  cases hmi : mi r S with
  | no => rw [hmi] at g; exact g.elim
  | ok src S1 =>
    rw [hmi] at g
    simp only [Rs.bind_ok] at g
    intro H1 io1 J t1 q1 sr
    have g1 := GoS.later t1 g
    generalize hst : (fun (x : Val) (r2 : Ev) (S2 : Sto) => match t.bind x r2 with
      | none => Rs.no
      | some r3 => mb r3 S2) = step at g1
    refine ⟨fun i m σ' Hn => ∃ (r' : Ev) (S' : Sto) (io' : List Addr), Stp io1 H1 io' Hn ∧ ERel X.K Hn io' r' σ' ∧ SRel X.K Hn io' S' ∧ GoS X.K D H1 io1 (loop src step m i r' S'), ⟨_, r, S1, io1, .refl, er.mono q t1, q1, g1⟩, ?_⟩
    rintro i m σ' Hn ⟨r', S', io', st, e', q', gg⟩
    rw [loop] at gg
    cases hgt : src.get S' i with
    | none => rw [hgt] at gg; exact gg.elim
    | some o =>
      rw [hgt] at gg
      cases o with
      | none => exact .inl ⟨sr.stop Hn io' S' i st q' hgt, gg Hn io' σ' st q' e'⟩
      | some v =>
        right
        obtain ⟨go, yl⟩ := sr.go Hn io' S' i v st q' hgt
        refine ⟨go, ?_⟩
        cases m with
        | zero => exact gg.elim
        | succ m =>
          simp only at gg
          refine ⟨fun σx Hx => ∃ (r' : Ev) (S' : Sto) (io' : List Addr), Stp io1 H1 io' Hx ∧ ERel X.K Hx io' r' σx ∧ SRel X.K Hx io' S' ∧ GoS X.K D H1 io1 (loop src step m (i + 1) r' S'), fun σx Hx w => ⟨m, Nat.lt_succ_self _, w⟩, fun x H2 y2 => ?_⟩
          obtain ⟨st2, q2, pit⟩ := yl x H2 y2
          have sta := st.trans st2
          rw [← hst] at gg
          cases hbind : t.bind v r' with
          | none => simp only [hbind] at gg; exact gg.elim
          | some r3 =>
            simp only [hbind] at gg
            rw [hst] at gg
            refine gT_ok hb pit (e'.mono q' st2) hbind fun σ2 e2 _ _ => ?_
            refine ⟨r3, S', io', e2, q2, ?_⟩
            cases hmb : mb r3 S' with
            | no => rw [hmb] at gg; exact gg.elim
            | ok a S3 =>
              obtain ⟨fl, r4⟩ := a
              rw [hmb] at gg
              simp only [Rs.bind_ok] at gg
              cases fl with
              | rt w => exact fun H3 io3 xv t3 q3 p3 => gg H3 io3 xv (sta.trans t3) q3 p3
              | nx => exact fun H3 io3 σ3 t3 q3 e3 => ⟨r4, S3, io3, sta.trans t3, e3, q3, gg⟩
theorem s_while {c : Expr} {body : List Stmt} {pos : Pos} {n : Nat} {mc : Ev → Sto → Rs Val} {mb : Ev → Sto → Rs (Fl × Ev)} (hx : X.xe = fun _ _ => False) (hc : PT X c (tT X.K mc)) (hbody : PSs X body (tSt X.K mb)) :
    PS X (.While c body [] pos) (tSt X.K fun r S => whileL (fun r S => (mc r S).bind fun x S1 => tst S1 x) (fun r S => mb r S) n r S) := by
  refine PS.imp' (ps_while (by rw [hx]; exact PassesOwn.never) hc hbody) fun D σ H h => ?_
  obtain ⟨r, S, io, er, q, g⟩ := tSt_def.mp h
  refine ⟨fun m σ' Hn => ∃ (r' : Ev) (S' : Sto) (io' : List Addr), Stp io H io' Hn ∧ ERel X.K Hn io' r' σ' ∧ SRel X.K Hn io' S' ∧ GoS X.K D H io (whileL (fun r S => (mc r S).bind fun x S1 => tst S1 x) (fun r S => mb r S) m r' S'), ⟨n, r, S, io, .refl, er, q, g⟩, ?_⟩
  rintro m σ' Hn ⟨r', S', io', st, e', q', gg⟩
  cases m with
  | zero => exact gg.elim
  | succ m =>
    rw [whileL] at gg
    refine ⟨r', S', io', e', q', ?_⟩
    dsimp only
    cases hm : (mc r' S').bind fun x S1 => tst S1 x with
    | no => simp only [hm] at gg; exact gg.elim
    | ok k S1 =>
      simp only [hm, Rs.bind_ok] at gg
      intro H1 io1 b t1 q1 eb
      subst eb
      cases k with
      | false =>
        simp only [Bool.false_eq_true, if_false] at gg ⊢
        exact gg H1 io1 σ' (st.trans t1) q1 (e'.mono q' t1)
      | true =>
        simp only [if_true] at gg ⊢
        refine ⟨fun σx Hx => ∃ (r' : Ev) (S' : Sto) (io' : List Addr), Stp io H io' Hx ∧ ERel X.K Hx io' r' σx ∧ SRel X.K Hx io' S' ∧ GoS X.K D H io (whileL (fun r S => (mc r S).bind fun x S1 => tst S1 x) (fun r S => mb r S) m r' S'), fun σx Hx w => ⟨m, Nat.lt_succ_self _, w⟩, ?_⟩
        refine ⟨r', S1, io1, e'.mono q' t1, q1, ?_⟩
        cases hmb : mb r' S1 with
        | no => simp only [hmb] at gg; exact gg.elim
        | ok a S3 =>
          obtain ⟨fl, r4⟩ := a
          simp only [hmb, Rs.bind_ok] at gg
          cases fl with
          | rt w => exact fun H3 io3 xv t3 q3 p3 => gg H3 io3 xv (st.trans (t1.trans t3)) q3 p3
          | nx => exact fun H3 io3 σ3 t3 q3 e3 => ⟨r4, S3, io3, st.trans (t1.trans t3), e3, q3, gg⟩
end
end A46
end
section
namespace A46
open PySem PySem.Spec L2
/-- what stands still while a def runs: its names, its scope, the module's facts -/
structure Sit (N : List Str) (sc : Scope) (fnS : Str → Bool) (G : Str → Option Val) (F : Fns) (sig : Str → Option Nat) (d : Nat) (X : Cx) : Prop where
  nm : X.N = N
  nd : N.Nodup
  scp : X.env.scope = sc
  kd : sc.kind = .function
  fn : X.fn = fnS
  calm : X.calm = true
  xe : X.xe = fun _ _ => False
  guards : X.A.guards = some []
  room : Room d X.A
  blt : ∀ b : Bi, X.mg (biN b) = none
  rng : X.mg "range" = none
  zp : X.mg "zip" = none
  en : X.mg "enumerate" = none
  fns : ∀ f n, sig f = some n → ∃ a fd ps, X.mg f = some (.ref a) ∧ PySem.W.keepIn X.K (.ref a) = true ∧ Binds X.K fd ps [] ∧ FnG X.prog X.w X.K X.mg X.base d a fd ps (spOf X.K n (F f))
  glo : ∀ x v, G x = some v → ∃ u y, X.mg x = some u ∧ RelV y u ∧ ∀ H io, Rep X.K H io v y
def ownOf (N : List Str) (vs : List Nat) : List (Str × Nat) := vs.map fun i => (N.getD i "", i)
theorem ownOf_snd (N : List Str) (vs : List Nat) : (ownOf N vs).map (·.2) = vs := by
  unfold ownOf; rw [List.map_map]; exact List.map_id' vs
theorem Sit.blk {N : List Str} {sc scope : Scope} {fnS : Str → Bool} {G : Str → Option Val} {F : Fns} {sig : Str → Option Nat} {d : Nat} {X : Cx} (h : Sit N sc fnS G F sig d X) (hk : scope.kind = .function) (s : Shared) (H : Hp) (C : Addr) (cl : List (Str × Addr)) (fp : List Addr) :
    Sit N (relS scope sc) (fun x => scope.names.lookup x == some .cell) G F sig d (X.blk s H scope (compEnvC scope cl C X.env) fp) where
  nm := h.nm
  nd := h.nd
  scp := by
    show relS scope X.env.scope = _
    rw [h.scp]
  kd := hk
  fn := rfl
  calm := h.calm
  xe := rfl
  guards := h.guards
  room := h.room
  blt := h.blt
  rng := h.rng
  zp := h.zp
  en := h.en
  fns := h.fns
  glo := h.glo
theorem Sit.u64 {N : List Str} {sc : Scope} {fnS : Str → Bool} {G : Str → Option Val} {F : Fns} {sig : Str → Option Nat} {d : Nat} {X : Cx} (h : Sit N sc fnS G F sig d X) : X.A.units + 64 < cLine := h.room.units
theorem Sit.u1 {N : List Str} {sc : Scope} {fnS : Str → Bool} {G : Str → Option Val} {F : Fns} {sig : Str → Option Nat} {d : Nat} {X : Cx} (h : Sit N sc fnS G F sig d X) : X.A.units + 1 < cLine := by have := h.u64; omega
theorem Sit.u100 {N : List Str} {sc : Scope} {fnS : Str → Bool} {G : Str → Option Val} {F : Fns} {sig : Str → Option Nat} {d : Nat} {X : Cx} (h : Sit N sc fnS G F sig d X) : X.A.units + 100 < cLine := by have := h.room.un; omega
def visB (sc : Scope) (x : Str) : Bool := match sc.names.lookup x with
  | some .local => true
  | some .cell => true
  | some .free => true
  | _ => false
def locB (sc : Scope) (fnS : Str → Bool) (x : Str) : Bool := match sc.names.lookup x with
  | some .local => true
  | some .cell => fnS x
  | _ => false
def glB (sc : Scope) (x : Str) : Bool := match sc.names.lookup x with
  | some .globalImplicit => true
  | _ => false
def okN (x : Str) : Bool := !(x == ("__debug__" : Str)) && !(x == ("__classdict__" : Str))
theorem visB_ok {sc : Scope} {x : Str} (h : visB sc x = true) : Vis sc x := by
  unfold visB at h; unfold Vis
  split at h <;> simp_all
theorem locB_ok {sc : Scope} {fnS : Str → Bool} {x : Str} (h : locB sc fnS x = true) : L2.Loc sc x ∧ (fnS x = true ∨ sc.names.lookup x = some .local) := by
  unfold locB at h; unfold L2.Loc
  split at h <;> simp_all
theorem glB_ok {sc : Scope} {x : Str} (h : glB sc x = true) : sc.names.lookup x = some .globalImplicit := by
  unfold glB at h
  split at h <;> simp_all
theorem okN_ok {x : Str} (h : okN x = true) : (x == ("__debug__" : Str)) = false ∧ (x == ("__classdict__" : Str)) = false := by
  unfold okN at h
  simp only [Bool.and_eq_true, Bool.not_eq_true'] at h
  exact h
def isSet : Expr → Bool
  | .Set .. => true
  | _ => false
theorem folded_of {iter : Expr} {env : Env} (h : isSet iter = false) : ∀ x, foldedSetIterable iter env x = pure x := by
  intro x
  unfold foldedSetIterable
  cases iter <;> first | rfl | exact Bool.noConfusion h
/-- targets: names, tuples of names -/
def chNs (N : List Str) (sc : Scope) (fnS : Str → Bool) : List Nat → List Expr → Bool
  | [], [] => true
  | i :: is, .Name x _ :: es => decide (N[i]? = some x) && locB sc fnS x && chNs N sc fnS is es
  | _, _ => false
def chT (N : List Str) (sc : Scope) (fnS : Str → Bool) : Tg → Expr → Bool
  | .nm i, .Name x _ => decide (N[i]? = some x) && locB sc fnS x
  | .tp ts, .Tuple es _ _ => chNs N sc fnS ts es
  | _, _ => false
def plainC (v : Val) (c : Const) : Bool := match v, c with
  | .int i, .int j => decide (i = j)
  | .bl i, .bool j => decide (i = j)
  | .str i, .str j => decide (i = j)
  | .non, .none => true
  | _, _ => false
/-- does the iterable yield pairs made for the turn? -/
def pairIt : Itr → Bool
  | .zip _ _ => true
  | .enum _ => true
  | _ => false
def tgOk (b : Bool) : Tg → Bool
  | .tp _ => true
  | .nm _ => !b
section
variable (N : List Str) (sig : Str → Option Nat)
mutual
def chE (sc : Scope) (fnS : Str → Bool) : Ex → Expr → Bool
  | .var i, e => (match e with
    | .Name x _ => decide (N[i]? = some x) && visB sc x && okN x
    | _ => false)
  | .con v, e => (match e with
    | .Constant c _ _ => plainC v c
    | _ => false)
  | .glo x, e => (match e with
    | .Name y _ => decide (x = y) && glB sc x && okN x
    | _ => false)
  | .bin o a b, e => (match e with
    | .BinOp ea op eb _ => opOk op o && chE sc fnS a ea && chE sc fnS b eb
    | _ => false)
  | .neg a, e => (match e with
    | .UnaryOp .USub ea _ => chE sc fnS a ea
    | _ => false)
  | .nt a, e => (match e with
    | .UnaryOp .Not ea _ => chE sc fnS a ea
    | _ => false)
  | .and a b, e => (match e with
    | .BoolOp .And [ea, eb] _ => chE sc fnS a ea && chE sc fnS b eb
    | .BoolOp .And (ea :: eb :: ec :: rest) pos => chE sc fnS a ea && chE sc fnS b (.BoolOp .And (eb :: ec :: rest) pos)
    | _ => false)
  | .or a b, e => (match e with
    | .BoolOp .Or [ea, eb] _ => chE sc fnS a ea && chE sc fnS b eb
    | .BoolOp .Or (ea :: eb :: ec :: rest) pos => chE sc fnS a ea && chE sc fnS b (.BoolOp .Or (eb :: ec :: rest) pos)
    | _ => false)
  | .cmp o a b, e => (match e with
    | .Compare ea [op] [eb] _ => cmpOk op o && !behindInMarks op eb && chE sc fnS a ea && chE sc fnS b eb
    | _ => false)
  | .isn neg a, e => (match e with
    | .Compare ea [op] [.Constant .none _ _] _ => decide (op = if neg then .IsNot else .Is) && chE sc fnS a ea
    | _ => false)
  | .chain o p a b c, e => (match e with
    | .Compare ea [op, op'] [eb, ec] _ => cmpOk op o && cmpOk op' p && !lastMarks [op, op'] [eb, ec] && chE sc fnS a ea && chE sc fnS b eb && chE sc fnS c ec
    | _ => false)
  | .ite c a b, e => (match e with
    | .IfExp ec ea eb _ => chE sc fnS c ec && chE sc fnS a ea && chE sc fnS b eb
    | _ => false)
  | .tup es, e => (match e with
    | .Tuple ees _ _ => chA sc fnS es ees
    | _ => false)
  | .lst es, e => (match e with
    | .List ees _ => chA sc fnS es ees
    | _ => false)
  | .idx a i, e => (match e with
    | .Subscript ea ei _ => !isSlice ei && chE sc fnS a ea && chE sc fnS i ei
    | _ => false)
  | .sl a lo hi, e => (match e with
    | .Subscript ea (.Slice l h none _) _ => chE sc fnS a ea && chO sc fnS lo l && chO sc fnS hi h
    | _ => false)
  | .call f es, e => (match e with
    | .Call (.Name x _) ees [] _ => decide (x = f) && glB sc f && okN f && decide (sig f = some ees.length) && noStars ees && chA sc fnS es ees
    | _ => false)
  | .bi b es, e => (match e with
    | .Call (.Name x _) (ea :: ees) [] _ => decide (x = biN b) && glB sc (biN b) && noStars (ea :: ees) && chA sc fnS es (ea :: ees)
    | _ => false)
  | .me m o es, e => (match e with
    | .Call (.Attribute eo nm apos) ees [] cpos => decide (nm = meN m) && noSuper eo && noStars ees && decide (ees.length < 20) && (apos.endLine == cpos.line) && chE sc fnS o eo && chA sc fnS es ees
    | _ => false)
  | .lc it t c e vs, ex => (match ex with
    | .ListComp ee [⟨tg, iter, ifs, 0⟩] scope _ => blkC N sc scope (ownOf N vs) && decide (∀ i ∈ t.slots, i ∈ vs) && tgOk (pairIt it) t && !isSet iter && chI sc fnS it tg iter
        && chT N (relS scope sc) (fun x => scope.names.lookup x == some .cell) t tg && chC (relS scope sc) (fun x => scope.names.lookup x == some .cell) c ifs && chE (relS scope sc) (fun x => scope.names.lookup x == some .cell) e ee
    | _ => false)
def chA (sc : Scope) (fnS : Str → Bool) : Exs → List Expr → Bool
  | .nil, es => es.isEmpty
  | .cons e r, es => (match es with
    | ea :: ees => noStars [ea] && chE sc fnS e ea && chA sc fnS r ees
    | _ => false)
  | .star e r, es => (match es with
    | .Starred ea _ :: ees => chE sc fnS e ea && chA sc fnS r ees
    | _ => false)
def chO (sc : Scope) (fnS : Str → Bool) : Exo → Option Expr → Bool
  | .none, e => e.isNone
  | .some a, e => (match e with
    | some ea => chE sc fnS a ea
    | none => false)
def chC (sc : Scope) (fnS : Str → Bool) : Exo → List Expr → Bool
  | .none, es => es.isEmpty
  | .some a, es => (match es with
    | [ea] => chE sc fnS a ea
    | _ => false)
def chI (sc : Scope) (fnS : Str → Bool) : Itr → Expr → Expr → Bool
  | .seq a, _, e => chE sc fnS a e
  | .range1 a, _, e => (match e with
    | .Call (.Name x _) [ea] [] _ => decide (x = "range") && glB sc "range" && noStars [ea] && chE sc fnS a ea
    | _ => false)
  | .range2 a b, _, e => (match e with
    | .Call (.Name x _) [ea, eb] [] _ => decide (x = "range") && glB sc "range" && noStars [ea, eb] && chE sc fnS a ea && chE sc fnS b eb
    | _ => false)
  | .zip a b, tg, e => (match tg, e with
    | .Tuple _ _ _, .Call (.Name x _) [ea, eb] [] _ => decide (x = "zip") && glB sc "zip" && noStars [ea, eb] && chE sc fnS a ea && chE sc fnS b eb
    | _, _ => false)
  | .enum a, tg, e => (match tg, e with
    | .Tuple _ _ _, .Call (.Name x _) [ea] [] _ => decide (x = "enumerate") && glB sc "enumerate" && noStars [ea] && chE sc fnS a ea
    | _, _ => false)
end
end
end A46
end
section
namespace A46
open PySem PySem.Spec L2
section
variable {N : List Str} {G : Str → Option Val} {F : Fns} {sig : Str → Option Nat} {d : Nat}
theorem t_plain {X : Cx} {e : Expr} {m : Ev → Sto → Rs Val} (h : PE X e (tE X.K m)) (he : ∀ whole, PySem.isTrue e X.env whole = (do let v ← whole; standAt e.pos; holding [v] (truthy v))) : PE X e (tE X.K m) ∧ PT X e (tT X.K m) := ⟨h, t_truth h he⟩
theorem evs_len : ∀ {es : Exs} {ees : List Expr} {sc : Scope} {fnS : Str → Bool} {r : Ev} {S S' : Sto} {xs : List Val}, noStars ees = true → chA N sig sc fnS es ees = true → evs G F es r S = .ok xs S' → xs.length = ees.length
  | .nil, ees, sc, fnS, r, S, S', xs, _, h, k => by
    rw [chA.eq_def] at h; dsimp only at h
    cases ees with
    | nil => rw [evs] at k; cases k; rfl
    | cons a b => cases h
  | .cons e es, ees, sc, fnS, r, S, S', xs, hs, h, k => by
    rw [chA.eq_def] at h; dsimp only at h
    cases ees with
    | nil => cases h
    | cons a b =>
      simp only [Bool.and_eq_true] at h
      rw [evs] at k
      cases h1 : ev G F e r S with
      | no => rw [h1] at k; cases k
      | ok v S1 =>
        rw [h1] at k
        simp only [Rs.bind_ok] at k
        cases h2 : evs G F es r S1 with
        | no => rw [h2] at k; cases k
        | ok vs S2 =>
          rw [h2] at k
          cases k
          simp only [List.length_cons, evs_len (noStars_cons hs).2 h.2 h2]
  | .star e es, ees, sc, fnS, r, S, S', xs, hs, h, k => by
    rw [chA.eq_def] at h; dsimp only at h
    cases ees with
    | nil => cases h
    | cons a b =>
      cases a <;> first | exact Bool.noConfusion h | exact Bool.noConfusion hs
theorem pg_names {X : Cx} {sc : Scope} {fnS : Str → Bool} (s : Sit N sc fnS G F sig d X) : ∀ {ts : List Nat} {es : List Expr}, chNs N sc fnS ts es = true → PGs X es (gNames ts) ∧ (assignEach es X.env).length = ts.length ∧ (assignEach es X.env).findIdx? (·.1) = none
  | [], [], _ => ⟨pgs_nil, rfl, rfl⟩
  | i :: ts, e :: es, h => by
    cases e <;> first | exact Bool.noConfusion h | skip
    rename_i x p
    rw [chNs] at h
    simp only [Bool.and_eq_true, decide_eq_true_eq] at h
    obtain ⟨h1, h2⟩ := locB_ok h.1.2
    obtain ⟨g1, g2, g3⟩ := pg_names s h.2
    refine ⟨pgs_cons (pg_name (i := i) (by rw [s.nm]; exact s.nd) (by rw [s.nm]; exact h.1.1) (by rw [s.scp]; exact h1) (by rw [s.fn, s.scp]; exact h2)) g1 (by first | rfl | simp [assignEach]), ?_, ?_⟩
    · have : (assignEach (.Name x p :: es) X.env).length = (assignEach es X.env).length + 1 := by first | rfl | simp [assignEach]
      rw [this, g2]; rfl
    · have : (assignEach (.Name x p :: es) X.env).findIdx? (·.1) = ((assignEach es X.env).findIdx? (·.1)).map (· + 1) := by first | rfl | simp [assignEach, List.findIdx?_cons]
      rw [this, g3]; rfl
  | [], _ :: _, h => by cases h
  | _ :: _, [], h => by cases h
theorem pg_of {X : Cx} {sc : Scope} {fnS : Str → Bool} (s : Sit N sc fnS G F sig d X) {t : Tg} {e : Expr} (h : chT N sc fnS t e = true) : PG X e (gT X.K t) := by
  cases t with
  | nm i =>
    cases e <;> first | exact Bool.noConfusion h | skip
    rw [chT] at h
    simp only [Bool.and_eq_true, decide_eq_true_eq] at h
    obtain ⟨h1, h2⟩ := locB_ok h.2
    exact pg_name (i := i) (by rw [s.nm]; exact s.nd) (by rw [s.nm]; exact h.1) (by rw [s.scp]; exact h1) (by rw [s.fn, s.scp]; exact h2)
  | tp ts =>
    cases e <;> first | exact Bool.noConfusion h | skip
    rw [chT] at h
    obtain ⟨g1, g2, g3⟩ := pg_names s h
    exact pg_tup s.calm g1 g2 g3
theorem gl_of {X : Cx} {sc : Scope} {fnS : Str → Bool} (s : Sit N sc fnS G F sig d X) {x : Str} (h : glB sc x = true) : Gl X x := by
  show X.env.scope.names.lookup x = _
  rw [s.scp]; exact glB_ok h
theorem tgOk_ok {b : Bool} {t : Tg} (h : tgOk b t = true) : b = true → ∃ ts, t = .tp ts := fun e => by
  subst e
  cases t with
  | tp ts => exact ⟨ts, rfl⟩
  | nm i => exact Bool.noConfusion h
mutual
theorem soundE : ∀ (e : Ex) {X : Cx} {sc : Scope} {fnS : Str → Bool} {ex : Expr}, Sit N sc fnS G F sig d X → chE N sig sc fnS e ex = true → PE X ex (tE X.K (ev G F e)) ∧ PT X ex (tT X.K (ev G F e))
  | .var i, X, sc, fnS, ex, s, h => by
    rw [chE.eq_def] at h; dsimp only at h
    split at h
    · simp only [Bool.and_eq_true, decide_eq_true_eq] at h
      obtain ⟨o1, o2⟩ := okN_ok h.2
      exact t_plain (d_var (i := i) (by rw [s.nm]; exact h.1.1) (by rw [s.scp]; exact visB_ok h.1.2) o1 o2) (fun _ => rfl)
    · exact Bool.noConfusion h
  | .con v, X, sc, fnS, ex, s, h => by
    rw [chE.eq_def] at h; dsimp only at h
    split at h
    · unfold plainC at h
      split at h
      · have e := of_decide_eq_true h; subst e; exact t_plain d_int (fun _ => rfl)
      · have e := of_decide_eq_true h; subst e; exact t_plain d_bool (fun _ => rfl)
      · have e := of_decide_eq_true h; subst e; exact t_plain d_str (fun _ => rfl)
      · exact t_plain d_none (fun _ => rfl)
      · exact Bool.noConfusion h
    · exact Bool.noConfusion h
  | .glo x, X, sc, fnS, ex, s, h => by
    rw [chE.eq_def] at h; dsimp only at h
    split at h
    · simp only [Bool.and_eq_true, decide_eq_true_eq] at h
      obtain ⟨⟨rfl, h2⟩, h3⟩ := h
      obtain ⟨o1, o2⟩ := okN_ok h3
      refine t_plain ?_ (fun _ => rfl)
      cases hg : G x with
      | none =>
        refine ⟨fun pins s σ H Q I ⟨r, S, io, e, q, g⟩ => ?_⟩
        rw [ev, hg] at g; exact g.elim
      | some v =>
        obtain ⟨u, y, m1, m2, m3⟩ := s.glo x v hg
        refine PE.imp' (pe_glob (gl_of s h2) m1 m2 o1) fun σ H Q ⟨r, S, io, e, q, g⟩ => ?_
        rw [ev, hg] at g
        exact g.at q (m3 H io)
    · exact Bool.noConfusion h
  | .bin o a b, X, sc, fnS, ex, s, h => by
    rw [chE.eq_def] at h; dsimp only at h
    split at h
    · simp only [Bool.and_eq_true] at h
      exact t_plain (d_binop h.1.1 (soundE a s h.1.2).1 (soundE b s h.2).1) (fun _ => rfl)
    · exact Bool.noConfusion h
  | .neg a, X, sc, fnS, ex, s, h => by
    rw [chE.eq_def] at h; dsimp only at h
    split at h
    · exact t_plain (d_neg (soundE a s h).1) (fun _ => rfl)
    · exact Bool.noConfusion h
  | .nt a, X, sc, fnS, ex, s, h => by
    rw [chE.eq_def] at h; dsimp only at h
    split at h
    · obtain ⟨h1, h2⟩ := soundE a s h
      exact ⟨d_not h1, t_not h2⟩
    · exact Bool.noConfusion h
  | .and a b, X, sc, fnS, ex, s, h => by
    rw [chE.eq_def] at h; dsimp only at h
    split at h
    · rw [Bool.and_eq_true] at h
      obtain ⟨h1, h2⟩ := soundE a s h.1
      obtain ⟨h3, h4⟩ := soundE b s h.2
      exact ⟨d_and h1 (pe_one h3), t_and h2 (t_one h4)⟩
    · rw [Bool.and_eq_true] at h
      obtain ⟨h1, h2⟩ := soundE a s h.1
      obtain ⟨h3, h4⟩ := soundE b s h.2
      exact ⟨d_and h1 h3, t_and h2 h4⟩
    · exact Bool.noConfusion h
  | .or a b, X, sc, fnS, ex, s, h => by
    rw [chE.eq_def] at h; dsimp only at h
    split at h
    · rw [Bool.and_eq_true] at h
      obtain ⟨h1, h2⟩ := soundE a s h.1
      obtain ⟨h3, h4⟩ := soundE b s h.2
      exact ⟨d_or h1 (pe_one h3), t_or h2 (t_one h4)⟩
    · rw [Bool.and_eq_true] at h
      obtain ⟨h1, h2⟩ := soundE a s h.1
      obtain ⟨h3, h4⟩ := soundE b s h.2
      exact ⟨d_or h1 h3, t_or h2 h4⟩
    · exact Bool.noConfusion h
  | .cmp o a b, X, sc, fnS, ex, s, h => by
    rw [chE.eq_def] at h; dsimp only at h
    split at h
    · simp only [Bool.and_eq_true, Bool.not_eq_true'] at h
      have h1 := (soundE a s h.1.2).1
      have h2 := (soundE b s h.2).1
      exact ⟨d_cmp s.u64 h.1.1.1 h.1.1.2 h1 h2, t_cmp s.u64 h.1.1.1 h.1.1.2 h1 h2⟩
    · exact Bool.noConfusion h
  | .isn neg a, X, sc, fnS, ex, s, h => by
    rw [chE.eq_def] at h; dsimp only at h
    split at h
    · simp only [Bool.and_eq_true, decide_eq_true_eq] at h
      have h1 := (soundE a s h.2).1
      cases neg with
      | true =>
        have e := h.1
        simp only [if_true] at e
        subst e
        exact ⟨d_notN h1, t_notN h1⟩
      | false =>
        have e := h.1
        simp only [Bool.false_eq_true, if_false] at e
        subst e
        exact ⟨d_isN h1, t_isN h1⟩
    · exact Bool.noConfusion h
  | .chain o p a b c, X, sc, fnS, ex, s, h => by
    rw [chE.eq_def] at h; dsimp only at h
    split at h
    · simp only [Bool.and_eq_true, Bool.not_eq_true'] at h
      have h1 := (soundE a s h.1.1.2).1
      have h2 := (soundE b s h.1.2).1
      have h3 := (soundE c s h.2).1
      exact ⟨d_chain s.u64 h.1.1.1.1.1 h.1.1.1.1.2 h.1.1.1.2 h1 h2 h3, t_chain s.u64 h.1.1.1.1.1 h.1.1.1.1.2 h.1.1.1.2 h1 h2 h3⟩
    · exact Bool.noConfusion h
  | .ite c a b, X, sc, fnS, ex, s, h => by
    rw [chE.eq_def] at h; dsimp only at h
    split at h
    · simp only [Bool.and_eq_true] at h
      obtain ⟨c1, c2⟩ := soundE c s h.1.1
      obtain ⟨a1, a2⟩ := soundE a s h.1.2
      obtain ⟨b1, b2⟩ := soundE b s h.2
      exact ⟨d_ite c2 a1 b1, t_ite c2 a2 b2⟩
    · exact Bool.noConfusion h
  | .tup es, X, sc, fnS, ex, s, h => by
    rw [chE.eq_def] at h; dsimp only at h
    split at h
    · exact t_plain (d_tup (soundA es s h)) (fun _ => rfl)
    · exact Bool.noConfusion h
  | .lst es, X, sc, fnS, ex, s, h => by
    rw [chE.eq_def] at h; dsimp only at h
    split at h
    · exact t_plain (d_lst (soundA es s h)) (fun _ => rfl)
    · exact Bool.noConfusion h
  | .idx a i, X, sc, fnS, ex, s, h => by
    rw [chE.eq_def] at h; dsimp only at h
    split at h
    · rename_i ea ei _
      simp only [Bool.and_eq_true, Bool.not_eq_true'] at h
      exact t_plain (d_idx s.u1 (fun o i => by
        have hs := h.1.1
        cases ei <;> first | rfl | exact Bool.noConfusion hs) (soundE a s h.1.2).1 (soundE i s h.2).1) (fun _ => rfl)
    · exact Bool.noConfusion h
  | .sl a lo hi, X, sc, fnS, ex, s, h => by
    rw [chE.eq_def] at h; dsimp only at h
    split at h
    · simp only [Bool.and_eq_true] at h
      exact t_plain (d_sl (soundE a s h.1.1).1 (soundO lo s h.1.2) (soundO hi s h.2)) (fun _ => rfl)
    · exact Bool.noConfusion h
  | .call f es, X, sc, fnS, ex, s, h => by
    rw [chE.eq_def] at h; dsimp only at h
    split at h
    · rename_i x p ees pos
      simp only [Bool.and_eq_true, decide_eq_true_eq] at h
      obtain ⟨⟨⟨⟨⟨rfl, h2⟩, h3⟩, h4⟩, h5⟩, h6⟩ := h
      obtain ⟨o1, o2⟩ := okN_ok h3
      obtain ⟨a, fd, ps, f1, f2, f3, f4⟩ := s.fns _ _ h4
      refine t_plain ?_ (fun _ => rfl)
      cases ees with
      | nil =>
        cases es <;> first | exact Bool.noConfusion h6 | skip
        exact d_call0 f4 s.room s.guards (gl_of s h2) f1 f2 f3 o1
      | cons e1 ees => exact d_call f4 s.room s.guards (gl_of s h2) f1 f2 f3 o1 h5 (soundA es s h6) (fun r S xs S' k => evs_len h5 h6 k)
    · exact Bool.noConfusion h
  | .bi b es, X, sc, fnS, ex, s, h => by
    rw [chE.eq_def] at h; dsimp only at h
    split at h
    · simp only [Bool.and_eq_true, decide_eq_true_eq] at h
      obtain ⟨⟨⟨rfl, h2⟩, h3⟩, h4⟩ := h
      exact t_plain (d_bi s.calm s.guards s.u100 b (gl_of s h2) (s.blt b) (soundA es s h4) h3) (fun _ => rfl)
    · exact Bool.noConfusion h
  | .me m o es, X, sc, fnS, ex, s, h => by
    rw [chE.eq_def] at h; dsimp only at h
    split at h
    · rename_i eo nm apos ees cpos
      simp only [Bool.and_eq_true, decide_eq_true_eq] at h
      obtain ⟨⟨⟨⟨⟨⟨rfl, h2⟩, h3⟩, h4⟩, h5⟩, h6⟩, h7⟩ := h
      refine t_plain ?_ (fun _ => rfl)
      cases ees with
      | nil =>
        cases es <;> first | exact Bool.noConfusion h7 | skip
        exact d_me0 m (soundE o s h6).1 h2 h5
      | cons e1 ees => exact d_me m (soundE o s h6).1 (soundA es s h7) h2 h3 h4 h5
    · exact Bool.noConfusion h
  | .lc it t c e vs, X, sc, fnS, ex, s, h => by
    rw [chE.eq_def] at h; dsimp only at h
    split at h
    · rename_i ee tg iter ifs scope pos
      simp only [Bool.and_eq_true, decide_eq_true_eq, Bool.not_eq_true'] at h
      obtain ⟨⟨⟨⟨⟨⟨⟨h1, h2⟩, h3⟩, h4⟩, h5⟩, h6⟩, h7⟩, h8⟩ := h
      have ok := blkOk_by h1
      refine t_plain ?_ (fun _ => rfl)
      have main := d_lc (X := X) (pos := pos) (own := ownOf N vs) (ifs := ifs) s.calm (by rw [s.nm]; exact s.nd) (by rw [s.nm, s.scp]; exact ok) (tgOk_ok h3) (by rw [ownOf_snd]; exact h2) (folded_of h4) (soundI it s h5)
        (fun s' H C cl fp => pg_of (s.blk ok.kind s' H C cl fp) h6) (fun s' H C cl fp => soundC c (s.blk ok.kind s' H C cl fp) h7) (fun s' H C cl fp => (soundE e (s.blk ok.kind s' H C cl fp) h8).1)
      rw [ownOf_snd] at main
      exact main
    · exact Bool.noConfusion h
theorem soundA : ∀ (es : Exs) {X : Cx} {sc : Scope} {fnS : Str → Bool} {ees : List Expr}, Sit N sc fnS G F sig d X → chA N sig sc fnS es ees = true → PA X ees (tA X.K (evs G F es))
  | .nil, X, sc, fnS, ees, s, h => by
    rw [chA.eq_def] at h; dsimp only at h
    cases ees with
    | nil => exact a_nil
    | cons a b => cases h
  | .cons e es, X, sc, fnS, ees, s, h => by
    rw [chA.eq_def] at h; dsimp only at h
    split at h
    · simp only [Bool.and_eq_true] at h
      exact a_cons (noStars_cons h.1.1).1 (soundE e s h.1.2).1 (soundA es s h.2)
    · exact Bool.noConfusion h
  | .star e es, X, sc, fnS, ees, s, h => by
    rw [chA.eq_def] at h; dsimp only at h
    split at h
    · simp only [Bool.and_eq_true] at h
      exact a_star s.calm (soundE e s h.1).1 (soundA es s h.2)
    · exact Bool.noConfusion h
theorem soundO : ∀ (o : Exo) {X : Cx} {sc : Scope} {fnS : Str → Bool} {oe : Option Expr}, Sit N sc fnS G F sig d X → chO N sig sc fnS o oe = true → PO X oe (tO X.K (evo G F o))
  | .none, X, sc, fnS, oe, s, h => by
    rw [chO.eq_def] at h; dsimp only at h
    cases oe with
    | none => exact o_none
    | some a => cases h
  | .some e, X, sc, fnS, oe, s, h => by
    rw [chO.eq_def] at h; dsimp only at h
    split at h
    · exact o_some (soundE e s h).1
    · exact Bool.noConfusion h
theorem soundC : ∀ (o : Exo) {X : Cx} {sc : Scope} {fnS : Str → Bool} {es : List Expr}, Sit N sc fnS G F sig d X → chC N sig sc fnS o es = true → PTs X es (tB' X.K (evc G F o))
  | .none, X, sc, fnS, es, s, h => by
    rw [chC.eq_def] at h; dsimp only at h
    cases es with
    | nil => exact ⟨fun pins st σ H Q I ⟨r, S, io, e, q, g⟩ => pts_nil.run pins st σ H Q I (g.at q rfl)⟩
    | cons a b => cases h
  | .some e, X, sc, fnS, es, s, h => by
    rw [chC.eq_def] at h; dsimp only at h
    split at h
    · exact pts_one (soundE e s h).2
    · exact Bool.noConfusion h
theorem soundI : ∀ (i : A46.Itr) {X : Cx} {sc : Scope} {fnS : Str → Bool} {tg e : Expr}, Sit N sc fnS G F sig d X → chI N sig sc fnS i tg e = true → PI X tg e (tI X.K (pairIt i) (evi G F i))
  | .seq a, X, sc, fnS, tg, e, s, h => by
    rw [chI.eq_def] at h; dsimp only at h
    exact i_seq (soundE a s h).1
  | .range1 a, X, sc, fnS, tg, e, s, h => by
    rw [chI.eq_def] at h; dsimp only at h
    split at h
    · simp only [Bool.and_eq_true, decide_eq_true_eq] at h
      obtain ⟨⟨⟨rfl, h2⟩, h3⟩, h4⟩ := h
      exact i_range1 (gl_of s h2) s.rng h3 (soundE a s h4).1
    · exact Bool.noConfusion h
  | .range2 a b, X, sc, fnS, tg, e, s, h => by
    rw [chI.eq_def] at h; dsimp only at h
    split at h
    · simp only [Bool.and_eq_true, decide_eq_true_eq] at h
      obtain ⟨⟨⟨⟨rfl, h2⟩, h3⟩, h4⟩, h5⟩ := h
      exact i_range2 (gl_of s h2) s.rng h3 (soundE a s h4).1 (soundE b s h5).1
    · exact Bool.noConfusion h
  | .zip a b, X, sc, fnS, tg, e, s, h => by
    rw [chI.eq_def] at h; dsimp only at h
    split at h
    · simp only [Bool.and_eq_true, decide_eq_true_eq] at h
      obtain ⟨⟨⟨⟨rfl, h2⟩, h3⟩, h4⟩, h5⟩ := h
      exact i_zip (gl_of s h2) s.zp h3 (soundE a s h4).1 (soundE b s h5).1
    · exact Bool.noConfusion h
  | .enum a, X, sc, fnS, tg, e, s, h => by
    rw [chI.eq_def] at h; dsimp only at h
    split at h
    · simp only [Bool.and_eq_true, decide_eq_true_eq] at h
      obtain ⟨⟨⟨rfl, h2⟩, h3⟩, h4⟩ := h
      exact i_enum (gl_of s h2) s.en h3 (soundE a s h4).1
    · exact Bool.noConfusion h
end
end
end A46
end
section
namespace A46
open PySem PySem.Spec L2
theorem bk_fn {env : Env} (hk : env.scope.kind = .function) : env.blockKind = .function := by unfold Env.blockKind; rw [hk]; rfl
theorem ns_any {f : Expr → Bool} (hf : ∀ e, (∀ a p, e ≠ .Starred a p) → f e = false) : ∀ {es : List Expr}, noStars es = true → es.any f = false
  | [], _ => rfl
  | e :: es, h => by
    have := ns_any hf (noStars_cons h).2
    rw [List.any_cons, this, Bool.or_false]
    exact hf e (noStars_cons h).1
theorem beq_sym {x y : Str} (h : (x == y) = false) : (y == x) = false := by
  cases k : y == x with
  | false => rfl
  | true => rw [eq_of_beq k] at h; simp at h
section
variable {x y z : Str} {px py pz pt pt2 : Pos} {kt k2 : Nat} {a b c : Expr} {env : Env}
theorem sw2_some (hk : env.scope.kind = .function) (hx : env.scope.names.lookup x = some .local) (hy : env.scope.names.lookup y = some .local) (hl : (py.line == px.line) = true) (hxy : (x == y) = false)
    (ns : noStars [a, b] = true) (hf : [a, b].all (foldedForSure 8) = false) (hc : [a, b].all (constantsAlone 8) = false) : swappedStores [.Tuple [.Name x px, .Name y py] kt pt] (.Tuple [a, b] k2 pt2) env = pure (some [x, y]) := by
  have kx : env.kindOf x = some .local := hx
  have ky : env.kindOf y = some .local := hy
  unfold swappedStores
  simp only [bk_fn hk, kx, ky, hl, hf, hc, Expr.pos, List.filterMap_cons, List.filterMap_nil, List.length_cons, List.length_nil, List.head?_cons, Option.map_some, Option.getD_some, beq_self_eq_true, Bool.and_true, Bool.and_self, if_true, List.eraseDups_cons, List.eraseDups_nil, List.filter_cons, List.filter_nil, beq_sym hxy, Bool.not_false]
  rw [if_neg (by decide), if_neg (by rw [ns_any _ ns]; · decide
                                     · intro e h; cases e <;> first | rfl | exact absurd rfl (h _ _)), if_neg (by decide), if_neg (by decide), if_neg (by decide)]
theorem sw3_some (hk : env.scope.kind = .function) (hx : env.scope.names.lookup x = some .local) (hy : env.scope.names.lookup y = some .local) (hz : env.scope.names.lookup z = some .local) (hl : (py.line == px.line) = true) (hm : (pz.line == px.line) = true) (hxy : (x == y) = false) (hxz : (x == z) = false) (hyz : (y == z) = false)
    (ns : noStars [a, b, c] = true) (hf : [a, b, c].all (foldedForSure 8) = false) (hc : [a, b, c].all (constantsAlone 8) = false) : swappedStores [.Tuple [.Name x px, .Name y py, .Name z pz] kt pt] (.Tuple [a, b, c] k2 pt2) env = pure (some [x, y, z]) := by
  have kx : env.kindOf x = some .local := hx
  have ky : env.kindOf y = some .local := hy
  have kz : env.kindOf z = some .local := hz
  unfold swappedStores
  simp only [bk_fn hk, kx, ky, kz, hl, hm, hf, hc, Expr.pos, List.filterMap_cons, List.filterMap_nil, List.length_cons, List.length_nil, List.head?_cons, Option.map_some, Option.getD_some, beq_self_eq_true, Bool.and_true, Bool.and_self, if_true, List.eraseDups_cons, List.eraseDups_nil, List.filter_cons, List.filter_nil, beq_sym hxy, beq_sym hxz, beq_sym hyz, Bool.not_false]
  rw [if_neg (by decide), if_neg (by rw [ns_any _ ns]; · decide
                                     · intro e h; cases e <;> first | rfl | exact absurd rfl (h _ _)), if_neg (by decide), if_neg (by decide), if_neg (by decide)]
end
/-- the stores are in their order: the value is no tuple, or one of constants, or a name is kept in a cell -/
def plainStores (sc : Scope) (es : List Expr) (v : Expr) : Bool := match v with
  | .Tuple vs _ _ => vs.all (foldedForSure 8) || !decide (vs.length = es.length) || (match es with
    | [.Name x _, .Name y _] => !(sc.names.lookup x == some .local) || !(sc.names.lookup y == some .local)
    | [.Name x _, .Name y _, .Name z _] => !(sc.names.lookup x == some .local) || !(sc.names.lookup y == some .local) || !(sc.names.lookup z == some .local)
    | _ => decide (3 < es.length))
  | _ => true
theorem sw_none {es : List Expr} {kt : Nat} {pt : Pos} {v : Expr} {env : Env} (h : plainStores env.scope es v = true) : swappedStores [.Tuple es kt pt] v env = pure none := by
  cases v <;> first | rfl | skip
  rename_i vs k2 p2
  simp only [plainStores, Bool.or_eq_true] at h
  unfold swappedStores
  simp only
  rcases h with (h | h) | h
  · simp only [h, if_true]
    split
    · rfl
    · split
      · rfl
      · split <;> rfl
  · have hne : (vs.length != es.length) = true := by simpa using h
    simp only [hne, Bool.or_true, Bool.true_or, if_true]
  · split
    · rfl
    · split
      · rfl
      · rename_i n1 n2
        rw [if_pos]
        split at h
        · simp only [Bool.or_eq_true, Bool.not_eq_true'] at h
          have e : ∀ n : Str, env.kindOf n = env.scope.names.lookup n := fun _ => rfl
          simp only [List.filterMap_cons, List.filterMap_nil, e, Bool.or_eq_true]
          left
          rcases h with h | h <;> simp only [h, Bool.false_and, Bool.false_eq_true, if_false]
          · split <;> simp
          · split <;> simp
        · simp only [Bool.or_eq_true, Bool.not_eq_true'] at h
          have e : ∀ n : Str, env.kindOf n = env.scope.names.lookup n := fun _ => rfl
          simp only [List.filterMap_cons, List.filterMap_nil, e, Bool.or_eq_true]
          left
          rcases h with (h | h) | h <;> simp only [h, Bool.false_and, Bool.false_eq_true, if_false]
          · split <;> split <;> simp
          · split <;> split <;> simp
          · split <;> split <;> simp
        · have h := of_decide_eq_true h
          simp only [Bool.or_eq_true, Bool.not_eq_true', bne_iff_ne, ne_eq, not_or, Bool.or_eq_false_iff, beq_eq_false_iff_ne, not_and, Decidable.not_not] at n1
          exfalso
          omega
section
variable {X : Cx}
theorem s_par3 {x y z : Str} {i j l : Nat} {a b c : Expr} {px py pz pt pos : Pos} {kt k2 : Nat} {pt2 : Pos} {ma mb mc : Ev → Sto → Rs Val} (hc : X.calm = true) (hN : X.N.Nodup) (hi : X.N[i]? = some x) (hj : X.N[j]? = some y) (hl : X.N[l]? = some z) (hij : i ≠ j) (hil : i ≠ l) (hjl : j ≠ l)
    (hx : X.env.scope.names.lookup x = some .local) (hy : X.env.scope.names.lookup y = some .local) (hz : X.env.scope.names.lookup z = some .local)
    (hw : swappedStores [.Tuple [.Name x px, .Name y py, .Name z pz] kt pt] (.Tuple [a, b, c] k2 pt2) X.env = pure (some [x, y, z]))
    (ns : noStars [a, b, c] = true) (ha : PE X a (tE X.K ma)) (hb : PE X b (tE X.K mb)) (hcc : PE X c (tE X.K mc)) :
    PS X (.Assign [.Tuple [.Name x px, .Name y py, .Name z pz] kt pt] (.Tuple [a, b, c] k2 pt2) pos) (tSt X.K fun r S => (((ma r S).bind fun x S1 => ((mb r S1).bind fun x S1 => ((mc r S1).bind fun x S1 => (Rs.ok ([] : List Val) S1).bind fun xs S2 => .ok (x :: xs) S2).bind fun xs S2 => .ok (x :: xs) S2).bind fun xs S2 => .ok (x :: xs) S2).bind fun xs S1 => if xs.length ≤ lim then .ok (.tup xs) S1 else .no).bind
      fun v S1 => (Rs.of ((Tg.tp [i, j, l]).bind v r) S1).bind fun r2 S2 => .ok (.nx, r2) S2) := by
  obtain ⟨n1, n2⟩ := noStars_cons ns
  obtain ⟨n3, n4⟩ := noStars_cons n2
  obtain ⟨n5, n6⟩ := noStars_cons n4
  refine PS.imp' (ps_par3 hc hN hi hj hl hij hil hjl hx hy hz (a_cons n1 ha (a_cons n3 hb (a_cons n5 hcc a_nil))) hw (by unfold swapsWithSole; exact swaps_no rfl)) fun D σ H h => ?_
  obtain ⟨r, S, io, er, q, g⟩ := tSt_def.mp h
  refine ⟨r, S, io, er, q, ?_⟩
  dsimp only at g ⊢
  cases h1 : ma r S with
  | no => rw [h1] at g; exact g.elim
  | ok v S1 =>
    rw [h1] at g
    simp only [Rs.bind_ok] at g ⊢
    cases h2 : mb r S1 with
    | no => rw [h2] at g; exact g.elim
    | ok w S2 =>
      rw [h2] at g
      simp only [Rs.bind_ok] at g ⊢
      cases h3 : mc r S2 with
      | no => rw [h3] at g; exact g.elim
      | ok u S3 =>
        rw [h3] at g
        simp only [Rs.bind_ok] at g ⊢
        rw [if_pos (by show 3 ≤ lim; decide)] at g
        simp only [Rs.bind_ok, Tg.bind, bindAll, Rs.of_some] at g
        intro H1 io1 xs t1 q1 p1
        cases p1 with
        | cons pa p2 =>
          obtain ⟨x', y', rfl, pb, pc⟩ := p2.two
          exact ⟨_, x', y', rfl, g H1 io1 _ t1 q1 ((((er.mono q t1).set i pa).set j pb).set l pc)⟩
theorem s_setLc {i : Nat} {y : Str} {py : Pos} {elt tg iter : Expr} {ifs : List Expr} {scope : Scope} {own : List (Str × Nat)} {pos spos : Pos} {b : Bool} {mi : Ev → Sto → Rs Src} {t : Tg} {mc : Ev → Sto → Rs Bool} {me : Ev → Sto → Rs Val} (hc : X.calm = true) (hN : X.N.Nodup)
    (hy : X.N[i]? = some y) (hyl : X.env.scope.names.lookup y = some .local) (hsw : swapsWith (.ListComp elt [⟨tg, iter, ifs, 0⟩] scope pos) (some (.Name y py)) spos.line X.env = pure true)
    (ok : BlkOk X.N X.env.scope scope own) (hb : b = true → ∃ ts, t = .tp ts) (hts : ∀ i ∈ t.slots, i ∈ own.map (·.2))
    (hs : ∀ x, foldedSetIterable iter X.env x = pure x) (hi : PI X tg iter (tI X.K b mi)) (hg : ∀ (s : Shared) (H : Hp) (C : Addr) (cl : List (Str × Addr)) (fp : List Addr), PG (X.blk s H scope (compEnvC scope cl C X.env) fp) tg (gT X.K t))
    (ht : ∀ (s : Shared) (H : Hp) (C : Addr) (cl : List (Str × Addr)) (fp : List Addr), PTs (X.blk s H scope (compEnvC scope cl C X.env) fp) ifs (tB' X.K mc))
    (he : ∀ (s : Shared) (H : Hp) (C : Addr) (cl : List (Str × Addr)) (fp : List Addr), PE (X.blk s H scope (compEnvC scope cl C X.env) fp) elt (tE X.K me)) :
    PS X (.Assign [.Name y py] (.ListComp elt [⟨tg, iter, ifs, 0⟩] scope pos) spos) (tSt X.K fun r S => (lcM mi t (own.map (·.2)) mc me r S).bind fun v S1 => .ok (.nx, r.set i (some v)) S1) := by
  refine PS.imp' (ps_setLc hc hN hy hyl hsw hi ok hg ht he hs) fun D σ H h => ?_
  obtain ⟨r, S, io, er, q, g⟩ := tSt_def.mp h
  refine tLc_ok hb hts ⟨r, S, io, er, q, ?_⟩
  exact Go.imp (GoS.val g) fun x H1 ⟨v, S1, io1, t1, q1, p1, g1⟩ => g1 H1 io1 _ .refl q1 ((er.mono q t1).set i p1)
end
def lcSwaps (sc : Scope) (x : Str) (p : Pos) : Expr → Bool
  | .ListComp _ _ scope pos => (sc.names.lookup x == some .local) && p.line == pos.line && !(scope.names.any fun (n, k) => n == x && (k == .local || k == .cell))
  | _ => false
def isLc : Expr → Bool
  | .ListComp .. => true
  | _ => false
theorem sw_lc {sc : Scope} {x : Str} {p : Pos} {e : Expr} {l : Nat} {env : Env} (hk : env.scope.kind = .function) (he : env.scope = sc) (h : isComp e = false ∨ isLc e = true) : swapsWith e (some (.Name x p)) l env = pure (lcSwaps sc x p e) := by
  rcases h with h | h
  · rw [swaps_no h]
    cases e <;> first | rfl | exact Bool.noConfusion h
  · cases e <;> first | exact Bool.noConfusion h | skip
    unfold swapsWith lcSwaps
    have e : env.kindOf x = sc.names.lookup x := by rw [← he]; rfl
    simp only [bk_fn hk, e, Expr.pos]
    simp
section
variable (N : List Str) (sig : Str → Option Nat)
def chAsg (sc : Scope) (fnS : Str → Bool) (t : Ta) (e : Ex) (tg v : Expr) : Bool := match t with
  | .tg (.nm i) => (match tg with
    | .Name x _ => decide (N[i]? = some x) && locB sc fnS x && (!isComp v || isLc v) && chE N sig sc fnS e v
    | _ => false)
  | .tg (.tp ts) => (match tg with
    | .Tuple es _ _ => (plainStores sc es v && !isComp v && chNs N sc fnS ts es && chE N sig sc fnS e v) || (match ts, es, e, v with
      | [i, j], [.Name x px, .Name y py], .tup (.cons a (.cons b .nil)), .Tuple [ea, eb] _ _ => decide (N[i]? = some x) && decide (N[j]? = some y) && decide (i ≠ j) && decide (sc.names.lookup x = some .local) && decide (sc.names.lookup y = some .local)
        && (py.line == px.line) && !(x == y) && noStars [ea, eb] && !([ea, eb].all (foldedForSure 8)) && !([ea, eb].all (constantsAlone 8)) && chE N sig sc fnS a ea && chE N sig sc fnS b eb
      | [i, j, l], [.Name x px, .Name y py, .Name z pz], .tup (.cons a (.cons b (.cons c .nil))), .Tuple [ea, eb, ec] _ _ => decide (N[i]? = some x) && decide (N[j]? = some y) && decide (N[l]? = some z) && decide (i ≠ j) && decide (i ≠ l) && decide (j ≠ l)
        && decide (sc.names.lookup x = some .local) && decide (sc.names.lookup y = some .local) && decide (sc.names.lookup z = some .local)
        && (py.line == px.line) && (pz.line == px.line) && !(x == y) && !(x == z) && !(y == z) && noStars [ea, eb, ec] && !([ea, eb, ec].all (foldedForSure 8)) && !([ea, eb, ec].all (constantsAlone 8)) && chE N sig sc fnS a ea && chE N sig sc fnS b eb && chE N sig sc fnS c ec
      | _, _, _, _ => false)
    | _ => false)
  | .sub o i => (match tg with
    | .Subscript eo ei _ => !isSlice ei && !isComp v && chE N sig sc fnS e v && chE N sig sc fnS o eo && chE N sig sc fnS i ei
    | _ => false)
mutual
def chS (sc : Scope) (fnS : Str → Bool) : Sm → Stmt → Bool
  | .asg t e, st => (match st with
    | .Assign [tg] v _ => chAsg N sig sc fnS t e tg v
    | _ => false)
  | .aug o i b e, st => (match st with
    | .AugAssign (.Subscript eo ei _) op v _ => augOp op b && !isSlice ei && chE N sig sc fnS o eo && chE N sig sc fnS i ei && chE N sig sc fnS e v
    | _ => false)
  | .augN i b e, st => (match st with
    | .AugAssign (.Name x _) op v _ => augOp op b && decide (N[i]? = some x) && locB sc fnS x && chE N sig sc fnS e v
    | _ => false)
  | .ex e, st => (match st with
    | .Expr v _ => !isComp v && chE N sig sc fnS e v
    | _ => false)
  | .ret e, st => (match st with
    | .Return (some v) _ => chE N sig sc fnS e v
    | _ => false)
  | .ite c a b, st => (match st with
    | .If ec ea eb _ => chE N sig sc fnS c ec && chSs sc fnS a ea && chSs sc fnS b eb
    | _ => false)
  | .for_ it t b, st => (match st with
    | .For tg iter body [] _ => tgOk (pairIt it) t && !isSet iter && chI N sig sc fnS it tg iter && chT N sc fnS t tg && chSs sc fnS b body
    | _ => false)
  | .whl c b, st => (match st with
    | .While ec body [] _ => chE N sig sc fnS c ec && chSs sc fnS b body
    | _ => false)
  | .pass, st => (match st with
    | .Pass _ => true
    | _ => false)
def chSs (sc : Scope) (fnS : Str → Bool) : Sms → List Stmt → Bool
  | .nil, l => l.isEmpty
  | .cons s r, l => (match l with
    | st :: rest => chS sc fnS s st && chSs sc fnS r rest
    | _ => false)
end
end
section
variable {N : List Str} {G : Str → Option Val} {F : Fns} {sig : Str → Option Nat} {d : Nat}
theorem soundAsg {X : Cx} {sc : Scope} {fnS : Str → Bool} (s : Sit N sc fnS G F sig d X) {t : Ta} {e : Ex} {tg v : Expr} {pos : Pos} (h : chAsg N sig sc fnS t e tg v = true) :
    PS X (.Assign [tg] v pos) (tSt X.K fun r S => (ev G F e r S).bind fun v S1 => (store G F t v r S1).bind fun r2 S2 => .ok (.nx, r2) S2) := by
  unfold chAsg at h
  split at h
  · rename_i i
    split at h
    · rename_i x p
      simp only [Bool.and_eq_true, decide_eq_true_eq] at h
      obtain ⟨⟨⟨h1, h2⟩, h3⟩, h4⟩ := h
      have hsw : swapsWith v (some (.Name x p)) pos.line X.env = pure (lcSwaps sc x p v) := sw_lc (by rw [s.scp]; exact s.kd) s.scp (by
        rw [Bool.or_eq_true, Bool.not_eq_true'] at h3
        exact h3)
      obtain ⟨l1, l2⟩ := locB_ok h2
      cases hb : lcSwaps sc x p v with
      | false =>
        rw [hb] at hsw
        exact s_set (i := i) (by rw [s.nm]; exact s.nd) (by rw [s.nm]; exact h1) (by rw [s.scp]; exact l1) (by rw [s.fn, s.scp]; exact l2) hsw (soundE e s h4).1
      | true =>
        rw [hb] at hsw
        cases v <;> first | exact Bool.noConfusion hb | skip
        simp only [lcSwaps, Bool.and_eq_true, beq_iff_eq] at hb
        cases e <;> first | exact Bool.noConfusion h4 | skip
        rename_i it t c e vs
        rw [chE.eq_def] at h4; dsimp only at h4
        split at h4
        · rename_i heq
          cases heq
          simp only [Bool.and_eq_true, decide_eq_true_eq, Bool.not_eq_true'] at h4
          obtain ⟨⟨⟨⟨⟨⟨⟨h1', h2'⟩, h3'⟩, h4'⟩, h5'⟩, h6'⟩, h7'⟩, h8'⟩ := h4
          have ok := blkOk_by h1'
          have main := s_setLc (X := X) (i := i) (y := x) (own := ownOf N vs) s.calm (by rw [s.nm]; exact s.nd) (by rw [s.nm]; exact h1) (by rw [s.scp]; exact hb.1.1) hsw (by rw [s.nm, s.scp]; exact ok) (tgOk_ok h3') (by rw [ownOf_snd]; exact h2') (folded_of h4') (soundI it s h5')
            (fun s' H C cl fp => pg_of (s.blk ok.kind s' H C cl fp) h6') (fun s' H C cl fp => soundC c (s.blk ok.kind s' H C cl fp) h7') (fun s' H C cl fp => (soundE e (s.blk ok.kind s' H C cl fp) h8').1)
          rw [ownOf_snd] at main
          exact main
        · exact Bool.noConfusion h4
    · exact Bool.noConfusion h
  · rename_i ts
    split at h
    · rw [Bool.or_eq_true] at h
      rcases h with h | h
      · simp only [Bool.and_eq_true, Bool.not_eq_true'] at h
        refine s_tup s.calm (pg_of s (t := .tp ts) (by rw [chT]; exact h.1.2)) ?_ (sw_none (by rw [s.scp]; exact h.1.1.1)) (soundE e s h.2).1
        unfold swapsWithSole
        exact swaps_no h.1.1.2
      · split at h
        · simp only [Bool.and_eq_true, Bool.not_eq_true', decide_eq_true_eq] at h
          obtain ⟨⟨⟨⟨⟨⟨⟨⟨⟨⟨⟨h1, h2⟩, h3⟩, h4⟩, h5⟩, h6⟩, h7⟩, h8⟩, h9⟩, h10⟩, h11⟩, h12⟩ := h
          exact s_par s.calm (by rw [s.nm]; exact s.nd) (by rw [s.nm]; exact h1) (by rw [s.nm]; exact h2) h3 (by rw [s.scp]; exact h4) (by rw [s.scp]; exact h5) (sw2_some (by rw [s.scp]; exact s.kd) (by rw [s.scp]; exact h4) (by rw [s.scp]; exact h5) h6 h7 h8 h9 h10) h8 (soundE _ s h11).1 (soundE _ s h12).1
        · simp only [Bool.and_eq_true, Bool.not_eq_true', decide_eq_true_eq] at h
          obtain ⟨⟨⟨⟨⟨⟨⟨⟨⟨⟨⟨⟨⟨⟨⟨⟨⟨⟨⟨h1, h2⟩, h3⟩, h4⟩, h5⟩, h6⟩, h7⟩, h8⟩, h9⟩, h10⟩, h11⟩, h12⟩, h13⟩, h14⟩, h15⟩, h16⟩, h17⟩, h18⟩, h19⟩, h20⟩ := h
          exact s_par3 s.calm (by rw [s.nm]; exact s.nd) (by rw [s.nm]; exact h1) (by rw [s.nm]; exact h2) (by rw [s.nm]; exact h3) h4 h5 h6 (by rw [s.scp]; exact h7) (by rw [s.scp]; exact h8) (by rw [s.scp]; exact h9)
            (sw3_some (by rw [s.scp]; exact s.kd) (by rw [s.scp]; exact h7) (by rw [s.scp]; exact h8) (by rw [s.scp]; exact h9) h10 h11 h12 h13 h14 h15 h16 h17) h15 (soundE _ s h18).1 (soundE _ s h19).1 (soundE _ s h20).1
        · exact Bool.noConfusion h
    · exact Bool.noConfusion h
  · split at h
    · simp only [Bool.and_eq_true, Bool.not_eq_true'] at h
      exact s_sub s.u1 h.1.1.1.1 h.1.1.1.2 (soundE e s h.1.1.2).1 (soundE _ s h.1.2).1 (soundE _ s h.2).1
    · exact Bool.noConfusion h
variable {fuel : Nat}
mutual
theorem soundS : ∀ (q : Sm) {X : Cx} {sc : Scope} {fnS : Str → Bool} {st : Stmt}, Sit N sc fnS G F sig d X → chS N sig sc fnS q st = true → PS X st (tSt X.K (sm G F fuel q))
  | .asg t e, X, sc, fnS, st, s, h => by
    rw [chS.eq_def] at h; dsimp only at h
    split at h
    · exact soundAsg s h
    · exact Bool.noConfusion h
  | .aug o i b e, X, sc, fnS, st, s, h => by
    rw [chS.eq_def] at h; dsimp only at h
    split at h
    · simp only [Bool.and_eq_true, Bool.not_eq_true'] at h
      exact s_aug s.u1 h.1.1.1.1 h.1.1.1.2 (soundE o s h.1.1.2).1 (soundE i s h.1.2).1 (soundE e s h.2).1
    · exact Bool.noConfusion h
  | .augN i b e, X, sc, fnS, st, s, h => by
    rw [chS.eq_def] at h; dsimp only at h
    split at h
    · simp only [Bool.and_eq_true, decide_eq_true_eq] at h
      obtain ⟨l1, l2⟩ := locB_ok h.1.2
      exact s_augN h.1.1.1 (by rw [s.nm]; exact s.nd) (by rw [s.nm]; exact h.1.1.2) (by rw [s.scp]; exact l1) (by rw [s.fn, s.scp]; exact l2) (soundE e s h.2).1
    · exact Bool.noConfusion h
  | .ex e, X, sc, fnS, st, s, h => by
    rw [chS.eq_def] at h; dsimp only at h
    split at h
    · simp only [Bool.and_eq_true, Bool.not_eq_true'] at h
      exact s_expr h.1 (soundE e s h.2).1
    · exact Bool.noConfusion h
  | .ret e, X, sc, fnS, st, s, h => by
    rw [chS.eq_def] at h; dsimp only at h
    split at h
    · exact s_ret (soundE e s h).1
    · exact Bool.noConfusion h
  | .ite c a b, X, sc, fnS, st, s, h => by
    rw [chS.eq_def] at h; dsimp only at h
    split at h
    · simp only [Bool.and_eq_true] at h
      exact s_if (soundE c s h.1.1).2 (soundSs a s h.1.2) (soundSs b s h.2)
    · exact Bool.noConfusion h
  | .for_ it t b, X, sc, fnS, st, s, h => by
    rw [chS.eq_def] at h; dsimp only at h
    split at h
    · simp only [Bool.and_eq_true, Bool.not_eq_true'] at h
      exact s_for s.xe s.calm (tgOk_ok h.1.1.1.1) (folded_of h.1.1.1.2) (soundI it s h.1.1.2) (pg_of s h.1.2) (soundSs b s h.2)
    · exact Bool.noConfusion h
  | .whl c b, X, sc, fnS, st, s, h => by
    rw [chS.eq_def] at h; dsimp only at h
    split at h
    · simp only [Bool.and_eq_true] at h
      exact s_while s.xe (soundE c s h.1).2 (soundSs b s h.2)
    · exact Bool.noConfusion h
  | .pass, X, sc, fnS, st, s, h => by
    rw [chS.eq_def] at h; dsimp only at h
    split at h
    · exact s_pass
    · exact Bool.noConfusion h
theorem soundSs : ∀ (q : Sms) {X : Cx} {sc : Scope} {fnS : Str → Bool} {l : List Stmt}, Sit N sc fnS G F sig d X → chSs N sig sc fnS q l = true → PSs X l (tSt X.K (sms G F fuel q))
  | .nil, X, sc, fnS, l, s, h => by
    rw [chSs.eq_def] at h; dsimp only at h
    cases l with
    | nil => exact ss_nil
    | cons a b => cases h
  | .cons q r, X, sc, fnS, l, s, h => by
    rw [chSs.eq_def] at h; dsimp only at h
    split at h
    · rw [Bool.and_eq_true] at h
      exact ss_cons (soundS q s h.1) (soundSs r s h.2)
    · exact Bool.noConfusion h
end
end
end A46
end
section
namespace A46
open PySem PySem.Spec L2
theorem lk_zip : ∀ {ps : List Str} {us : List Value} {p : Str}, us.length = ps.length → p ∈ ps → ((ps.zip us).lookup p).isNone = false
  | [], _, _, _, h => by cases h
  | q :: ps, [], _, h, _ => by cases h
  | q :: ps, u :: us, p, hl, h => by
    rw [List.zip_cons_cons, List.lookup_cons]
    cases e : p == q with
    | true => rfl
    | false =>
      refine lk_zip (by simpa using hl) ?_
      rcases List.mem_cons.mp h with z | z
      · rw [z] at e; simp at e
      · exact z
theorem fm_zip : ∀ {ps : List Str} {us : List Value}, ps.Nodup → us.length = ps.length → ps.filterMap (fun n => ((ps.zip us).lookup n).map fun v => (n, v)) = ps.zip us
  | [], _, _, _ => rfl
  | q :: ps, [], _, h => by cases h
  | q :: ps, u :: us, nd, hl => by
    rw [List.zip_cons_cons, List.filterMap_cons, List.lookup_cons, beq_self_eq_true]
    simp only [Option.map_some]
    congr 1
    rw [List.nodup_cons] at nd
    have hq : ∀ n ∈ ps, (List.lookup n ((q, u) :: ps.zip us)) = List.lookup n (ps.zip us) := fun n hn => by
      rw [List.lookup_cons]
      have : (n == q) = false := by
        cases e : n == q with
        | false => rfl
        | true => rw [eq_of_beq e] at hn; exact absurd hn nd.1
      rw [this]
    have e1 : ∀ (l : List Str), (∀ n ∈ l, n ∈ ps) → l.filterMap (fun n => (List.lookup n ((q, u) :: ps.zip us)).map fun v => (n, v)) = l.filterMap (fun n => (List.lookup n (ps.zip us)).map fun v => (n, v)) := by
      intro l h
      induction l with
      | nil => rfl
      | cons a l ih =>
        rw [List.filterMap_cons, List.filterMap_cons, hq a (h a List.mem_cons_self), ih fun n hn => h n (List.mem_cons_of_mem _ hn)]
    rw [e1 ps fun _ h => h, fm_zip nd.2 (by simpa using hl)]
theorem bind_plain {x q : Str} {as : List Arg} {body : List Stmt} {sc : Scope} {kV doc pm : Value} {an : Option Addr} {cdv ct : Value} {us : List Value} (nd : (as.map (·.arg)).Nodup) (hl : us.length = (as.map (·.arg)).length) :
    bindArgs (PySem.W.fnOf x q ⟨[], as, none, [], [], none, []⟩ body sc .none kV doc pm an cdv ct) ⟨us, []⟩ = pure ((as.map (·.arg)).zip us) := by
  unfold bindArgs PySem.W.fnOf
  simp only
  generalize as.map (·.arg) = ps at *
  have hm : (ps.filter fun n => ((ps.zip us).lookup n).isNone) = [] := by
    rw [List.filter_eq_nil_iff]
    intro n hn
    rw [lk_zip hl hn]
    exact Bool.false_ne_true
  have e1 : seqItems? Value.none = pure none := rfl
  simp only [List.map_nil, List.nil_append, e1, pure_bind, List.forIn_nil, Option.getD_none, List.length_nil, hl]
  simp [hm, fm_zip nd hl, List.take_of_length_le]
def sigOf (T : List (Str × Fn)) (f : Str) : Option Nat := (T.lookup f).map fun fn => fn.ps.length
def plainP (p : Arguments) (ps : List Str) : Bool := p.posonlyargs.isEmpty && p.vararg.isNone && p.kwonlyargs.isEmpty && p.kw_defaults.isEmpty && p.kwarg.isNone && p.defaults.isEmpty && decide (p.args.map (·.arg) = ps) && decide ps.Nodup
theorem plainP_ok {p : Arguments} {ps : List Str} (h : plainP p ps = true) : ps.Nodup ∧ ∃ as : List Arg, p = ⟨[], as, none, [], [], none, []⟩ ∧ as.map (·.arg) = ps := by
  obtain ⟨a, b, c, d, e, f, g⟩ := p
  simp only [plainP, Bool.and_eq_true, List.isEmpty_iff, Option.isNone_iff_eq_none, decide_eq_true_eq] at h
  obtain ⟨⟨⟨⟨⟨⟨⟨rfl, rfl⟩, rfl⟩, rfl⟩, rfl⟩, rfl⟩, h7⟩, h8⟩ := h
  exact ⟨h8, b, rfl, h7⟩
def scB (N P : List Str) (sc : Scope) : Bool := decide (sc.kind = .function) && !sc.isCoroutine && !sc.isGenerator && decide N.Nodup && decide (N.take P.length = P) && P.all (fun x => visB sc x && !decide (sc.names.lookup x = some .free)) && sc.names.all (fun y => decide (y.2 ≠ .free))
theorem scB_ok {N P : List Str} {sc : Scope} (h : scB N P sc = true) : FnScope N P sc := by
  unfold scB at h
  simp only [Bool.and_eq_true, Bool.not_eq_true', decide_eq_true_eq, List.all_eq_true, decide_eq_false_iff_not] at h
  obtain ⟨⟨⟨⟨⟨⟨h1, h2⟩, h3⟩, h4⟩, h5⟩, h6⟩, h7⟩ := h
  refine ⟨h1, h2, h3, h4, h5, fun x hx => ?_, fun y hy => h7 y hy⟩
  obtain ⟨a, b⟩ := h6 x hx
  rcases visB_ok a with z | z | z
  · exact .inl z
  · exact .inr z
  · exact absurd z b
/-- one def of the text against one of the table -/
def chF (T : List (Str × Fn)) (fn : Fn) (p : Arguments) (body : List Stmt) (sc : Scope) : Bool := plainP p fn.ps && scB fn.nm fn.ps sc && chSs fn.nm (sigOf T) sc (fun _ => true) fn.body body
structure Tab (K : PySem.W.Frag) (mg : Str → Option Value) (G : Str → Option Val) (T : List (Str × Fn)) : Prop where
  defs : ∀ f fn, T.lookup f = some fn → ∃ (a : Addr) (fd : FuncData) (p : Arguments) (body : List Stmt) (sc : Scope), FunD K f f p body sc [] [] a fd ∧ mg f = some (.ref a) ∧ chF T fn p body sc = true
  blt : ∀ b : Bi, mg (biN b) = none
  rng : mg "range" = none
  zp : mg "zip" = none
  en : mg "enumerate" = none
  glo : ∀ x v, G x = some v → ∃ u y, mg x = some u ∧ RelV y u ∧ ∀ H io, Rep K H io v y
/-- a def that may be called, at a depth -/
def Cl (P : Program) (w : World) (K : PySem.W.Frag) (mg : Str → Option Value) (base : Heap) (d : Nat) (f : Str) (n : Nat) (F : List Val → Sto → Rs Val) : Prop :=
  ∃ a fd ps, mg f = some (.ref a) ∧ PySem.W.keepIn K (.ref a) = true ∧ Binds K fd ps [] ∧ FnG P w K mg base d a fd ps (spOf K n F)
theorem tab_at {P : Program} {w : World} {K : PySem.W.Frag} {mg : Str → Option Value} {base : Heap} {G : Str → Option Val} {T : List (Str × Fn)} {fuel d : Nat} (t : Tab K mg G T) {f : Str} {fn : Fn} (hf : T.lookup f = some fn)
    {a : Addr} {fd : FuncData} {p : Arguments} {body : List Stmt} {sc : Scope} (F : FunD K f f p body sc [] [] a fd) (c : chF T fn p body sc = true)
    (ih : ∀ g n, sigOf T g = some n → Cl P w K mg base d g n (run G T fuel d g)) : FnG P w K mg base (d + 1) a fd fn.ps (spOf K fn.ps.length (run G T fuel (d + 1) f)) := by
  simp only [chF, Bool.and_eq_true] at c
  have S := scB_ok c.1.2
  obtain ⟨oc, od, dV, kV, doc, pm, an, cdv, ct, osl, rfl, lk, hcd, _, _⟩ := F.ex
  refine g_of lk hcd S (fun vs H Q E ⟨xs, S0, io, h1, h2, _⟩ => by rw [← h2.length]; exact h1) fun A outer s H vs Q E hr hg want => ?_
  refine ⟨_, PSs.nox (soundSs (N := fn.nm) (G := G) (F := run G T fuel d) (sig := sigOf T) (d := d) (fuel := fuel) fn.body (sc := sc) (fnS := fun _ => true) ?_ c.2), ?_⟩
  · exact ⟨rfl, S.nd, rfl, S.kind, rfl, rfl, rfl, hg, hr, t.blt, t.rng, t.zp, t.en, fun g n e => ih g n e, t.glo⟩
  · obtain ⟨xs, S0, io, h1, h2, h3, g⟩ := want
    refine ⟨xs.map some ++ List.replicate (fn.nm.length - xs.length) none, S0, io, ?_, h3, ?_⟩
    · have e := erel_start (N := fn.nm) (fn.nm.length - xs.length) h2
      unfold L2.start
      rw [← h2.length]
      exact e
    · have e : run G T fuel (d + 1) f xs S0 = (sms G (run G T fuel d) fuel fn.body (xs.map some ++ List.replicate (fn.nm.length - xs.length) none) S0).bind fun q S1 => match q.1 with
          | .rt v => .ok v S1
          | .nx => .ok .non S1 := by
        rw [run, hf]
        simp only
        unfold runFn
        rw [if_pos h1]
        all_goals rfl
      rw [e] at g
      cases hq : sms G (run G T fuel d) fuel fn.body (xs.map some ++ List.replicate (fn.nm.length - xs.length) none) S0 with
      | no => rw [hq] at g; exact g
      | ok q S1 =>
        obtain ⟨fl, r'⟩ := q
        rw [hq] at g
        simp only [Rs.bind_ok] at g
        cases fl with
        | rt v => exact fun H' io' x st q p => g H' io' x st q p
        | nx => exact fun H' io' σ' st q er => g H' io' .non st q .non
theorem tab_all {P : Program} {w : World} {K : PySem.W.Frag} {mg : Str → Option Value} {base : Heap} {G : Str → Option Val} {T : List (Str × Fn)} {fuel : Nat} (t : Tab K mg G T) : ∀ (d : Nat) (f : Str) (n : Nat), sigOf T f = some n → Cl P w K mg base d f n (run G T fuel d f)
  | 0, f, n, h => by
    unfold sigOf at h
    cases hf : T.lookup f with
    | none => rw [hf] at h; cases h
    | some fn =>
      rw [hf] at h
      cases h
      obtain ⟨a, fd, p, body, sc, F, hm, c⟩ := t.defs f fn hf
      simp only [chF, Bool.and_eq_true] at c
      obtain ⟨nd, as, rfl, e⟩ := plainP_ok c.1.1
      refine ⟨a, fd, fn.ps, hm, F.kp, ?_, ⟨fun vs H Q E ⟨xs, S0, io, h1, h2, _⟩ => by rw [← h2.length]; exact h1, fun A outer s H args us vs Q E _ _ _ _ _ ⟨xs, S0, io, _, _, _, g⟩ => g.elim⟩⟩
      rw [← e] at nd ⊢
      exact F.bindsN fun _ _ _ _ _ _ us hl => bind_plain nd hl
  | d + 1, f, n, h => by
    have h0 := h
    unfold sigOf at h
    cases hf : T.lookup f with
    | none => rw [hf] at h; cases h
    | some fn =>
      rw [hf] at h
      cases h
      obtain ⟨a, fd, p, body, sc, F, hm, c⟩ := t.defs f fn hf
      have main := tab_at (P := P) (w := w) (base := base) (fuel := fuel) t hf F c (tab_all t d)
      simp only [chF, Bool.and_eq_true] at c
      obtain ⟨nd, as, rfl, e⟩ := plainP_ok c.1.1
      refine ⟨a, fd, fn.ps, hm, F.kp, ?_, main⟩
      rw [← e] at nd ⊢
      exact F.bindsN fun _ _ _ _ _ _ us hl => bind_plain nd hl
end A46
end
section
namespace A46
open PySem PySem.Spec L2 PyProof.Rows
section
variable {P : Program} {w : World} {K : PySem.W.Frag} {mg mb : Str → Option Value} {d : Nat} {fn at_ : Addr} {fd : FuncData} {x : Str} {t : Shared} {us : List Value} {zs : List Int} {F : List Val → Sto → Rs Val}
/-- the call, from an abstract heap that tracks the script at most -/
theorem end_core {H : Hp} {S' : Sto} (inK : K.In t.heap) (nsM : t.heap.Ns mainGlobals mg) (nsB : t.heap.Ns builtinsNs mb) (bb : ∀ y : Str, y ≠ "__name__" → mb y = bootBuiltins y) (nl : t.heap.NoLimit) (g0 : t.gens = #[])
    (obj : t.heap.get? at_ = some { cls := .type "list", data := .seq us.toArray }) (room : Room d callerA)
    (law : ∀ base : Heap, FnG P w K mg base d fn fd [x] (spOf K 1 F)) (bnd : ∀ (s : Shared) (u : Value), BindsTo s fd ⟨[u], []⟩ [(x, u)])
    (frz : ∀ b o, H b = some o → b = at_ ∧ ∃ ob l, o = .frz ob (.lst l)) (own : ∀ o, H at_ = some o → K.lookup at_ = none) (ok : HOk P w H t.heap) (sq : SqF K H at_ (zs.map V.int))
    (res : F [.scr (zs.map .int)] [] = .ok (.bl true) S') :
    codeAny (model P w) callerA (.call (.ref fn) ⟨[.ref at_], []⟩) (fun r s => r = .ok (.ret (.bool true)) ∧ OldK t.heap s.heap ∧ s.os = t.os ∧ AllBare s.gens) t := by
  have un : ∀ {b : Addr} {o : Obj}, t.heap.get? b = some o → (∀ l n, o.data ≠ .seq l n) → H b = none := fun {b o} e ne => by
    cases hb : H b with
    | none => rfl
    | some z =>
      obtain ⟨rfl, _⟩ := frz b z hb
      have e2 := obj.symm.trans e
      cases e2
      exact absurd rfl (ne _ _)
  have ns : ∀ {b : Addr} {m : Str → Option Value}, t.heap.Ns b m → (hidT t.heap H).Ns b m := fun ⟨o, l, n, e1, e2, e3⟩ => ⟨o, l, n, hidT_get e1 (un e1 fun a b z => by rw [e2] at z; cases z), e2, e3⟩
  have kk : K.In (hidT t.heap H) := fun b o e => hidT_get (inK b o e) (by
    cases hb : H b with
    | none => rfl
    | some z =>
      obtain ⟨rfl, _⟩ := frz b z hb
      rw [own z hb] at e
      cases e)
  obtain ⟨mc, c1, c2⟩ := nl
  have env : Env0 P w K mg (hidT t.heap H) callerA [] t H := {
    frames := rfl
    mod := ⟨kk, ns nsM, ⟨mb, ns nsB, bb⟩, ⟨mc, ns c1, c2⟩⟩
    bs := fun b o e => of_hidT e
    bsz := by rw [hidT_size]; exact Nat.le_refl _
    funs := trivial
    frf := fun b hb => nomatch hb
    hok := ok
    bare := .of_eq g0 }
  have rp : Rep K H [] (.scr (zs.map .int)) (.ref at_) := by
    refine .scr sq ?_
    clear res sq
    induction zs with
    | nil => exact .nil
    | cons z l ih => exact .cons (.int z) ih
  have want : spOf K 1 F [.ref at_] H (fun v _ => v = .bl true) E0 := by
    refine ⟨[.scr (zs.map .int)], [], [], rfl, .cons rp .nil, ⟨rfl, .nil, fun i o b h => by simp at h⟩, ?_⟩
    rw [res]
    intro H1 io1 v _ _ p
    cases p
    rfl
  refine codeAny_mono ((law _).run callerA [] t H ⟨[.ref at_], []⟩ [.ref at_] [.ref at_] _ _ room rfl env (bnd t _) (.cons rfl .nil) want) fun r s h => ?_
  cases r with
  | error e => exact False.elim h
  | ok fl =>
    cases fl <;> first | exact False.elim h | skip
    rename_i u
    obtain ⟨v, H2, os, bare, step, ok2, rv, q⟩ := h
    have q : v = .bl true := q
    subst q
    have hu : u = Value.bool true := rv
    subst hu
    refine ⟨rfl, OldK.of_keep fun b o e => ?_, os, bare⟩
    cases hb : H b with
    | none => exact step.keep b o e hb (fun z => nomatch z) (by simp)
    | some z =>
      obtain ⟨_, ob, l, rfl⟩ := frz b z hb
      have k1 := (ok b _ hb).1
      have k2 := (ok2 b _ (step.frzs b ob _ hb)).1
      rw [e] at k1
      cases k1
      exact k2
theorem end_call {S' : Sto} (inK : K.In t.heap) (nsM : t.heap.Ns mainGlobals mg) (nsB : t.heap.Ns builtinsNs mb) (bb : ∀ y : Str, y ≠ "__name__" → mb y = bootBuiltins y) (nl : t.heap.NoLimit) (g0 : t.gens = #[])
    (obj : t.heap.get? at_ = some { cls := .type "list", data := .seq us.toArray }) (isz : IntsAre us zs) (len : zs.length ≤ sizeLine) (room : Room d callerA)
    (law : ∀ base : Heap, FnG P w K mg base d fn fd [x] (spOf K 1 F)) (bnd : ∀ (s : Shared) (u : Value), BindsTo s fd ⟨[u], []⟩ [(x, u)])
    (res : F [.scr (zs.map .int)] [] = .ok (.bl true) S') :
    codeAny (model P w) callerA (.call (.ref fn) ⟨[.ref at_], []⟩) (fun r s => r = .ok (.ret (.bool true)) ∧ OldK t.heap s.heap ∧ s.os = t.os ∧ AllBare s.gens) t := by
  have vz := vals_ints isz
  cases hk : K.lookup at_ with
  | some o =>
    have e := (inK at_ o hk).symm.trans obj
    cases e
    refine end_core (H := fun _ => none) inK nsM nsB bb nl g0 obj room law bnd (fun b o h => nomatch h) (fun o h => nomatch h) (fun b o h => nomatch h) (.inr (.inr ⟨_, us.toArray, _, hk, rfl, rfl, rfl, ?_, ?_⟩)) res
    · rw [List.size_toArray, isz.length]; exact len
    · simpa using vz
  | none =>
    let ob : Obj := { cls := .type "list", data := .seq us.toArray }
    let H : Hp := fun b => if b = at_ then some (.frz ob (.lst (zs.map V.int))) else none
    have Hat : H at_ = some (.frz ob (.lst (zs.map V.int))) := if_pos rfl
    have Hne : ∀ b, b ≠ at_ → H b = none := fun b h => if_neg h
    refine end_core (H := H) inK nsM nsB bb nl g0 obj room law bnd (fun b o h => ?_) (fun _ _ => hk) (fun b o h => ?_) (.inl ⟨ob, Hat⟩) res
    · by_cases e : b = at_
      · subst e
        rw [Hat] at h
        cases h
        exact ⟨rfl, _, _, rfl⟩
      · rw [Hne b e] at h; cases h
    · by_cases e : b = at_
      · subst e
        rw [Hat] at h
        cases h
        exact ⟨obj, by rw [List.length_map]; exact len, us, _, vz, obj⟩
      · rw [Hne b e] at h; cases h
end
/-- a law: the facts of the table behind the top, the plain law of its run -/
theorem walk_tab {l : PySem.W.OpenLaw} {n dep fuel : Nat} {q : Program} {loose : List Str} {XP : (Str → Option Value) → Heap → Prop} {YP : World → Heap → Prop} {d : DefRec} {x : Str} {G : Str → Option Val} {T : List (Str × Fn)} {fn : Fn}
    (most : l.most = some n) (small : n ≤ sizeLine) (nodf : d.params.defaults = []) (room : Room (dep + 1) callerA) (lk : T.lookup d.name = some fn) (ps : fn.ps = [x])
    (facts : ∀ (w : World) (mg : Str → Option Value) (h : Heap), YP w h → h.Ns mainGlobals mg → ∃ K : PySem.W.Frag, K.In h ∧ Tab K mg G T)
    (plain : ∀ zs : List Int, zs.length ≤ n → ∃ S, run G T fuel (dep + 1) d.name [.scr (zs.map .int)] [] = .ok (.bl true) S) :
    PySem.W.WalkO q loose XP YP l.row.toRowW d [] (fun f vs => PySem.call f vs) := by
  refine Att.attach_call most nodf fun w s₀ t mg mb f o pm cd doc a us zs Gd Y _ _ _ hm obj isz len g0 => ?_
  obtain ⟨K, inK, tab⟩ := facts w mg _ Y Gd.T.g
  obtain ⟨a', fd, p, body, sc, F, hm', c⟩ := tab.defs _ fn lk
  have e := hm.symm.trans hm'
  cases e
  obtain ⟨S', res⟩ := plain zs len
  refine end_call (F := run G T fuel (dep + 1) d.name) (fd := fd) (x := x) (d := dep + 1) inK Gd.T.g Gd.T.b Gd.T.builtins Gd.T.nolimit g0 obj isz (Nat.le_trans len small) room (fun base => ?_) (fun s u => ?_) res
  · have main := tab_at (P := l.prog) (w := w) (base := base) (fuel := fuel) tab lk F c (tab_all tab dep)
    rw [ps] at main
    exact main
  · simp only [chF, Bool.and_eq_true] at c
    obtain ⟨nd, as, rfl, e⟩ := plainP_ok c.1.1
    rw [ps] at e
    have b := F.bindsA (ps := [x]) (fun _ _ _ _ _ _ us hl => by
      rw [← e] at hl ⊢
      exact bind_plain (by rw [e]; simp) hl) s [u] rfl
    exact b
end A46
end
section
namespace A46
open PySem PySem.Spec L2 PyProof.Rows
structure Dn where
  nm : Str
  fn : Fn
  st : Stmt
def Dn.dat (e : Dn) : He.DefD := ⟨(e.nm, none), e.nm, e.nm, defArgs e.st, defBody e.st, defScope e.st, [], []⟩
def tabL (L : List Dn) : List (Str × Fn) := L.map fun e => (e.nm, e.fn)
def datL (L : List Dn) : List He.DefD := L.map Dn.dat
def freeL : List Str := ["abs", "len", "int", "tuple", "list", "sum", "sorted", "all", "any", "max", "min", "repr", "dict", "range", "zip", "enumerate"]
def faL (L : List Dn) (M : List He.Fa) : List He.Fa := L.map (fun e => .glo e.nm) ++ freeL.map .free ++ M
def chL (L : List Dn) : Bool := L.all fun e => chF (tabL L) e.fn (defArgs e.st) (defBody e.st) (defScope e.st)
theorem lk_mem {α : Type} : ∀ {l : List (Str × α)} {k : Str} {v : α}, l.lookup k = some v → (k, v) ∈ l
  | [], _, _, h => by cases h
  | (a, b) :: l, k, v, h => by
    rw [List.lookup_cons] at h
    cases e : k == a with
    | true =>
      rw [e] at h
      have e := eq_of_beq e
      subst e
      cases h
      exact List.mem_cons_self
    | false =>
      rw [e] at h
      exact List.mem_cons_of_mem _ (lk_mem h)
theorem bi_mem (b : Bi) : biN b ∈ freeL := by cases b <;> decide
theorem tab_of {L : List Dn} {M : List He.Fa} {K : PySem.W.Frag} {h : Heap} {mg : Str → Option Value} {G : Str → Option Val} (X : K.In h) (N : h.Ns mainGlobals mg) (c : He.SaysD (faL L M) (datL L) K) (ok : chL L = true)
    (glo : ∀ x v, G x = some v → ∃ u y, mg x = some u ∧ RelV y u ∧ ∀ H io, Rep K H io v y) : Tab K mg G (tabL L) := by
  have fr : ∀ y ∈ freeL, mg y = none := fun y hy => by
    obtain ⟨i, hi⟩ := List.getElem?_of_mem (show He.Fa.free y ∈ faL L M from List.mem_append_left _ (List.mem_append_right _ (List.mem_map.mpr ⟨y, hy, rfl⟩)))
    exact He.free_ok X N (c.fact i hi)
  refine ⟨fun f fn hf => ?_, fun b => fr _ (bi_mem b), fr _ (by decide), fr _ (by decide), fr _ (by decide), glo⟩
  obtain ⟨e, he, h1⟩ := List.mem_map.mp (lk_mem hf)
  obtain ⟨rfl, rfl⟩ := Prod.mk.inj h1
  obtain ⟨i, hi⟩ := List.getElem?_of_mem (show e.dat ∈ datL L from List.mem_map.mpr ⟨e, he, rfl⟩)
  obtain ⟨j, hj⟩ := List.getElem?_of_mem (show He.Fa.glo e.nm ∈ faL L M from List.mem_append_left _ (List.mem_append_left _ (List.mem_map.mpr ⟨e, he, rfl⟩)))
  obtain ⟨fd, F⟩ := c.def_ i hi
  exact ⟨_, fd, _, _, _, F, He.glo_ok X N (c.fact j hj), List.all_eq_true.mp ok e he⟩
end A46
end
section
namespace A46
open PySem (Str PyData)
def Sat {α : Type} (m : Rs α) (Q : α → Sto → Prop) : Prop := match m with
  | .ok a S => Q a S
  | .no => False
theorem Sat.ok {α : Type} {a : α} {S : Sto} {Q : α → Sto → Prop} : Sat (.ok a S) Q ↔ Q a S := Iff.rfl
theorem sat_bind {α β : Type} {m : Rs α} {f : α → Sto → Rs β} {Q : β → Sto → Prop} : Sat (m.bind f) Q ↔ Sat m fun a S => Sat (f a S) Q := by cases m <;> rfl
theorem Sat.mono {α : Type} {m : Rs α} {P Q : α → Sto → Prop} (h : Sat m P) (k : ∀ a S, P a S → Q a S) : Sat m Q := by
  cases m with
  | no => exact h
  | ok a S => exact k a S h
theorem Sat.get {α : Type} {m : Rs α} {Q : α → Sto → Prop} (h : Sat m Q) : ∃ a S, m = .ok a S ∧ Q a S := by
  cases m with
  | no => exact h.elim
  | ok a S => exact ⟨a, S, rfl, h⟩
theorem sat_of {α : Type} {o : Option α} {a : α} {S : Sto} {Q : α → Sto → Prop} (h : o = some a) : Sat (Rs.of o S) Q ↔ Q a S := by subst h; rfl
theorem sat_ite {α : Type} {c : Prop} [Decidable c] {a b : Rs α} {Q : α → Sto → Prop} (h : c) : Sat (if c then a else b) Q ↔ Sat a Q := by rw [if_pos h]
/-- S' goes on from S, with changes at w alone -/
def Up (w : List Nat) (S S' : Sto) : Prop := S.length ≤ S'.length ∧ ∀ j, j < S.length → j ∉ w → S'[j]? = S[j]?
theorem Up.refl {w : List Nat} {S : Sto} : Up w S S := ⟨Nat.le_refl _, fun _ _ _ => rfl⟩
theorem Up.trans {w : List Nat} {S S' S'' : Sto} (h : Up w S S') (k : Up w S' S'') : Up w S S'' :=
  ⟨Nat.le_trans h.1 k.1, fun j hj hw => (k.2 j (Nat.lt_of_lt_of_le hj h.1) hw).trans (h.2 j hj hw)⟩
theorem Up.weak {w v : List Nat} {S S' : Sto} (h : Up w S S') (k : ∀ i ∈ w, i ∈ v) : Up v S S' := ⟨h.1, fun j hj hw => h.2 j hj fun z => hw (k j z)⟩
theorem Up.app {w : List Nat} {S : Sto} (J : Sto) : Up w S (S ++ J) := ⟨by simp, fun j hj _ => List.getElem?_append_left hj⟩
theorem Up.set {w : List Nat} {S : Sto} {b : Nat} {o : Ob} (h : b ∈ w) : Up w S (S.set b o) := ⟨by simp, fun j hj hw => by
  rw [List.getElem?_set_ne]
  exact fun e => hw (e ▸ h)⟩
theorem Up.at_ {w : List Nat} {S S' : Sto} {j : Nat} {o : Ob} (h : Up w S S') (hj : S[j]? = some o) (hw : j ∉ w) : S'[j]? = some o := by
  rw [h.2 j (List.getElem?_eq_some_iff.mp hj).1 hw]; exact hj
theorem Up.nil {w : List Nat} {S S' : Sto} (h : Up [] S S') : Up w S S' := h.weak fun _ z => nomatch z
theorem new_at {S : Sto} {o : Ob} : (S ++ [o])[S.length]? = some o := by simp
section
variable {src : Src} {xs : List Val}
theorem turns_map {step : Val → Sto → Rs (Option Val)} {Inv : Sto → Prop} (f : Val → Val) (hs : ∀ S k, Inv S → src.get S k = some xs[k]?)
    (h : ∀ x ∈ xs, ∀ S, Inv S → Sat (step x S) fun o S' => Inv S' ∧ o = some (f x)) : ∀ (n k : Nat) (S : Sto), Inv S → xs.length ≤ n + k → Sat (turns src step n k S) fun ys S' => Inv S' ∧ ys = (xs.drop k).map f
  | n, k, S, I, hn => by
    rw [turns, hs S k I]
    cases e : xs[k]? with
    | none =>
      have : xs.drop k = [] := List.drop_eq_nil_of_le (by simpa using e)
      exact ⟨I, by rw [this]; rfl⟩
    | some x =>
      obtain ⟨hk, hx⟩ := List.getElem?_eq_some_iff.mp e
      cases n with
      | zero => omega
      | succ n =>
        simp only [sat_bind]
        refine (h x (hx ▸ List.getElem_mem hk) S I).mono fun o S1 ⟨I1, ho⟩ => ?_
        refine (turns_map f hs h n (k + 1) S1 I1 (by omega)).mono fun ys S2 ⟨I2, hy⟩ => ?_
        subst ho hy
        refine ⟨I2, ?_⟩
        rw [List.drop_eq_getElem_cons hk, hx]
        rfl
theorem turns_all {step : Val → Sto → Rs (Option Val)} {Inv : Sto → Prop} {P : Val → Prop} (hs : ∀ S k, Inv S → src.get S k = some xs[k]?)
    (h : ∀ x ∈ xs, ∀ S, Inv S → Sat (step x S) fun o S' => Inv S' ∧ ∃ y, o = some y ∧ P y) : ∀ (n k : Nat) (S : Sto), Inv S → xs.length ≤ n + k → Sat (turns src step n k S) fun ys S' => Inv S' ∧ ys.length = xs.length - k ∧ ∀ y ∈ ys, P y
  | n, k, S, I, hn => by
    rw [turns, hs S k I]
    cases e : xs[k]? with
    | none =>
      have : xs.length ≤ k := by simpa using e
      refine ⟨I, ?_, fun y hy => nomatch hy⟩
      simp only [List.length_nil]
      omega
    | some x =>
      obtain ⟨hk, hx⟩ := List.getElem?_eq_some_iff.mp e
      cases n with
      | zero => omega
      | succ n =>
        simp only [sat_bind]
        refine (h x (hx ▸ List.getElem_mem hk) S I).mono fun o S1 ⟨I1, y, ho, py⟩ => ?_
        refine (turns_all hs h n (k + 1) S1 I1 (by omega)).mono fun ys S2 ⟨I2, hl, hy⟩ => ?_
        subst ho
        refine ⟨I2, ?_, fun z hz => ?_⟩
        · simp only [List.length_cons, hl]
          omega
        · rcases List.mem_cons.mp hz with rfl | hz
          · exact py
          · exact hy z hz
theorem loop_sat {step : Val → Ev → Sto → Rs (Fl × Ev)} {I : Nat → Ev → Sto → Prop} {Q : Fl × Ev → Sto → Prop} (hs : ∀ k r S, I k r S → src.get S k = some xs[k]?)
    (h : ∀ k x r S, xs[k]? = some x → I k r S → Sat (step x r S) fun q S' => match q.1 with
      | .nx => I (k + 1) q.2 S'
      | .rt v => Q (.rt v, q.2) S') (hend : ∀ r S, I xs.length r S → Q (.nx, r) S) : ∀ (n k : Nat) (r : Ev) (S : Sto), I k r S → k ≤ xs.length → xs.length ≤ n + k → Sat (loop src step n k r S) Q
  | n, k, r, S, i, hk, hn => by
    rw [loop, hs k r S i]
    cases e : xs[k]? with
    | none =>
      have : xs.length ≤ k := by simpa using e
      have : k = xs.length := by omega
      subst this
      exact hend r S i
    | some x =>
      obtain ⟨hk', hx⟩ := List.getElem?_eq_some_iff.mp e
      cases n with
      | zero => omega
      | succ n =>
        simp only [sat_bind]
        refine (h k x r S e i).mono fun q S1 hq => ?_
        obtain ⟨fl, r1⟩ := q
        cases fl with
        | rt v => exact hq
        | nx => exact loop_sat hs h hend n (k + 1) r1 S1 hq hk' (by omega)
end
theorem rng_get {lo : Int} {n : Nat} {S : Sto} {k : Nat} : (Src.rng lo n).get S k = some ((List.range n).map fun i : Nat => Val.int (lo + (i : Int)))[k]? := by
  rw [Src.get]
  by_cases h : k < n
  · rw [if_pos h]
    simp [h]
  · rw [if_neg h]
    simp [h]
theorem tup_get {xs : List Val} {S : Sto} {k : Nat} : (Src.tup xs).get S k = some xs[k]? := by rw [Src.get]
theorem lst_get {i : Nat} {xs : List Val} {S : Sto} {k : Nat} (h : S[i]? = some (.lst xs)) : (Src.lst i).get S k = some xs[k]? := by rw [Src.get, h]
def pairs : List Val → List Val → List Val
  | x :: xs, y :: ys => .tup [x, y] :: pairs xs ys
  | _, _ => []
theorem pairs_len : ∀ {xs ys : List Val}, (pairs xs ys).length = min xs.length ys.length
  | [], _ => by simp [pairs]
  | _ :: _, [] => by simp [pairs]
  | x :: xs, y :: ys => by
    simp only [pairs, List.length_cons, pairs_len (xs := xs) (ys := ys)]
    omega
theorem pairs_get : ∀ {xs ys : List Val} {k : Nat}, (pairs xs ys)[k]? = match xs[k]?, ys[k]? with
    | some x, some y => some (.tup [x, y])
    | _, _ => none
  | [], _, _ => by simp [pairs]
  | _ :: _, [], k => by
    simp only [pairs, List.getElem?_nil]
    split <;> simp_all
  | x :: xs, y :: ys, 0 => by simp [pairs]
  | x :: xs, y :: ys, k + 1 => by
    simp only [pairs, List.getElem?_cons_succ]
    exact pairs_get
theorem zips_get {a b : Src} {xs ys : List Val} {S : Sto} {k : Nat} (ha : a.get S k = some xs[k]?) (hb : b.get S k = some ys[k]?) : (Src.zip a b).get S k = some (pairs xs ys)[k]? := by
  rw [Src.get, ha, hb, pairs_get]
  cases xs[k]? <;> cases ys[k]? <;> rfl
theorem intsOf_map : ∀ ns : List Int, intsOf (ns.map .int) = some ns
  | [] => rfl
  | n :: ns => by rw [List.map_cons, intsOf, intsOf_map ns]; rfl
theorem textsOf_map : ∀ ns : List Str, textsOf (ns.map .str) = some ns
  | [] => rfl
  | n :: ns => by rw [List.map_cons, textsOf, textsOf_map ns]; rfl
theorem ints_of_all : ∀ {xs : List Val} {P : Int → Prop}, (∀ x ∈ xs, ∃ i, x = .int i ∧ P i) → ∃ ns : List Int, xs = ns.map .int ∧ ∀ n ∈ ns, P n
  | [], _, _ => ⟨[], rfl, fun _ h => nomatch h⟩
  | x :: xs, P, h => by
    obtain ⟨i, rfl, hi⟩ := h x List.mem_cons_self
    obtain ⟨ns, rfl, hn⟩ := ints_of_all fun y hy => h y (List.mem_cons_of_mem _ hy)
    refine ⟨i :: ns, rfl, fun n hm => ?_⟩
    rcases List.mem_cons.mp hm with rfl | hm
    · exact hi
    · exact hn n hm
end A46
end
section
namespace A46
open PySem (Str PyData)
section
variable {G : Str → Option Val} {T : List (Str × Fn)} {fuel d : Nat}
theorem run_eq {f : Str} {fn : Fn} (h : T.lookup f = some fn) {vs : List Val} {S : Sto} (hl : vs.length = fn.ps.length) {Q : Val → Sto → Prop} :
    Sat (run G T fuel (d + 1) f vs S) Q ↔ Sat (sms G (run G T fuel d) fuel fn.body (vs.map some ++ List.replicate (fn.nm.length - vs.length) none) S) fun q S1 => match q.1 with
      | .rt v => Q v S1
      | .nx => Q .non S1 := by
  rw [run, h]
  simp only
  unfold runFn
  rw [if_pos hl, sat_bind]
  constructor
  · exact fun h => h.mono fun q S1 z => by
      obtain ⟨fl, r⟩ := q
      cases fl <;> exact z
  · exact fun h => h.mono fun q S1 z => by
      obtain ⟨fl, r⟩ := q
      cases fl <;> exact z
end
def Bag (b c : Nat) (S : Sto) : Prop := b ≠ c ∧ ∃ (n s i : Int) (cells : List Int), S[b]? = some (.lst [.int n, .int s, .int i, .ref c]) ∧ S[c]? = some (.lst (cells.map .int)) ∧ 0 ≤ n ∧ 0 ≤ s ∧ 0 ≤ i ∧ ∀ x ∈ cells, 0 ≤ x
theorem Bag.up {b c : Nat} {S S' : Sto} (h : Bag b c S) (u : Up [] S S') : Bag b c S' := by
  obtain ⟨h0, n, s, i, cells, h1, h2, h3⟩ := h
  exact ⟨h0, n, s, i, cells, u.at_ h1 (fun z => nomatch z), u.at_ h2 (fun z => nomatch z), h3⟩
def takeFn : Fn :=
  ⟨["_law_bag_here", "_law_many"], ["_law_bag_here", "_law_many", "_law_begin", "_law_second", "_law_cell", "_law_mixed", "_law_value"], (.cons (.ite (.cmp .eq (.idx (.var 0) (.con (.int 0))) (.con (.int 0))) (.cons (.asg (.tg (.nm 4)) (.con (.int 0)))
    (.cons (.ite (.cmp .lt (.idx (.var 0) (.con (.int 2))) (.bi .len (.cons (.idx (.var 0) (.con (.int 3))) .nil))) (.cons (.asg (.tg (.nm 4)) (.idx (.idx (.var 0) (.con (.int 3))) (.idx (.var 0) (.con (.int 2))))) .nil) (.nil))
    (.cons (.aug (.var 0) (.con (.int 2)) .add (.con (.int 1)))
    (.cons (.ite (.cmp .ge (.var 4) (.con (.int 1000000000000000000))) (.cons (.asg (.sub (.var 0) (.con (.int 0))) (.var 4)) .nil) (.nil))
    (.cons (.asg (.tg (.nm 5)) (.bin .add (.bin .add (.bin .mul (.idx (.var 0) (.con (.int 1))) (.con (.int 48271))) (.bin .mod (.bi .int (.cons (.var 4) .nil)) (.con (.int 2147483647)))) (.bin .mul (.con (.int 7919)) (.idx (.var 0) (.con (.int 2))))))
    (.cons (.asg (.sub (.var 0) (.con (.int 1))) (.bin .mod (.bi .int (.cons (.var 5) .nil)) (.con (.int 2147483647)))) .nil)))))) (.nil))
  (.cons (.ite (.cmp .gt (.idx (.var 0) (.con (.int 0))) (.con (.int 0))) (.cons (.asg (.tg (.nm 6)) (.bin .mod (.bi .int (.cons (.idx (.var 0) (.con (.int 0))) .nil)) (.var 1)))
    (.cons (.asg (.sub (.var 0) (.con (.int 0))) (.bin .fdiv (.idx (.var 0) (.con (.int 0))) (.var 1)))
    (.cons (.ret (.var 6)) .nil))) (.nil))
  (.cons (.asg (.tg (.nm 2)) (.bin .mod (.bi .int (.cons (.bin .mul (.bin .add (.idx (.var 0) (.con (.int 1))) (.con (.int 1))) (.con (.int 39373))) .nil)) (.con (.int 1000000007))))
  (.cons (.asg (.tg (.nm 3)) (.bin .mod (.bi .int (.cons (.bin .mul (.bin .mod (.bi .int (.cons (.bin .mul (.var 2) (.var 2)) .nil)) (.con (.int 998244353))) (.con (.int 30011))) .nil)) (.con (.int 998244353))))
  (.cons (.ite (.cmp .gt (.var 1) (.con (.int 1000000))) (.cons (.ret (.bin .mod (.bi .int (.cons (.bin .add (.bin .mul (.var 3) (.con (.int 1000000007))) (.var 2)) .nil)) (.var 1))) .nil) (.nil))
  (.cons (.ret (.bin .mod (.bi .int (.cons (.bin .fdiv (.var 3) (.con (.int 7))) .nil)) (.var 1))) .nil))))))⟩
theorem eq_int {S : Sto} {i j : Int} : cmpop .eq (.int i) (.int j) S = .ok (.bl (i == j)) S := by
  have : PyData.eqv (.int i) (.int j) = (i == j) := rfl
  unfold cmpop eqDeep eqTree toD
  simp only
  rw [if_pos (by rfl), this]
  rfl
theorem mulC {i j : Int} (h : -(2 ^ 64) < j ∧ j < 2 ^ 64) : mulOk i j = true := by unfold mulOk; simp only [h, Bool.or_eq_true, decide_eq_true_eq]; exact .inl (.inr ⟨trivial, trivial⟩)
theorem mulD {i j : Int} (h : -(2 ^ 64) < i ∧ i < 2 ^ 64) : mulOk i j = true := by unfold mulOk; simp only [h, Bool.or_eq_true, decide_eq_true_eq]; exact .inl (.inl ⟨trivial, trivial⟩)
theorem pick4 {α : Type} {a b c e : α} : pick [a, b, c, e] 0 = some a ∧ pick [a, b, c, e] 1 = some b ∧ pick [a, b, c, e] 2 = some c ∧ pick [a, b, c, e] 3 = some e := ⟨rfl, rfl, rfl, rfl⟩
theorem pick_in {α : Type} {xs : List α} {i : Int} (h0 : 0 ≤ i) (h : i < xs.length) : ∃ x, pick xs i = some x ∧ xs[i.toNat]? = some x := by
  have hl : i.toNat < xs.length := by omega
  refine ⟨xs[i.toNat], ?_, List.getElem?_eq_getElem hl⟩
  unfold pick place
  rw [if_pos h0, if_pos h]
  exact List.getElem?_eq_getElem hl
theorem set_at {S : Sto} {b : Nat} {o o' : Ob} (h : S[b]? = some o) : (S.set b o')[b]? = some o' := by
  have := (List.getElem?_eq_some_iff.mp h).1
  simp [this]
theorem set_other {S : Sto} {b c : Nat} {o' : Ob} (h : b ≠ c) : (S.set b o')[c]? = S[c]? := List.getElem?_set_ne h
section
variable {G : Str → Option Val} {F : Fns} {fuel : Nat}
theorem idx_bag {S : Sto} {b : Nat} {l : List Val} {v : Val} {k : Int} (h : S[b]? = some (.lst l)) (hk : pick l k = some v) : index (.ref b) (.int k) S = .ok v S := by
  simp only [index, h, hk]; rfl
theorem sat_true {S : Sto} {c : Bool} {a b : Rs α} {Q : α → Sto → Prop} (h : c = true) : Sat (if c = true then a else b) Q ↔ Sat a Q := by rw [if_pos h]
theorem sat_false {S : Sto} {c : Bool} {a b : Rs α} {Q : α → Sto → Prop} (h : c = false) : Sat (if c = true then a else b) Q ↔ Sat b Q := by rw [if_neg (by rw [h]; exact Bool.false_ne_true)]
theorem seq_nx {s : Sm} {t : Sms} {r : Ev} {S : Sto} {P : Ev → Sto → Prop} {Q : Fl × Ev → Sto → Prop} (h : Sat (sm G F fuel s r S) fun q S1 => q.1 = .nx ∧ P q.2 S1) (k : ∀ r1 S1, P r1 S1 → Sat (sms G F fuel t r1 S1) Q) : Sat (sms G F fuel (.cons s t) r S) Q := by
  rw [sms, sat_bind]
  refine h.mono fun q S1 ⟨h1, h2⟩ => ?_
  obtain ⟨fl, r1⟩ := q
  cases h1
  exact k r1 S1 h2
theorem set_bag {S : Sto} {b : Nat} {l : List Val} {v : Val} {k : Int} {j : Nat} (h : S[b]? = some (.lst l)) (hk : place l.length k = some j) : setItem (.ref b) (.int k) v S = some (S.set b (.lst (l.set j v))) := by
  simp only [setItem, h, hk, Option.map_some]
theorem get_bag {S : Sto} {b : Nat} {l : List Val} {u : Val} {k : Int} (h : S[b]? = some (.lst l)) (h0 : 0 ≤ k) (hk : l[k.toNat]? = some u) : getL (.ref b) (.int k) S = some u := by
  simp only [getL, h, if_pos h0, hk]
theorem bin_add {S : Sto} {i j : Int} : binop .add (.int i) (.int j) S = .ok (.int (i + j)) S := rfl
theorem bin_sub {S : Sto} {i j : Int} : binop .sub (.int i) (.int j) S = .ok (.int (i - j)) S := rfl
theorem bin_mul {S : Sto} {i j : Int} (h : mulOk i j = true) : binop .mul (.int i) (.int j) S = .ok (.int (i * j)) S := by simp only [binop, h, if_true]
theorem bin_mod {S : Sto} {i j : Int} (h : j ≠ 0) : binop .mod (.int i) (.int j) S = .ok (.int (i.fmod j)) S := by simp only [binop, h, ne_eq, not_false_eq_true, decide_true, if_true]
theorem bin_fdiv {S : Sto} {i j : Int} (h : divOk j = true) : binop .fdiv (.int i) (.int j) S = .ok (.int (i.fdiv j)) S := by simp only [binop, h, if_true]
theorem bi_int {S : Sto} {i : Int} : bi .int [.int i] S = .ok (.int i) S := rfl
theorem cmp_lt {S : Sto} {i j : Int} : cmpop .lt (.int i) (.int j) S = .ok (.bl (decide (i < j))) S := rfl
theorem cmp_gt {S : Sto} {i j : Int} : cmpop .gt (.int i) (.int j) S = .ok (.bl (decide (j < i))) S := rfl
theorem cmp_ge {S : Sto} {i j : Int} : cmpop .ge (.int i) (.int j) S = .ok (.bl (decide (j ≤ i))) S := rfl
theorem cmp_le {S : Sto} {i j : Int} : cmpop .le (.int i) (.int j) S = .ok (.bl (decide (i ≤ j))) S := rfl
theorem tru_bl {S : Sto} {c : Bool} : truth S (.bl c) = some c := rfl
theorem len_ref {S : Sto} {b : Nat} {l : List Val} (h : S[b]? = some (.lst l)) : bi .len [.ref b] S = .ok (.int l.length) S := by simp only [bi, h]
theorem take_ok {T : List (Str × Fn)} {d : Nat} (hT : T.lookup ("_law_take" : Str) = some takeFn) {b c : Nat} {S : Sto} {m : Int} (B : Bag b c S) (h0 : 0 < m) (h1 : m.natAbs.log2 < 9000) :
    Sat (run G T fuel (d + 1) "_law_take" [.ref b, .int m] S) fun v S' => ∃ x, v = .int x ∧ 0 ≤ x ∧ x < m ∧ Bag b c S' ∧ Up [b] S S' := by
  have mem : b ∈ [b] := List.mem_cons_self
  have md : divOk m = true := by unfold divOk; simp only [Bool.and_eq_true, decide_eq_true_eq]; exact ⟨by omega, h1⟩
  rw [run_eq hT (by rfl)]
  unfold takeFn
  refine seq_nx (P := fun r1 S1 => Bag b c S1 ∧ Up [b] S S1 ∧ ∃ x y, r1 = [some (.ref b), some (.int m), none, none, x, y, none]) ?_ ?_
  · obtain ⟨hne, n, s, i, cells, hb, hc, hn, hs, hi, hcs⟩ := B
    by_cases e : n = 0
    · subst e
      have red : ∀ (c : Ex) (a b' : Sms) (r : Ev) (Q : Fl × Ev → Sto → Prop), Sat (ev G (run G T fuel d) c r S) (fun x S1 => x = .bl true ∧ S1 = S) → Sat (sms G (run G T fuel d) fuel a r S) Q → Sat (sm G (run G T fuel d) fuel (.ite c a b') r S) Q := fun c a b' r Q hc ha => by
        rw [sm, sat_bind]
        refine hc.mono fun x S1 ⟨e1, e2⟩ => ?_
        subst e1 e2
        exact ha
      refine red _ _ _ _ _ ?_ ?_
      · simp only [sms, sm, ev, evs, evc, evi, evo, store, sat_bind, Sat.ok, wipeE, srcOf, Tg.bind, bindAll, Rs.bind_ok, Rs.of_some, alloc, tst, List.map_cons, List.map_nil, List.length_cons, List.length_nil, List.replicate_succ, List.replicate_zero, List.cons_append, List.nil_append,
  Nat.add_sub_cancel, Nat.sub_self, Nat.zero_add, Nat.reduceAdd, Nat.reduceSub, List.set_cons_zero, List.set_cons_succ, List.getElem?_cons_zero, List.getElem?_cons_succ, List.append_nil, List.replicate, idx_bag hb pick4.1, eq_int]
        exact ⟨rfl, trivial⟩
      refine seq_nx (P := fun r1 S1 => S1 = S ∧ r1 = [some (.ref b), some (.int m), none, none, some (.int 0), none, none]) ?_ ?_
      · simp only [sms, sm, ev, evs, evc, evi, evo, store, sat_bind, Sat.ok, wipeE, srcOf, Tg.bind, bindAll, Rs.bind_ok, Rs.of_some, alloc, tst, List.map_cons, List.map_nil, List.length_cons, List.length_nil, List.replicate_succ, List.replicate_zero, List.cons_append, List.nil_append,
  Nat.add_sub_cancel, Nat.sub_self, Nat.zero_add, Nat.reduceAdd, Nat.reduceSub, List.set_cons_zero, List.set_cons_succ, List.getElem?_cons_zero, List.getElem?_cons_succ, List.append_nil, List.replicate]
        exact ⟨trivial, trivial, trivial⟩
      rintro r1 S1 ⟨rfl, rfl⟩
      refine seq_nx (P := fun r1 S2 => S2 = S1 ∧ ∃ v, 0 ≤ v ∧ r1 = [some (.ref b), some (.int m), none, none, some (.int v), none, none]) ?_ ?_
      · simp only [sms, sm, ev, evs, evc, evi, evo, store, sat_bind, Sat.ok, wipeE, srcOf, Tg.bind, bindAll, Rs.bind_ok, Rs.of_some, alloc, tst, List.map_cons, List.map_nil, List.length_cons, List.length_nil, List.replicate_succ, List.replicate_zero, List.cons_append, List.nil_append,
  Nat.add_sub_cancel, Nat.sub_self, Nat.zero_add, Nat.reduceAdd, Nat.reduceSub, List.set_cons_zero, List.set_cons_succ, List.getElem?_cons_zero, List.getElem?_cons_succ, List.append_nil, List.replicate, idx_bag hb pick4.2.2.1, idx_bag hb pick4.2.2.2, len_ref hc, cmp_lt, tru_bl, List.length_map]
        by_cases hl : i < (cells.length : Int)
        · obtain ⟨x, hx, hx'⟩ := pick_in (xs := cells.map Val.int) hi (by rw [List.length_map]; exact hl)
          rw [List.getElem?_map] at hx'
          cases hx2 : cells[i.toNat]? with
          | none => rw [hx2] at hx'; cases hx'
          | some v =>
            rw [hx2] at hx'
            cases hx'
            have hv := hcs v (List.mem_of_getElem? hx2)
            rw [decide_eq_true hl, if_pos rfl]
            simp only [sms, sm, ev, evs, evc, evi, evo, store, sat_bind, Sat.ok, wipeE, srcOf, Tg.bind, bindAll, Rs.bind_ok, Rs.of_some, alloc, tst, List.map_cons, List.map_nil, List.length_cons, List.length_nil, List.replicate_succ, List.replicate_zero, List.cons_append, List.nil_append,
  Nat.add_sub_cancel, Nat.sub_self, Nat.zero_add, Nat.reduceAdd, Nat.reduceSub, List.set_cons_zero, List.set_cons_succ, List.getElem?_cons_zero, List.getElem?_cons_succ, List.append_nil, List.replicate, idx_bag hb pick4.2.2.1, idx_bag hb pick4.2.2.2, idx_bag hc hx]
            exact ⟨trivial, trivial, v, hv, rfl⟩
        · rw [decide_eq_false hl, if_neg Bool.false_ne_true]
          exact ⟨rfl, rfl, 0, by decide, rfl⟩
      rintro r2 S2 ⟨rfl, v, hv, rfl⟩
      refine seq_nx (P := fun r1 S1 => S1 = S2.set b (.lst [.int 0, .int s, .int (i + 1), .ref c]) ∧ r1 = [some (.ref b), some (.int m), none, none, some (.int v), none, none]) ?_ ?_
      · simp only [sms, sm, ev, evs, evc, evi, evo, store, sat_bind, Sat.ok, wipeE, srcOf, Tg.bind, bindAll, Rs.bind_ok, Rs.of_some, alloc, tst, List.map_cons, List.map_nil, List.length_cons, List.length_nil, List.replicate_succ, List.replicate_zero, List.cons_append, List.nil_append,
  Nat.add_sub_cancel, Nat.sub_self, Nat.zero_add, Nat.reduceAdd, Nat.reduceSub, List.set_cons_zero, List.set_cons_succ, List.getElem?_cons_zero, List.getElem?_cons_succ, List.append_nil, List.replicate, get_bag hb (by decide : (0 : Int) ≤ 2) (by rfl : _ = some (Val.int i)), augI, set_bag hb (by rfl : place _ 2 = some 2)]
        exact ⟨trivial, trivial, trivial⟩
      rintro r1 S1 ⟨rfl, rfl⟩
      have hb1 : (S2.set b (.lst [.int 0, .int s, .int (i + 1), .ref c]))[b]? = some (.lst [.int 0, .int s, .int (i + 1), .ref c]) := set_at hb
      refine seq_nx (P := fun r1 S1 => ∃ n, 0 ≤ n ∧ S1 = S2.set b (.lst [.int n, .int s, .int (i + 1), .ref c]) ∧ r1 = [some (.ref b), some (.int m), none, none, some (.int v), none, none]) ?_ ?_
      · simp only [sms, sm, ev, evs, evc, evi, evo, store, sat_bind, Sat.ok, wipeE, srcOf, Tg.bind, bindAll, Rs.bind_ok, Rs.of_some, alloc, tst, List.map_cons, List.map_nil, List.length_cons, List.length_nil, List.replicate_succ, List.replicate_zero, List.cons_append, List.nil_append,
  Nat.add_sub_cancel, Nat.sub_self, Nat.zero_add, Nat.reduceAdd, Nat.reduceSub, List.set_cons_zero, List.set_cons_succ, List.getElem?_cons_zero, List.getElem?_cons_succ, List.append_nil, List.replicate, cmp_ge, tru_bl]
        by_cases hl : (1000000000000000000 : Int) ≤ v
        · rw [decide_eq_true hl, if_pos rfl]
          simp only [sms, sm, ev, evs, evc, evi, evo, store, sat_bind, Sat.ok, wipeE, srcOf, Tg.bind, bindAll, Rs.bind_ok, Rs.of_some, alloc, tst, List.map_cons, List.map_nil, List.length_cons, List.length_nil, List.replicate_succ, List.replicate_zero, List.cons_append, List.nil_append,
  Nat.add_sub_cancel, Nat.sub_self, Nat.zero_add, Nat.reduceAdd, Nat.reduceSub, List.set_cons_zero, List.set_cons_succ, List.getElem?_cons_zero, List.getElem?_cons_succ, List.append_nil, List.replicate, set_bag hb1 (by rfl : place _ 0 = some 0), List.set_set]
          exact ⟨trivial, v, hv, by trivial, by trivial⟩
        · rw [decide_eq_false hl, if_neg Bool.false_ne_true]
          exact ⟨rfl, 0, by decide, rfl, rfl⟩
      rintro r1 S1 ⟨n, hn, rfl, rfl⟩
      have hb2 : (S2.set b (.lst [.int n, .int s, .int (i + 1), .ref c]))[b]? = some (.lst [.int n, .int s, .int (i + 1), .ref c]) := set_at hb
      refine seq_nx (P := fun r1 S1 => ∃ w, S1 = S2.set b (.lst [.int n, .int s, .int (i + 1), .ref c]) ∧ r1 = [some (.ref b), some (.int m), none, none, some (.int v), some (.int w), none]) ?_ ?_
      · simp only [sms, sm, ev, evs, evc, evi, evo, store, sat_bind, Sat.ok, wipeE, srcOf, Tg.bind, bindAll, Rs.bind_ok, Rs.of_some, alloc, tst, List.map_cons, List.map_nil, List.length_cons, List.length_nil, List.replicate_succ, List.replicate_zero, List.cons_append, List.nil_append,
  Nat.add_sub_cancel, Nat.sub_self, Nat.zero_add, Nat.reduceAdd, Nat.reduceSub, List.set_cons_zero, List.set_cons_succ, List.getElem?_cons_zero, List.getElem?_cons_succ, List.append_nil, List.replicate, idx_bag hb2 pick4.2.1, idx_bag hb2 pick4.2.2.1, bin_mul (mulC (i := s) (j := 48271) (by decide)), bin_mul (mulD (i := 7919) (j := i + 1) (by decide)), bi_int, bin_mod (by decide : (2147483647 : Int) ≠ 0), bin_add]
        exact ⟨trivial, _, trivial, rfl⟩
      rintro r1 S1 ⟨w, rfl, rfl⟩
      simp only [sms, sm, ev, evs, evc, evi, evo, store, sat_bind, Sat.ok, wipeE, srcOf, Tg.bind, bindAll, Rs.bind_ok, Rs.of_some, alloc, tst, List.map_cons, List.map_nil, List.length_cons, List.length_nil, List.replicate_succ, List.replicate_zero, List.cons_append, List.nil_append,
  Nat.add_sub_cancel, Nat.sub_self, Nat.zero_add, Nat.reduceAdd, Nat.reduceSub, List.set_cons_zero, List.set_cons_succ, List.getElem?_cons_zero, List.getElem?_cons_succ, List.append_nil, List.replicate, bi_int, bin_mod (by decide : (2147483647 : Int) ≠ 0), set_bag hb2 (by rfl : place _ 1 = some 1), List.set_set]
      refine ⟨trivial, ⟨hne, n, _, i + 1, cells, set_at hb, ?_, hn, Int.fmod_nonneg_of_pos _ (by decide), by omega, hcs⟩, .set mem, _, _, rfl⟩
      rw [set_other hne]; exact hc
    · have e' : (n == 0) = false := by simpa using e
      simp only [sms, sm, ev, evs, evc, evi, evo, store, sat_bind, Sat.ok, wipeE, srcOf, Tg.bind, bindAll, Rs.bind_ok, Rs.of_some, alloc, tst, List.map_cons, List.map_nil, List.length_cons, List.length_nil, List.replicate_succ, List.replicate_zero, List.cons_append, List.nil_append,
  Nat.add_sub_cancel, Nat.sub_self, Nat.zero_add, Nat.reduceAdd, Nat.reduceSub, List.set_cons_zero, List.set_cons_succ, List.getElem?_cons_zero, List.getElem?_cons_succ, List.append_nil, List.replicate, idx_bag hb pick4.1, eq_int, truth, e', if_false, Bool.false_eq_true]
      exact ⟨trivial, ⟨hne, n, s, i, cells, hb, hc, hn, hs, hi, hcs⟩, .refl, _, _, rfl⟩
  · rintro r1 S1 ⟨B1, u1, x, y, rfl⟩
    have B2 := B1
    obtain ⟨hne, n, s, i, cells, hb, hc, hn, hs, hi, hcs⟩ := B1
    by_cases e : 0 < n
    · have hx0 : 0 ≤ n.fmod m := Int.fmod_nonneg_of_pos _ h0
      have hx1 : n.fmod m < m := Int.fmod_lt_of_pos _ h0
      have hq : 0 ≤ n.fdiv m := Int.fdiv_nonneg hn (by omega)
      simp only [sms, sm, ev, evs, evc, evi, evo, store, sat_bind, Sat.ok, wipeE, srcOf, Tg.bind, bindAll, Rs.bind_ok, Rs.of_some, alloc, tst, List.map_cons, List.map_nil, List.length_cons, List.length_nil, List.replicate_succ, List.replicate_zero, List.cons_append, List.nil_append,
  Nat.add_sub_cancel, Nat.sub_self, Nat.zero_add, Nat.reduceAdd, Nat.reduceSub, List.set_cons_zero, List.set_cons_succ, List.getElem?_cons_zero, List.getElem?_cons_succ, List.append_nil, List.replicate, idx_bag hb pick4.1, cmp_gt, tru_bl, e, decide_true, if_true, bi_int, bin_mod (show m ≠ 0 by omega), bin_fdiv md, set_bag hb (by rfl : place _ 0 = some 0)]
      refine ⟨_, rfl, hx0, hx1, ⟨hne, _, s, i, cells, set_at hb, ?_, hq, hs, hi, hcs⟩, u1.trans (.set mem)⟩
      rw [set_other hne]; exact hc
    · have q0 : ∀ z : Int, 0 ≤ z.fmod 1000000007 ∧ z.fmod 1000000007 < 1000000007 := fun z => ⟨Int.fmod_nonneg_of_pos _ (by decide), Int.fmod_lt_of_pos _ (by decide)⟩
      have q1 : ∀ z : Int, -(2 ^ 64) < z.fmod 1000000007 ∧ z.fmod 1000000007 < 2 ^ 64 := fun z => by
        have := q0 z
        omega
      simp only [sms, sm, ev, evs, evc, evi, evo, store, sat_bind, Sat.ok, wipeE, srcOf, Tg.bind, bindAll, Rs.bind_ok, Rs.of_some, alloc, tst, List.map_cons, List.map_nil, List.length_cons, List.length_nil, List.replicate_succ, List.replicate_zero, List.cons_append, List.nil_append,
  Nat.add_sub_cancel, Nat.sub_self, Nat.zero_add, Nat.reduceAdd, Nat.reduceSub, List.set_cons_zero, List.set_cons_succ, List.getElem?_cons_zero, List.getElem?_cons_succ, List.append_nil, List.replicate, idx_bag hb pick4.1, idx_bag hb pick4.2.1, cmp_gt, tru_bl, e, decide_false, if_false, Bool.false_eq_true, bi_int, bin_add, bin_mul (mulC (i := s + 1) (j := 39373) (by decide)), bin_mod (by decide : (1000000007 : Int) ≠ 0), bin_mul (mulD (q1 _)), bin_mod (by decide : (998244353 : Int) ≠ 0), bin_mul (mulC (j := 30011) (by decide)),
        bin_mul (mulC (j := 1000000007) (by decide)), bin_mod (show m ≠ 0 by omega), bin_fdiv (show divOk 7 = true by decide)]
      by_cases hl : (1000000 : Int) < m
      · rw [decide_eq_true hl, if_pos rfl]
        exact ⟨_, rfl, Int.fmod_nonneg_of_pos _ h0, Int.fmod_lt_of_pos _ h0, B2, u1⟩
      · rw [decide_eq_false hl, if_neg Bool.false_ne_true]
        simp only [sms, sm, ev, evs, evc, evi, evo, store, sat_bind, Sat.ok, wipeE, srcOf, Tg.bind, bindAll, Rs.bind_ok, Rs.of_some, alloc, tst, List.map_cons, List.map_nil, List.length_cons, List.length_nil, List.replicate_succ, List.replicate_zero, List.cons_append, List.nil_append,
  Nat.add_sub_cancel, Nat.sub_self, Nat.zero_add, Nat.reduceAdd, Nat.reduceSub, List.set_cons_zero, List.set_cons_succ, List.getElem?_cons_zero, List.getElem?_cons_succ, List.append_nil, List.replicate, bi_int, bin_mod (show m ≠ 0 by omega), bin_fdiv (show divOk 7 = true by decide)]
        exact ⟨_, rfl, Int.fmod_nonneg_of_pos _ h0, Int.fmod_lt_of_pos _ h0, B2, u1⟩
end
end A46
end
section
namespace A46
open PySem (Str PyData)
inductive Tr where
  | non | bl (b : Bool) | int (i : Int) | str (x : Str) | tup (xs : List Tr) | lst (xs : List Tr) | dct (kvs : List (KeyV × Tr)) | bag | ty (n : String)
  deriving Inhabited
structure Bg where
  n : Int
  s : Int
  i : Int
  cells : List Int
abbrev Ts (α : Type) := Option (α × Bg)
def tb {α β : Type} (m : Ts α) (f : α → Bg → Ts β) : Ts β := match m with
  | some (a, g) => f a g
  | none => none
def tof {α : Type} (o : Option α) (g : Bg) : Ts α := match o with
  | some a => some (a, g)
  | none => none
theorem tb_some {α β : Type} (a : α) (g : Bg) (f : α → Bg → Ts β) : tb (some (a, g)) f = f a g := rfl
theorem tb_none {α β : Type} (f : α → Bg → Ts β) : tb (none : Ts α) f = none := rfl
theorem tof_some {α : Type} (a : α) (g : Bg) : tof (some a) g = some (a, g) := rfl
theorem tof_none {α : Type} (g : Bg) : tof (none : Option α) g = none := rfl
theorem tb_eq {α β : Type} {m : Ts α} {f : α → Bg → Ts β} {z : β × Bg} (h : tb m f = some z) : ∃ a g, m = some (a, g) ∧ f a g = some z := by
  cases m with
  | none => cases h
  | some p => exact ⟨p.1, p.2, rfl, h⟩
theorem tof_eq {α : Type} {o : Option α} {g : Bg} {z : α × Bg} (h : tof o g = some z) : o = some z.1 ∧ z.2 = g := by
  cases o with
  | none => cases h
  | some a => cases h; exact ⟨rfl, rfl⟩
theorem tbof_eq {α β : Type} {o : Option α} {g : Bg} {f : α → Bg → Ts β} {z : β × Bg} (h : tb (tof o g) f = some z) : ∃ a, o = some a ∧ f a g = some z := by
  cases o with
  | none => cases h
  | some a => exact ⟨a, rfl, h⟩
mutual
def pyOf : Tr → Option PyData
  | .non => some .none
  | .bl b => some (.bool b)
  | .int i => some (.int i)
  | .str x => some (.str x)
  | .tup xs => (pyAll xs).map .tuple
  | .lst xs => (pyAll xs).map .list
  | .dct _ => none
  | .bag => none
  | .ty _ => none
def pyAll : List Tr → Option (List PyData)
  | [] => some []
  | x :: xs => match pyOf x with
    | none => none
    | some y => match pyAll xs with
      | none => none
      | some ys => some (y :: ys)
end
def fitD (d : PyData) : Bool := d.canLay0 && decide (d.depth ≤ 30)
def showD (d : PyData) : Bool := showOk d && decide (d.depth ≤ 30)
def tseq (v : Tr) : Option (List Tr) := match v with
  | .tup xs => some xs
  | .lst xs => some xs
  | _ => none
def tlst (v : Tr) : Option (List Tr) := match v with
  | .lst xs => some xs
  | _ => none
def ttruth (v : Tr) : Option Bool := match v with
  | .non => some false
  | .bl b => some b
  | .int i => some (i != 0)
  | .str x => if x.length ≤ lim then some (x.length != 0) else none
  | .tup xs => some (!xs.isEmpty)
  | .lst xs => some (!xs.isEmpty)
  | .dct kvs => some (!kvs.isEmpty)
  | _ => none
def repT (xs : List Tr) : Nat → List Tr
  | 0 => []
  | n + 1 => xs ++ repT xs n
def tbin (o : Bo) (x y : Tr) : Option Tr := match o, x, y with
  | .add, .int i, .int j => some (.int (i + j))
  | .add, .str a, .str b => if a.length + b.length ≤ lim then some (.str (a ++ b)) else none
  | .add, .tup xs, .tup ys => if xs.length + ys.length ≤ lim then some (.tup (xs ++ ys)) else none
  | .add, .lst xs, .lst ys => if xs.length + ys.length ≤ lim then some (.lst (xs ++ ys)) else none
  | .sub, .int i, .int j => some (.int (i - j))
  | .mul, .int i, .int j => if mulOk i j then some (.int (i * j)) else none
  | .mul, .lst xs, .int k => if decide (-(2 ^ 63) ≤ k) && decide (k < 2 ^ 63) && decide (xs.length * k.toNat ≤ lim) then some (.lst (repT xs k.toNat)) else none
  | .mul, .tup xs, .int k => if !xs.isEmpty && decide (-1000 ≤ k) && decide (k ≤ 1000) && decide (xs.length ≤ 1000) then some (.tup (repT xs k.toNat)) else none
  | .fdiv, .int i, .int j => if divOk j then some (.int (i.fdiv j)) else none
  | .mod, .int i, .int j => if decide (j ≠ 0) then some (.int (i.fmod j)) else none
  | .pow, .int i, .int j => if decide (0 ≤ j) && decide (j ≤ 1000000) && decide (i.natAbs < 2 ^ 64) then some (.int (i ^ j.toNat)) else none
  | _, _, _ => none
def tflat : Tr → Bool
  | .non => true
  | .bl _ => true
  | .int _ => true
  | .str _ => true
  | _ => false
def teqF : Tr → Tr → Bool
  | .non, .non => true
  | .bl a, .bl b => a == b
  | .bl a, .int b => (if a then 1 else 0) == b
  | .int a, .bl b => a == (if b then 1 else 0)
  | .int a, .int b => a == b
  | .str a, .str b => a == b
  | _, _ => false
def tmemF (x : Tr) (xs : List Tr) : Bool := xs.any fun y => teqF y x
def teqTree (x y : Tr) : Option Bool := match pyOf x, pyOf y with
  | some d, some e => if fitD d && fitD e then some (PyData.eqv d e) else none
  | _, _ => none
def teq (x y : Tr) : Option Bool := match x, y with
  | .str a, .str b => some (a == b)
  | x, y => teqTree x y
def tcmp (o : Co) (x y : Tr) : Option Tr := match o with
  | .eq => (teq x y).map .bl
  | .ne => (teq x y).map fun b => .bl (!b)
  | .lt => match x, y with
    | .int i, .int j => some (.bl (decide (i < j)))
    | .str a, .str b => some (.bl (strLt a b))
    | _, _ => none
  | .le => match x, y with
    | .int i, .int j => some (.bl (decide (i ≤ j)))
    | .str a, .str b => some (.bl (strLe a b))
    | _, _ => none
  | .gt => match x, y with
    | .int i, .int j => some (.bl (decide (j < i)))
    | _, _ => none
  | .ge => match x, y with
    | .int i, .int j => some (.bl (decide (j ≤ i)))
    | _, _ => none
  | .isN => match x with
    | .non => some (.bl true)
    | _ => some (.bl false)
  | .notN => match x with
    | .non => some (.bl false)
    | _ => some (.bl true)
  | .mem => match x, y with
    | .str a, .str b => some (.bl (inTxt a b))
    | x, y => match tseq y with
      | some ys => if tflat x && ys.all tflat then some (.bl (tmemF x ys)) else none
      | none => none
  | .nmem => match x, y with
    | .str a, .str b => some (.bl (!inTxt a b))
    | x, y => match tseq y with
      | some ys => if tflat x && ys.all tflat then some (.bl (!tmemF x ys)) else none
      | none => none
def tkey : Tr → Option KeyV
  | .int i => some (.inl i)
  | .str x => some (.inr x)
  | _ => none
def tlook (k : KeyV) : List (KeyV × Tr) → Option Tr
  | [] => none
  | (c, v) :: r => if c = k then some v else tlook k r
def tput (k : KeyV) (v : Tr) (kvs : List (KeyV × Tr)) : List (KeyV × Tr) :=
  if (kvs.any fun q => decide (q.1 = k)) = true then kvs.map (fun q => if q.1 = k then (q.1, v) else q) else kvs ++ [(k, v)]
def tindex (x y : Tr) : Option Tr := match x, y with
  | .tup xs, .int i => pick xs i
  | .lst xs, .int i => pick xs i
  | .str z, .int i => if z.length ≤ lim then (pick z.cps.toList i).map fun c => .str ⟨#[c]⟩ else none
  | .dct kvs, y => match tkey y with
    | some k => tlook k kvs
    | none => none
  | _, _ => none
def tslice (x : Tr) (lo hi : Option Int) : Option Tr := match x with
  | .tup xs => some (.tup (cut xs lo hi))
  | .str z => if z.length ≤ lim then some (.str ⟨(cut z.cps.toList lo hi).toArray⟩) else none
  | .lst xs => some (.lst (cut xs lo hi))
  | _ => none
def tints : List Tr → Option (List Int)
  | [] => some []
  | .int i :: r => (tints r).map (i :: ·)
  | _ :: _ => none
def ttexts : List Tr → Option (List Str)
  | [] => some []
  | .str i :: r => (ttexts r).map (i :: ·)
  | _ :: _ => none
def tbools : List Tr → Option (List Bool)
  | [] => some []
  | .bl i :: r => (tbools r).map (i :: ·)
  | _ :: _ => none
def tpair : Tr → Option (KeyV × Tr)
  | .tup [k, v] => (tkey k).map fun q => (q, v)
  | _ => none
def tsort (xs : List Tr) : Option (List Tr) := match tints xs with
  | some ns => some ((sortI ns).map .int)
  | none => match ttexts xs with
    | some ss => if ss.length < 64 then some ((sortS ss).map .str) else none
    | none => none
def tbi (b : Bi) (vs : List Tr) : Option Tr := match b, vs with
  | .abs, [.int i] => some (.int i.natAbs)
  | .len, [.str z] => if z.length ≤ lim then some (.int z.length) else none
  | .len, [.tup xs] => some (.int xs.length)
  | .len, [.lst xs] => some (.int xs.length)
  | .len, [.dct xs] => some (.int xs.length)
  | .int, [.int i] => some (.int i)
  | .int, [.bl b] => some (.int (if b then 1 else 0))
  | .tuple, [v] => (tseq v).map .tup
  | .list, [v] => (tseq v).map .lst
  | .sum, [v] => match tseq v with
    | some xs => (tints xs).map fun ns => .int ns.sum
    | none => none
  | .sorted, [v] => match tlst v with
    | some xs => (tsort xs).map .lst
    | none => none
  | .repr, [v] => match pyOf v with
    | some d => if showD d then some (.str d.shown) else none
    | none => none
  | .dict, [v] => match tlst v with
    | some xs => (optAll tpair xs).map fun kvs => .dct (kvs.foldl (fun acc q => tput q.1 q.2 acc) [])
    | none => none
  | .all, [v] => match tlst v with
    | some xs => (tbools xs).map fun bs => .bl (bs.all id)
    | none => none
  | .any, [v] => match tlst v with
    | some xs => (tbools xs).map fun bs => .bl (bs.any id)
    | none => none
  | .max, [v] => match tlst v with
    | some xs => match tints xs with
      | some (n :: ns) => some (.int (maxI n ns))
      | _ => none
    | none => none
  | .min, [v] => match tlst v with
    | some xs => match tints xs with
      | some (n :: ns) => some (.int (minI n ns))
      | _ => none
    | none => none
  | _, _ => none
/-- methods that change nothing -/
def tmeth (m : Me) (o : Tr) (vs : List Tr) : Option Tr := match m, o, vs with
  | .index, .lst xs, [v] => if tflat v && xs.all tflat then (xs.findIdx? fun y => teqF y v).map fun j => .int j else none
  | .count, .tup xs, [v] => if tflat v && xs.all tflat then some (.int (xs.filter fun y => teqF y v).length) else none
  | .split, .str a, [.str b] => if !(b.length == 0) && decide (a.length + 2 ≤ lim) then some (.lst ((PySem.Txt.split a b).map .str)) else none
  | _, _, _ => none
/-- methods that change a list -/
def tmut (m : Me) (xs : List Tr) (vs : List Tr) : Option (List Tr) := match m, vs with
  | .append, [v] => if xs.length < lim then some (xs ++ [v]) else none
  | .clear, [] => some []
  | .extend, [.lst ys] => if xs.length + ys.length ≤ lim then some (xs ++ ys) else none
  | .insert, [.int i, v] => if decide (xs.length < lim) && decide (0 ≤ i) && decide (i < 2 ^ 63) then some (xs.take i.toNat ++ [v] ++ xs.drop i.toNat) else none
  | _, _ => none
def trecv (m : Me) (v : Tr) : Bool := match m, v with
  | .count, .tup _ => true
  | .split, .str _ => true
  | .index, .lst _ => true
  | _, _ => false
def trange (lo : Int) (n : Nat) : List Tr := (List.range n).map fun i : Nat => .int (lo + (i : Int))
def tpairs : List Tr → List Tr → List Tr
  | x :: xs, y :: ys => .tup [x, y] :: tpairs xs ys
  | _, _ => []
def tenum : Nat → List Tr → List Tr
  | _, [] => []
  | k, x :: xs => .tup [.int k, x] :: tenum (k + 1) xs
def tsrc (v : Tr) : Option (List Tr) := match v with
  | .tup xs => some xs
  | .lst xs => some xs
  | .str z => some (z.cps.toList.map fun c => .str ⟨#[c]⟩)
  | _ => none
def tzip (x y : Tr) : Option (List Tr) := match x, y with
  | .tup xs, .tup ys => some (tpairs xs ys)
  | .lst xs, .lst ys => some (tpairs xs ys)
  | _, _ => none
def trangeOf (vs : List Tr) : Option (List Tr) := match vs with
  | [.int j] => if decide (-(2 ^ 62) ≤ j) && decide (j < 2 ^ 62) then some (trange 0 j.toNat) else none
  | [.int i, .int j] => if decide (-(2 ^ 62) ≤ i) && decide (i < 2 ^ 62) && decide (-(2 ^ 62) ≤ j) && decide (j < 2 ^ 62) then some (trange i (j - i).toNat) else none
  | _ => none
abbrev TEv := List (Option Tr)
def tbindAll : List Nat → List Tr → TEv → Option TEv
  | [], [], r => some r
  | i :: is, v :: vs, r => tbindAll is vs (r.set i (some v))
  | _, _, _ => none
def Tg.tbind (t : Tg) (v : Tr) (r : TEv) : Option TEv := match t with
  | .nm i => some (r.set i (some v))
  | .tp ts => match v with
    | .tup xs => tbindAll ts xs r
    | _ => none
def twipe (r : TEv) : List Nat → TEv
  | [] => r
  | v :: vs => (twipe r vs).set v none
def tcon : Val → Option Tr
  | .non => some .non
  | .bl b => some (.bl b)
  | .int i => some (.int i)
  | .str x => some (.str x)
  | _ => none
abbrev TF := Str → List Tr → Bg → Ts Tr
inductive TFl where
  | nx | rt (v : Tr)
def tturns (step : Tr → Bg → Ts (Option Tr)) : List Tr → Bg → Ts (List Tr)
  | [], g => some ([], g)
  | x :: xs, g => tb (step x g) fun o g1 => tb (tturns step xs g1) fun r g2 => some (match o with
    | some v => v :: r
    | none => r, g2)
def tloop (step : Tr → TEv → Bg → Ts (TFl × TEv)) : List Tr → TEv → Bg → Ts (TFl × TEv)
  | [], r, g => some ((.nx, r), g)
  | x :: xs, r, g => tb (step x r g) fun q g1 => match q.1 with
    | .rt v => some ((.rt v, q.2), g1)
    | .nx => tloop step xs q.2 g1
def twhile (c : TEv → Bg → Ts Bool) (step : TEv → Bg → Ts (TFl × TEv)) : Nat → TEv → Bg → Ts (TFl × TEv)
  | 0, _, _ => none
  | n + 1, r, g => tb (c r g) fun b g1 => if b then tb (step r g1) fun q g2 => (match q.1 with
      | .rt v => some ((.rt v, q.2), g2)
      | .nx => twhile c step n q.2 g2) else some ((.nx, r), g1)
def taugI (b : Bo) (u w : Tr) : Option Tr := match b, u, w with
  | .add, .int i, .int j => some (.int (i + j))
  | .sub, .int i, .int j => some (.int (i - j))
  | _, _, _ => none
def mutM : Me → Bool
  | .append => true
  | .clear => true
  | .extend => true
  | .insert => true
  | _ => false
/-- a call that changes a list by its name -/
def mutE : Ex → Option (Me × Nat × Exs)
  | .me m (.var j) es => if mutM m then some (m, j, es) else none
  | _ => none
section
variable (G : Str → Option Tr) (F : TF)
mutual
def tev : Ex → TEv → Bg → Ts Tr
  | .var i, r, g => match r[i]? with
    | some (some v) => some (v, g)
    | _ => none
  | .con v, _, g => tof (tcon v) g
  | .glo x, _, g => tof (G x) g
  | .bin o a b, r, g => tb (tev a r g) fun x g1 => tb (tev b r g1) fun y g2 => tof (tbin o x y) g2
  | .neg a, r, g => tb (tev a r g) fun x g1 => match x with
    | .int i => some (.int (-i), g1)
    | _ => none
  | .nt a, r, g => tb (tev a r g) fun x g1 => tb (tof (ttruth x) g1) fun b g2 => some (.bl (!b), g2)
  | .and a b, r, g => tb (tev a r g) fun x g1 => tb (tof (ttruth x) g1) fun c g2 => if c then tev b r g2 else some (x, g2)
  | .or a b, r, g => tb (tev a r g) fun x g1 => tb (tof (ttruth x) g1) fun c g2 => if c then some (x, g2) else tev b r g2
  | .cmp o a b, r, g => tb (tev a r g) fun x g1 => tb (tev b r g1) fun y g2 => tof (tcmp o x y) g2
  | .isn neg a, r, g => tb (tev a r g) fun x g1 => tof (tcmp (if neg then .notN else .isN) x .non) g1
  | .chain o p a b c, r, g => tb (tev a r g) fun x g1 => tb (tev b r g1) fun y g2 => tb (tof (tcmp o x y) g2) fun z g3 => (match z with
    | .bl true => tb (tev c r g3) fun w g4 => tof (tcmp p y w) g4
    | .bl false => some (.bl false, g3)
    | _ => none)
  | .ite c a b, r, g => tb (tev c r g) fun x g1 => tb (tof (ttruth x) g1) fun t g2 => if t then tev a r g2 else tev b r g2
  | .tup es, r, g => tb (tevs es r g) fun xs g1 => if xs.length ≤ lim then some (.tup xs, g1) else none
  | .lst es, r, g => tb (tevs es r g) fun xs g1 => if xs.length ≤ lim then some (.lst xs, g1) else none
  | .idx a i, r, g => tb (tev a r g) fun x g1 => tb (tev i r g1) fun y g2 => tof (tindex x y) g2
  | .sl a lo hi, r, g => tb (tev a r g) fun x g1 => tb (tevo lo r g1) fun l g2 => tb (tevo hi r g2) fun h g3 => tof (tslice x l h) g3
  | .call f es, r, g => tb (tevs es r g) fun xs g1 => F f xs g1
  | .bi b es, r, g => tb (tevs es r g) fun xs g1 => tof (tbi b xs) g1
  | .me m o es, r, g => tb (tev o r g) fun x g1 => if trecv m x then tb (tevs es r g1) fun xs g2 => tof (tmeth m x xs) g2 else none
  | .lc it t c e vs, r, g => tb (tevi it r g) fun xs g1 => tb (tturns (fun x g2 => match t.tbind x (twipe r vs) with
      | none => none
      | some r2 => tb (tevc c r2 g2) fun b g3 => if b then tb (tev e r2 g3) fun y g4 => some (some y, g4) else some (none, g3)) xs g1) fun ys g2 => if ys.length ≤ lim then some (.lst ys, g2) else none
def tevs : Exs → TEv → Bg → Ts (List Tr)
  | .nil, _, g => some ([], g)
  | .cons e es, r, g => tb (tev e r g) fun x g1 => tb (tevs es r g1) fun xs g2 => some (x :: xs, g2)
  | .star e es, r, g => tb (tev e r g) fun x g1 => match tseq x with
    | some ys => tb (tevs es r g1) fun xs g2 => some (ys ++ xs, g2)
    | none => none
def tevo : Exo → TEv → Bg → Ts (Option Int)
  | .none, _, g => some (none, g)
  | .some e, r, g => tb (tev e r g) fun x g1 => match x with
    | .int i => some (some i, g1)
    | _ => none
def tevc : Exo → TEv → Bg → Ts Bool
  | .none, _, g => some (true, g)
  | .some e, r, g => tb (tev e r g) fun x g1 => tof (ttruth x) g1
def tevi : Itr → TEv → Bg → Ts (List Tr)
  | .seq e, r, g => tb (tev e r g) fun x g1 => tof (tsrc x) g1
  | .range1 a, r, g => tb (tev a r g) fun x g1 => tof (trangeOf [x]) g1
  | .range2 a b, r, g => tb (tev a r g) fun x g1 => tb (tev b r g1) fun y g2 => tof (trangeOf [x, y]) g2
  | .zip a b, r, g => tb (tev a r g) fun x g1 => tb (tev b r g1) fun y g2 => tof (tzip x y) g2
  | .enum a, r, g => tb (tev a r g) fun x g1 => tof ((tlst x).map (tenum 0)) g1
end
def tstore : Ta → Tr → TEv → Bg → Ts TEv
  | .tg t, v, r, g => tof (t.tbind v r) g
  | .sub (.var j) i, v, r, g => tb (tev G F i r g) fun y g1 => match r[j]?, y with
    | some (some (.lst xs)), .int k => match place xs.length k with
      | some p => some (r.set j (some (.lst (xs.set p v))), g1)
      | none => none
    | _, _ => none
  | _, _, _, _ => none
variable (fuel : Nat)
mutual
def tsm : Sm → TEv → Bg → Ts (TFl × TEv)
  | .asg t e, r, g => tb (tev G F e r g) fun v g1 => tb (tstore G F t v r g1) fun r2 g2 => some ((.nx, r2), g2)
  | .aug _ _ _ _, _, _ => none
  | .augN i b e, r, g => match r[i]? with
    | some (some u) => tb (tev G F e r g) fun w g1 => (match taugI b u w with
      | some z => some ((.nx, r.set i (some z)), g1)
      | none => none)
    | _ => none
  | .ex e, r, g => match mutE e with
    | some (m, j, es) => (match r[j]? with
      | some (some (.lst xs)) => tb (tevs G F es r g) fun vs g1 => (match tmut m xs vs with
        | some ys => some ((.nx, r.set j (some (.lst ys))), g1)
        | none => none)
      | _ => none)
    | none => tb (tev G F e r g) fun _ g1 => some ((.nx, r), g1)
  | .ret e, r, g => tb (tev G F e r g) fun v g1 => some ((.rt v, r), g1)
  | .ite c a b, r, g => tb (tev G F c r g) fun x g1 => tb (tof (ttruth x) g1) fun t g2 => if t then tsms a r g2 else tsms b r g2
  | .for_ it t b, r, g => tb (tevi G F it r g) fun xs g1 => tloop (fun x r2 g2 => match t.tbind x r2 with
      | none => none
      | some r3 => tsms b r3 g2) xs r g1
  | .whl c b, r, g => twhile (fun r g => tb (tev G F c r g) fun x g1 => tof (ttruth x) g1) (fun r g => tsms b r g) fuel r g
  | .pass, r, g => some ((.nx, r), g)
def tsms : Sms → TEv → Bg → Ts (TFl × TEv)
  | .nil, r, g => some ((.nx, r), g)
  | .cons s t, r, g => tb (tsm s r g) fun q g1 => match q.1 with
    | .rt v => some ((.rt v, q.2), g1)
    | .nx => tsms t q.2 g1
end
end
mutual
def mutsS : Sm → List Nat
  | .asg (.sub (.var j) _) _ => [j]
  | .ex e => match mutE e with
    | some (_, j, _) => [j]
    | none => []
  | .ite _ a b => mutsSs a ++ mutsSs b
  | .for_ _ _ b => mutsSs b
  | .whl _ b => mutsSs b
  | _ => []
def mutsSs : Sms → List Nat
  | .nil => []
  | .cons s t => mutsS s ++ mutsSs t
end
section
variable (FR : List Str) (O : List Nat)
def inO (i : Nat) : Bool := O.any fun j => decide (j = i)
mutual
/-- 0: reaches no owned list; 1: may be an owned list itself; 2: may hold one -/
def lvE : Ex → Nat
  | .var i => if inO O i then 1 else 0
  | .bin _ a b => if lvE a ≤ 1 ∧ lvE b ≤ 1 then 0 else 2
  | .and a b => if lvE a = 0 ∧ lvE b = 0 then 0 else 2
  | .or a b => if lvE a = 0 ∧ lvE b = 0 then 0 else 2
  | .ite _ a b => if lvE a = 0 ∧ lvE b = 0 then 0 else 2
  | .tup es => if lvs es = 0 then 0 else 2
  | .lst es => if lvs es = 0 then 0 else 2
  | .idx a _ => if lvE a ≤ 1 then 0 else 2
  | .sl a _ _ => if lvE a ≤ 1 then 0 else 2
  | .call _ es => if lvs es = 0 then 0 else 2
  | .bi _ es => if lvs es ≤ 1 then 0 else 2
  | .lc _ _ _ e _ => if lvE e = 0 then 0 else 2
  | _ => 0
def lvs : Exs → Nat
  | .nil => 0
  | .cons e es => max (lvE e) (lvs es)
  | .star e es => max (if lvE e ≤ 1 then 0 else 2) (lvs es)
end
def lvI : Itr → Nat
  | .seq e => lvE O e
  | .range1 _ => 0
  | .range2 _ _ => 0
  | .zip a b => if lvE O a ≤ 1 ∧ lvE O b ≤ 1 then 0 else 2
  | .enum a => if lvE O a ≤ 1 then 0 else 2
/-- of what is walked by a for -/
def lvJ : Itr → Nat
  | .seq e => lvE O e
  | .range1 _ => 0
  | .range2 _ _ => 0
  | .zip a b => max (lvE O a) (lvE O b)
  | .enum a => lvE O a
def isL : Ex → Bool
  | .var j => inO O j
  | .lst _ => true
  | .lc _ _ _ _ _ => true
  | .bi b _ => decide (b = .list) || decide (b = .sorted)
  | .bin o a b => (decide (o = .add) && (isL a || isL b)) || (decide (o = .mul) && isL a)
  | .sl a _ _ => isL a
  | .call f _ => FR.contains f
  | .ite _ a b => isL a && isL b
  | _ => false
def frE : Ex → Bool
  | .lst _ => true
  | .lc _ _ _ _ _ => true
  | .bi b _ => decide (b = .list) || decide (b = .sorted)
  | .bin o a b => (decide (o = .add) && (isL FR O a || isL FR O b)) || (decide (o = .mul) && isL FR O a)
  | .sl a _ _ => isL FR O a
  | .call f _ => FR.contains f
  | .ite _ a b => frE a && frE b
  | _ => false
def Tg.free : Tg → Bool
  | .nm i => !inO O i
  | .tp ts => ts.all fun i => !inO O i
mutual
def okE : Ex → Bool
  | .var _ => true
  | .con _ => true
  | .glo _ => true
  | .bin _ a b => okE a && okE b
  | .neg a => okE a
  | .nt a => okE a
  | .and a b => okE a && okE b
  | .or a b => okE a && okE b
  | .cmp _ a b => okE a && okE b
  | .isn _ a => okE a
  | .chain _ _ a b c => okE a && okE b && okE c
  | .ite c a b => okE c && okE a && okE b
  | .tup es => oks es
  | .lst es => oks es
  | .idx a i => okE a && okE i
  | .sl a lo hi => okE a && okO lo && okO hi
  | .call _ es => oks es
  | .bi _ es => oks es
  | .me m o es => !mutM m && okE o && oks es
  | .lc it t c e vs => okI it && decide (lvI O it ≤ 1) && t.free O && (vs.all fun i => !inO O i) && okO c && okE e
def oks : Exs → Bool
  | .nil => true
  | .cons e es => okE e && oks es
  | .star e es => okE e && oks es
def okO : Exo → Bool
  | .none => true
  | .some e => okE e
def okI : Itr → Bool
  | .seq e => okE e
  | .range1 a => okE a
  | .range2 a b => okE a && okE b
  | .zip a b => okE a && okE b
  | .enum a => okE a
end
mutual
/-- a name that does not stand there -/
def noE (i : Nat) : Ex → Bool
  | .var j => !decide (j = i)
  | .con _ => true
  | .glo _ => true
  | .bin _ a b => noE i a && noE i b
  | .neg a => noE i a
  | .nt a => noE i a
  | .and a b => noE i a && noE i b
  | .or a b => noE i a && noE i b
  | .cmp _ a b => noE i a && noE i b
  | .isn _ a => noE i a
  | .chain _ _ a b c => noE i a && noE i b && noE i c
  | .ite c a b => noE i c && noE i a && noE i b
  | .tup es => nos i es
  | .lst es => nos i es
  | .idx a k => noE i a && noE i k
  | .sl a lo hi => noE i a && noO i lo && noO i hi
  | .call _ es => nos i es
  | .bi _ es => nos i es
  | .me _ o es => noE i o && nos i es
  | .lc it _ c e _ => noI i it && noO i c && noE i e
def nos (i : Nat) : Exs → Bool
  | .nil => true
  | .cons e es => noE i e && nos i es
  | .star e es => noE i e && nos i es
def noO (i : Nat) : Exo → Bool
  | .none => true
  | .some e => noE i e
def noI (i : Nat) : Itr → Bool
  | .seq e => noE i e
  | .range1 a => noE i a
  | .range2 a b => noE i a && noE i b
  | .zip a b => noE i a && noE i b
  | .enum a => noE i a
end
/-- names bound at once, owned ones to new lists -/
def okB : List Nat → Exs → Bool
  | [], .nil => true
  | i :: is, .cons e es => okE O e && decide (lvE O e = 0) && (!inO O i || frE FR O e) && nos i es && okB is es
  | _, _ => false
def isTup : Ex → Option Exs
  | .tup es => some es
  | _ => none
def isVar : Ex → Option Nat
  | .var j => some j
  | _ => none
mutual
def okS : Sm → Bool
  | .asg (.tg (.nm i)) e => okE O e && decide (lvE O e = 0) && (!inO O i || frE FR O e)
  | .asg (.tg (.tp is)) e => okE O e && (if is.all (fun i => !inO O i) then decide (lvE O e = 0) else match isTup e with
    | some es => okB FR O is es
    | none => false)
  | .asg (.sub o i) e => (match isVar o with
    | some j => inO O j && okE O i && okE O e && decide (lvE O e = 0)
    | none => false)
  | .aug _ _ _ _ => false
  | .augN i _ e => !inO O i && okE O e
  | .ex e => (match mutE e with
    | some (m, j, es) => inO O j && oks O es && (if m = .extend then decide (lvs O es ≤ 1) else decide (lvs O es = 0))
    | none => okE O e)
  | .ret e => okE O e
  | .ite c a b => okE O c && okSs a && okSs b
  | .for_ it t b => okI O it && decide (lvJ O it = 0) && t.free O && okSs b
  | .whl c b => okE O c && okSs b
  | .pass => true
def okSs : Sms → Bool
  | .nil => true
  | .cons s t => okS s && okSs t
end
mutual
/-- what is returned is a new list each time -/
def frS : Sm → Bool
  | .ret e => frE FR O e || (match isVar e with
    | some j => inO O j
    | none => false)
  | .ite _ a b => frSs a && frSs b
  | .for_ _ _ b => frSs b
  | .whl _ b => frSs b
  | _ => true
def frSs : Sms → Bool
  | .nil => true
  | .cons s t => frS s && frSs t
end
end
/-- each way through returns -/
def retS : Sm → Bool
  | .ret _ => true
  | .ite _ a b => retSs a && retSs b
  | _ => false
where retSs : Sms → Bool
  | .nil => false
  | .cons s t => retS s || retSs t
def ownF (fn : Fn) : List Nat := mutsSs fn.body
def okFn (FR : List Str) (f : Str) (fn : Fn) : Bool := okSs FR (ownF fn) fn.body && ((ownF fn).all fun j => decide (fn.ps.length ≤ j) && decide (j < fn.nm.length)) && (!FR.contains f || (frSs FR (ownF fn) fn.body && retS.retSs fn.body))
def Bg.fill (g : Bg) : Bg := if g.n = 0 then
    (let cell := if g.i < g.cells.length then g.cells.getD g.i.toNat 0 else 0
    ⟨if 1000000000000000000 ≤ cell then cell else 0, (g.s * 48271 + cell.fmod 2147483647 + 7919 * (g.i + 1)).fmod 2147483647, g.i + 1, g.cells⟩) else g
def Bg.take (g : Bg) (m : Int) : Int × Bg :=
  let h := g.fill
  if 0 < h.n then (h.n.fmod m, { h with n := h.n.fdiv m })
  else
    let b := ((h.s + 1) * 39373).fmod 1000000007
    let c := (((b * b).fmod 998244353) * 30011).fmod 998244353
    (if 1000000 < m then (c * 1000000007 + b).fmod m else (c.fdiv 7).fmod m, h)
def takeT (ts : List Tr) (g : Bg) : Ts Tr := match ts with
  | [.bag, .int m] => if 0 < m ∧ m.natAbs.log2 < 9000 then some (.int (g.take m).1, (g.take m).2) else none
  | _ => none
theorem take_spec (g : Bg) {m : Int} (h0 : 0 < m) (h1 : m.natAbs.log2 < 9000) : ∃ x g', takeT [.bag, .int m] g = some (.int x, g') ∧ 0 ≤ x ∧ x < m := by
  refine ⟨_, _, by simp only [takeT]; rw [if_pos ⟨h0, h1⟩], ?_⟩
  unfold Bg.take
  simp only
  split
  · exact ⟨Int.fmod_nonneg_of_pos _ h0, Int.fmod_lt_of_pos _ h0⟩
  · split <;> exact ⟨Int.fmod_nonneg_of_pos _ h0, Int.fmod_lt_of_pos _ h0⟩
def trunFn (G : Str → Option Tr) (F : TF) (fuel : Nat) (f : Fn) (vs : List Tr) (g : Bg) : Ts Tr := if vs.length = f.ps.length then
    tb (tsms G F fuel f.body (vs.map some ++ List.replicate (f.nm.length - vs.length) none) g) fun q g1 => match q.1 with
      | .rt v => some (v, g1)
      | .nx => some (.non, g1)
  else none
def trun (FR : List Str) (G : Str → Option Tr) (T : List (Str × Fn)) (fuel : Nat) : Nat → TF
  | 0, _, _, _ => none
  | d + 1, f, vs, g => if f = "_law_take" then takeT vs g else match T.lookup f with
    | some fn => if okFn FR f fn then trunFn G (trun FR G T fuel d) fuel fn vs g else none
    | none => none
end A46
end
section
namespace A46
open PySem (Str PyData)
section
variable (W : Nat → Prop) (β : Nat) (S : Sto)
mutual
inductive Den : Val → Tr → Prop
  | non : Den .non .non
  | bl (b : Bool) : Den (.bl b) (.bl b)
  | int (i : Int) : Den (.int i) (.int i)
  | str (x : Str) : Den (.str x) (.str x)
  | tup {xs : List Val} {ts : List Tr} : Dens xs ts → Den (.tup xs) (.tup ts)
  | lst {i : Nat} {xs : List Val} {ts : List Tr} : W i → S[i]? = some (.lst xs) → Dens xs ts → Den (.ref i) (.lst ts)
  | dct {i : Nat} {kvs : List (KeyV × Val)} {us : List (KeyV × Tr)} : W i → S[i]? = some (.dct kvs) → Denk kvs us → Den (.ref i) (.dct us)
  | bag : Den (.ref β) .bag
  | ty (n : String) : Den (.ty n) (.ty n)
inductive Dens : List Val → List Tr → Prop
  | nil : Dens [] []
  | cons {x : Val} {t : Tr} {xs : List Val} {ts : List Tr} : Den x t → Dens xs ts → Dens (x :: xs) (t :: ts)
inductive Denk : List (KeyV × Val) → List (KeyV × Tr) → Prop
  | nil : Denk [] []
  | cons {k : KeyV} {x : Val} {t : Tr} {xs : List (KeyV × Val)} {ts : List (KeyV × Tr)} : Den x t → Denk xs ts → Denk ((k, x) :: xs) ((k, t) :: ts)
end
/-- known by its items -/
inductive Els : Val → Tr → Prop
  | non : Els .non .non
  | bl (b : Bool) : Els (.bl b) (.bl b)
  | int (i : Int) : Els (.int i) (.int i)
  | str (x : Str) : Els (.str x) (.str x)
  | tup {xs : List Val} {ts : List Tr} : Dens W β S xs ts → Els (.tup xs) (.tup ts)
  | lst {i : Nat} {xs : List Val} {ts : List Tr} : i ≠ β → S[i]? = some (.lst xs) → Dens W β S xs ts → Els (.ref i) (.lst ts)
  | dct {i : Nat} {kvs : List (KeyV × Val)} {us : List (KeyV × Tr)} : i ≠ β → S[i]? = some (.dct kvs) → Denk W β S kvs us → Els (.ref i) (.dct us)
  | bag : Els (.ref β) .bag
  | ty (n : String) : Els (.ty n) (.ty n)
inductive Elss : List Val → List Tr → Prop
  | nil : Elss [] []
  | cons {x : Val} {t : Tr} {xs : List Val} {ts : List Tr} : Els W β S x t → Elss xs ts → Elss (x :: xs) (t :: ts)
end
section
variable {W W' : Nat → Prop} {β : Nat} {S S' : Sto}
mutual
theorem Den.mono (h : ∀ i, W i → i < S.length → W' i ∧ S'[i]? = S[i]?) : ∀ {v : Val} {t : Tr}, Den W β S v t → Den W' β S' v t
  | _, _, .non => .non
  | _, _, .bl b => .bl b
  | _, _, .int b => .int b
  | _, _, .str b => .str b
  | _, _, .tup q => .tup (Dens.mono h q)
  | _, _, .lst w e q => have z := h _ w (List.getElem?_eq_some_iff.mp e).1; .lst z.1 (z.2.trans e) (Dens.mono h q)
  | _, _, .dct w e q => have z := h _ w (List.getElem?_eq_some_iff.mp e).1; .dct z.1 (z.2.trans e) (Denk.mono h q)
  | _, _, .bag => .bag
  | _, _, .ty n => .ty n
theorem Dens.mono (h : ∀ i, W i → i < S.length → W' i ∧ S'[i]? = S[i]?) : ∀ {v : List Val} {t : List Tr}, Dens W β S v t → Dens W' β S' v t
  | _, _, .nil => .nil
  | _, _, .cons p q => .cons (Den.mono h p) (Dens.mono h q)
theorem Denk.mono (h : ∀ i, W i → i < S.length → W' i ∧ S'[i]? = S[i]?) : ∀ {v : List (KeyV × Val)} {t : List (KeyV × Tr)}, Denk W β S v t → Denk W' β S' v t
  | _, _, .nil => .nil
  | _, _, .cons p q => .cons (Den.mono h p) (Denk.mono h q)
end
theorem Den.els {v : Val} {t : Tr} (nb : ¬ W β) : Den W β S v t → Els W β S v t
  | .non => .non
  | .bl b => .bl b
  | .int b => .int b
  | .str b => .str b
  | .tup q => .tup q
  | .lst w e q => .lst (fun z => nb (z ▸ w)) e q
  | .dct w e q => .dct (fun z => nb (z ▸ w)) e q
  | .bag => .bag
  | .ty n => .ty n
theorem Dens.elss (nb : ¬ W β) : ∀ {v : List Val} {t : List Tr}, Dens W β S v t → Elss W β S v t
  | _, _, .nil => .nil
  | _, _, .cons p q => .cons (p.els nb) (q.elss nb)
theorem Els.mono (u : Up [β] S S') (nb : ¬ W β) {v : Val} {t : Tr} (e : Els W β S v t) : Els W β S' v t := by
  have h : ∀ i, W i → i < S.length → W i ∧ S'[i]? = S[i]? := fun i w l => ⟨w, u.2 i l fun z => nb (by rw [List.mem_singleton] at z; exact z ▸ w)⟩
  have g : ∀ {i : Nat} {o : Ob}, i ≠ β → S[i]? = some o → S'[i]? = some o := fun {i o} hi e => u.at_ e fun z => hi (List.mem_singleton.mp z)
  cases e with
  | non => exact .non
  | bl b => exact .bl b
  | int b => exact .int b
  | str b => exact .str b
  | tup q => exact .tup (q.mono h)
  | lst hi e q => exact .lst hi (g hi e) (q.mono h)
  | dct hi e q => exact .dct hi (g hi e) (q.mono h)
  | bag => exact .bag
  | ty n => exact .ty n
theorem Den.up (u : Up [β] S S') (nb : ¬ W β) {v : Val} {t : Tr} (e : Den W β S v t) : Den W β S' v t :=
  e.mono fun i w l => ⟨w, u.2 i l fun z => nb (by rw [List.mem_singleton] at z; exact z ▸ w)⟩
theorem Dens.up (u : Up [β] S S') (nb : ¬ W β) {v : List Val} {t : List Tr} (e : Dens W β S v t) : Dens W β S' v t :=
  e.mono fun i w l => ⟨w, u.2 i l fun z => nb (by rw [List.mem_singleton] at z; exact z ▸ w)⟩
theorem Elss.up (u : Up [β] S S') (nb : ¬ W β) : ∀ {v : List Val} {t : List Tr}, Elss W β S v t → Elss W β S' v t
  | _, _, .nil => .nil
  | _, _, .cons p q => .cons (p.mono u nb) (q.up u nb)
theorem Dens.len : ∀ {v : List Val} {t : List Tr}, Dens W β S v t → v.length = t.length
  | _, _, .nil => rfl
  | _, _, .cons _ q => by simp only [List.length_cons, q.len]
theorem Denk.len : ∀ {v : List (KeyV × Val)} {t : List (KeyV × Tr)}, Denk W β S v t → v.length = t.length
  | _, _, .nil => rfl
  | _, _, .cons _ q => by simp only [List.length_cons, q.len]
theorem Dens.app : ∀ {v w : List Val} {t u : List Tr}, Dens W β S v t → Dens W β S w u → Dens W β S (v ++ w) (t ++ u)
  | _, _, _, _, .nil, h => h
  | _, _, _, _, .cons p q, h => .cons p (q.app h)
theorem Dens.rep {v : List Val} {t : List Tr} (h : Dens W β S v t) : ∀ n, Dens W β S (repV v n) (repT t n)
  | 0 => .nil
  | n + 1 => h.app (h.rep n)
theorem Dens.get : ∀ {v : List Val} {t : List Tr} {i : Nat} {x : Tr}, Dens W β S v t → t[i]? = some x → ∃ y, v[i]? = some y ∧ Den W β S y x
  | _, _, 0, _, .cons p _, h => by simp at h; subst h; exact ⟨_, rfl, p⟩
  | _, _, i + 1, _, .cons _ q, h => by simpa using Dens.get (i := i) q (by simpa using h)
  | _, _, _, _, .nil, h => by simp at h
theorem Dens.drop : ∀ {xs : List Val} {vs : List Tr} (n : Nat), Dens W β S xs vs → Dens W β S (xs.drop n) (vs.drop n)
  | _, _, 0, q => q
  | _, _, _ + 1, .nil => .nil
  | _, _, n + 1, .cons _ q => Dens.drop n q
theorem Dens.take : ∀ {xs : List Val} {vs : List Tr} (n : Nat), Dens W β S xs vs → Dens W β S (xs.take n) (vs.take n)
  | _, _, 0, _ => .nil
  | _, _, _ + 1, .nil => .nil
  | _, _, n + 1, .cons p q => .cons p (Dens.take n q)
theorem Dens.set {v : Val} {x : Tr} (p : Den W β S v x) : ∀ {xs : List Val} {vs : List Tr} (i : Nat), Dens W β S xs vs → Dens W β S (xs.set i v) (vs.set i x)
  | _, _, _, .nil => .nil
  | _, _, 0, .cons _ q => .cons p q
  | _, _, i + 1, .cons r q => .cons r (Dens.set p i q)
theorem Dens.cut {xs : List Val} {ts : List Tr} (h : Dens W β S xs ts) (lo hi : Option Int) : Dens W β S (cut xs lo hi) (cut ts lo hi) := by
  unfold A46.cut
  rw [h.len]
  exact (h.drop _).take _
theorem Dens.pick {xs : List Val} {ts : List Tr} {i : Int} {t : Tr} (h : Dens W β S xs ts) (k : pick ts i = some t) : ∃ v, pick xs i = some v ∧ Den W β S v t := by
  unfold A46.pick at k ⊢
  rw [h.len]
  split at k
  · exact h.get k
  · cases k
theorem dens_ints : ∀ ns : List Int, Dens W β S (ns.map .int) (ns.map .int)
  | [] => .nil
  | n :: ns => .cons (.int n) (dens_ints ns)
theorem dens_strs : ∀ ns : List Str, Dens W β S (ns.map .str) (ns.map .str)
  | [] => .nil
  | n :: ns => .cons (.str n) (dens_strs ns)
theorem ints_of : ∀ {xs : List Val} {ts : List Tr} {ns : List Int}, Dens W β S xs ts → tints ts = some ns → intsOf xs = some ns
  | _, _, _, .nil, h => h
  | _, _, ns, .cons (t := t) (ts := ts) p q, h => by
    cases p <;> first | (exfalso; simp [tints] at h; done) | skip
    rw [tints] at h
    rw [intsOf]
    cases e : tints ts with
    | none => rw [e] at h; cases h
    | some l => rw [e] at h; rw [ints_of q e]; exact h
theorem texts_of : ∀ {xs : List Val} {ts : List Tr} {ns : List Str}, Dens W β S xs ts → ttexts ts = some ns → textsOf xs = some ns
  | _, _, _, .nil, h => h
  | _, _, ns, .cons (t := t) (ts := ts) p q, h => by
    cases p <;> first | (exfalso; simp [ttexts] at h; done) | skip
    rw [ttexts] at h
    rw [textsOf]
    cases e : ttexts ts with
    | none => rw [e] at h; cases h
    | some l => rw [e] at h; rw [texts_of q e]; exact h
theorem bools_of : ∀ {xs : List Val} {ts : List Tr} {ns : List Bool}, Dens W β S xs ts → tbools ts = some ns → boolsOf xs = some ns
  | _, _, _, .nil, h => h
  | _, _, ns, .cons (t := t) (ts := ts) p q, h => by
    cases p <;> first | (exfalso; simp [tbools] at h; done) | skip
    rw [tbools] at h
    rw [boolsOf]
    cases e : tbools ts with
    | none => rw [e] at h; cases h
    | some l => rw [e] at h; rw [bools_of q e]; exact h
theorem not_ints : ∀ {xs : List Val} {ts : List Tr}, Dens W β S xs ts → tints ts = none → intsOf xs = none
  | _, _, .nil, h => h
  | _, _, .cons (x := x) (t := t) (ts := ts) p q, h => by
    cases p <;> first | rfl | skip
    rw [tints] at h
    rw [intsOf]
    cases e : tints ts with
    | none => rw [not_ints q e]; rfl
    | some l => rw [e] at h; cases h
theorem flat_of {v : Val} {t : Tr} (p : Den W β S v t) : flat v = tflat t := by cases p <;> rfl
theorem flats_of : ∀ {xs : List Val} {ts : List Tr}, Dens W β S xs ts → xs.all flat = ts.all tflat
  | _, _, .nil => rfl
  | _, _, .cons p q => by rw [List.all_cons, List.all_cons, flat_of p, flats_of q]
theorem eqF_of {W' : Nat → Prop} {v w : Val} {t u : Tr} (p : Den W β S v t) (q : Den W' β S w u) : eqF v w = teqF t u := by cases p <;> cases q <;> rfl
theorem memF_of {W' : Nat → Prop} {v : Val} {t : Tr} (p : Den W β S v t) : ∀ {xs : List Val} {ts : List Tr}, Dens W' β S xs ts → memF v xs = tmemF t ts
  | _, _, .nil => rfl
  | _, _, .cons a q => by
    have ih := memF_of p q
    unfold memF tmemF at ih ⊢
    rw [List.any_cons, List.any_cons, eqF_of a p, ih]
theorem find_of {W' : Nat → Prop} {v : Val} {t : Tr} (p : Den W β S v t) : ∀ {xs : List Val} {ts : List Tr}, Dens W' β S xs ts → (xs.findIdx? fun y => eqF y v) = ts.findIdx? fun y => teqF y t
  | _, _, .nil => rfl
  | _, _, .cons a q => by
    rw [List.findIdx?_cons, List.findIdx?_cons, eqF_of a p, find_of p q]
theorem filt_of {W' : Nat → Prop} {v : Val} {t : Tr} (p : Den W β S v t) : ∀ {xs : List Val} {ts : List Tr}, Dens W' β S xs ts → (xs.filter fun y => eqF y v).length = (ts.filter fun y => teqF y t).length
  | _, _, .nil => rfl
  | _, _, .cons a q => by
    rw [List.filter_cons, List.filter_cons, eqF_of a p]
    split
    · rw [List.length_cons, List.length_cons, filt_of p q]
    · exact filt_of p q
theorem key_of {v : Val} {t : Tr} (p : Den W β S v t) {k : KeyV} (h : tkey t = some k) : keyOf v = some k := by cases p <;> first | exact h | (exfalso; cases h; done)
theorem key_ofE {v : Val} {t : Tr} (p : Els W β S v t) {k : KeyV} (h : tkey t = some k) : keyOf v = some k := by cases p <;> first | exact h | (exfalso; cases h; done)
theorem look_of {k : KeyV} : ∀ {xs : List (KeyV × Val)} {ts : List (KeyV × Tr)} {t : Tr}, Denk W β S xs ts → tlook k ts = some t → ∃ v, look k xs = some v ∧ Den W β S v t
  | _, _, _, .nil, h => by cases h
  | _, _, t, .cons (k := c) p q, h => by
    rw [tlook] at h
    rw [look]
    by_cases e : c = k
    · rw [if_pos e] at h ⊢
      cases h
      exact ⟨_, rfl, p⟩
    · rw [if_neg e] at h ⊢
      exact look_of q h
theorem any_key {k : KeyV} : ∀ {xs : List (KeyV × Val)} {ts : List (KeyV × Tr)}, Denk W β S xs ts → (xs.any fun q => decide (q.1 = k)) = ts.any fun q => decide (q.1 = k)
  | _, _, .nil => rfl
  | _, _, .cons p q => by rw [List.any_cons, List.any_cons, any_key q]
theorem Denk.app : ∀ {v w : List (KeyV × Val)} {t u : List (KeyV × Tr)}, Denk W β S v t → Denk W β S w u → Denk W β S (v ++ w) (t ++ u)
  | _, _, _, _, .nil, h => h
  | _, _, _, _, .cons p q, h => .cons p (q.app h)
theorem map_key {k : KeyV} {v : Val} {t : Tr} (a : Den W β S v t) : ∀ {xs : List (KeyV × Val)} {ts : List (KeyV × Tr)}, Denk W β S xs ts → Denk W β S (xs.map fun q => if q.1 = k then (q.1, v) else q) (ts.map fun q => if q.1 = k then (q.1, t) else q)
  | _, _, .nil => .nil
  | _, _, .cons (k := c) p q => by
    rw [List.map_cons, List.map_cons]
    by_cases e : c = k
    · rw [if_pos e, if_pos e]; exact .cons a (map_key a q)
    · rw [if_neg e, if_neg e]; exact .cons p (map_key a q)
theorem put_of {k : KeyV} {v : Val} {t : Tr} (a : Den W β S v t) {xs : List (KeyV × Val)} {ts : List (KeyV × Tr)} (h : Denk W β S xs ts) : Denk W β S (putD k v xs) (tput k t ts) := by
  unfold putD tput
  rw [any_key h]
  split
  · exact map_key a h
  · exact h.app (.cons a .nil)
theorem pair_of {v : Val} {t : Tr} (p : Den W β S v t) {k : KeyV} {u : Tr} (h : tpair t = some (k, u)) : ∃ w, pairOf v = some (k, w) ∧ Den W β S w u := by
  unfold tpair at h
  split at h
  · cases p with | tup q =>
    cases q with | cons a q => cases q with | cons b q => cases q with | nil =>
    cases e : tkey _ with
    | none => rw [e] at h; cases h
    | some z =>
      rw [e] at h
      cases h
      exact ⟨_, by simp only [pairOf, key_of a e]; rfl, b⟩
  · cases h
theorem tpairs_of : ∀ {xs : List Val} {ts : List Tr} {us : List (KeyV × Tr)}, Dens W β S xs ts → optAll tpair ts = some us → ∃ kvs, optAll pairOf xs = some kvs ∧ Denk W β S kvs us
  | _, _, _, .nil, h => by cases h; exact ⟨[], rfl, .nil⟩
  | _, _, us, .cons (t := t) (ts := ts) p q, h => by
    rw [optAll] at h
    cases e : tpair t with
    | none => rw [e] at h; cases h
    | some z =>
      rw [e] at h
      cases e2 : optAll tpair ts with
      | none => rw [e2] at h; cases h
      | some l =>
        rw [e2] at h
        cases h
        obtain ⟨w, h1, h2⟩ := pair_of p e
        obtain ⟨kvs, h3, h4⟩ := tpairs_of q e2
        exact ⟨_, by rw [optAll, h1, h3], .cons h2 h4⟩
theorem fold_put : ∀ {kvs : List (KeyV × Val)} {us : List (KeyV × Tr)} {acc : List (KeyV × Val)} {ac : List (KeyV × Tr)}, Denk W β S kvs us → Denk W β S acc ac →
    Denk W β S (kvs.foldl (fun acc q => putD q.1 q.2 acc) acc) (us.foldl (fun acc q => tput q.1 q.2 acc) ac)
  | _, _, _, _, .nil, h => h
  | _, _, _, _, .cons p q, h => by
    rw [List.foldl_cons, List.foldl_cons]
    exact fold_put q (put_of p h)
mutual
theorem toD_of : ∀ {n : Nat} {v : Val} {t : Tr} {d : PyData}, Den W β S v t → pyOf t = some d → d.depth < n → toD n S v = some d
  | 0, _, _, _, _, _, h => by omega
  | n + 1, _, _, d, .non, h, _ => by rw [pyOf] at h; cases h; rfl
  | n + 1, _, _, d, .bl _, h, _ => by rw [pyOf] at h; cases h; rfl
  | n + 1, _, _, d, .int _, h, _ => by rw [pyOf] at h; cases h; rfl
  | n + 1, _, _, d, .str _, h, _ => by rw [pyOf] at h; cases h; rfl
  | n + 1, _, _, d, .tup (ts := ts) q, h, l => by
    rw [pyOf] at h
    cases e : pyAll ts with
    | none => rw [e] at h; cases h
    | some ds =>
      rw [e] at h
      cases h
      rw [toD]
      rw [toDs_of q e (by rw [PyData.depth] at l; omega)]
      rfl
  | n + 1, _, _, d, .lst (ts := ts) w e0 q, h, l => by
    rw [pyOf] at h
    cases e : pyAll ts with
    | none => rw [e] at h; cases h
    | some ds =>
      rw [e] at h
      cases h
      rw [toD]
      simp only [e0]
      rw [toDs_of q e (by rw [PyData.depth] at l; omega)]
      rfl
  | n + 1, _, _, d, .dct _ _ _, h, _ => by rw [pyOf] at h; cases h
  | n + 1, _, _, d, .bag, h, _ => by rw [pyOf] at h; cases h
  | n + 1, _, _, d, .ty _, h, _ => by rw [pyOf] at h; cases h
theorem toDs_of : ∀ {n : Nat} {v : List Val} {t : List Tr} {d : List PyData}, Dens W β S v t → pyAll t = some d → PyData.depthAll d < n → optAll (toD n S) v = some d
  | n, _, _, d, .nil, h, _ => by rw [pyAll] at h; cases h; rfl
  | n, _, _, d, .cons (t := t) (ts := ts) p q, h, l => by
    rw [pyAll] at h
    cases e : pyOf t with
    | none => rw [e] at h; cases h
    | some a =>
      rw [e] at h
      cases e2 : pyAll ts with
      | none => rw [e2] at h; cases h
      | some as =>
        rw [e2] at h
        cases h
        rw [PyData.depthAll] at l
        rw [optAll, toD_of p e (by omega), toDs_of q e2 (by omega)]
end
theorem Sat.and {α : Type} {m : Rs α} {P Q : α → Sto → Prop} (h : Sat m P) (k : Sat m Q) : Sat m fun a S => P a S ∧ Q a S := by
  cases m with
  | no => exact h
  | ok a S => exact ⟨h, k⟩
theorem Up.mon {w : List Nat} {S : Sto} {o : Ob} : Up w S (S ++ [o]) := Up.app _
theorem talloc_ok (new : ∀ k, S.length ≤ k → W k) {xs : List Val} {ts : List Tr} (h : Dens W β S xs ts) : Sat (alloc (.lst xs) S) fun v S' => Up [] S S' ∧ Den W β S' v (.lst ts) ∧ v = .ref S.length := by
  refine ⟨.mon, .lst (new _ (Nat.le_refl _)) new_at (h.mono fun i w l => ⟨w, ?_⟩), rfl⟩
  rw [List.getElem?_append_left l]
theorem ttruth_of {v : Val} {t : Tr} {b : Bool} (p : Els W β S v t) (h : ttruth t = some b) : truth S v = some b := by
  cases p with
  | tup q => cases q <;> exact h
  | lst hi e q => rw [truth]; simp only [e]; cases q <;> exact h
  | dct hi e q => rw [truth]; simp only [e]; cases q <;> exact h
  | bag => cases h
  | ty n => cases h
  | non => exact h
  | bl b => exact h
  | int b => exact h
  | str b => exact h
theorem tbin_ok (new : ∀ k, S.length ≤ k → W k) {o : Bo} {x y : Val} {tx ty t : Tr} (hx : Els W β S x tx) (hy : Els W β S y ty) (h : tbin o tx ty = some t) :
    Sat (binop o x y S) fun v S' => Up [] S S' ∧ Den W β S' v t ∧ ∀ ts, t = .lst ts → v = .ref S.length := by
  unfold tbin at h
  split at h
  · cases hx; cases hy; cases h; exact ⟨.refl, .int _, fun _ e => nomatch e⟩
  · cases hx; cases hy
    split at h
    · cases h
      rename_i hl
      rw [binop, if_pos hl]
      exact ⟨.refl, .str _, fun _ e => nomatch e⟩
    · cases h
  · cases hx with | tup p => cases hy with | tup q =>
    split at h
    · cases h
      rename_i hl
      rw [binop, if_pos (by rw [p.len, q.len]; exact hl)]
      exact ⟨.refl, .tup (p.app q), fun _ e => nomatch e⟩
    · cases h
  · cases hx with | lst i1 e1 p => cases hy with | lst i2 e2 q =>
    split at h
    · cases h
      rename_i hl
      rw [binop, e1, e2]
      simp only
      rw [if_pos (by rw [p.len, q.len]; exact hl)]
      exact (talloc_ok new (p.app q)).mono fun v S' h => ⟨h.1, h.2.1, fun _ _ => h.2.2⟩
    · cases h
  · cases hx; cases hy; cases h; exact ⟨.refl, .int _, fun _ e => nomatch e⟩
  · cases hx; cases hy
    split at h
    · cases h
      rename_i hl
      rw [binop, if_pos hl]
      exact ⟨.refl, .int _, fun _ e => nomatch e⟩
    · cases h
  · cases hx with | lst i1 e1 p => cases hy with | int k =>
    split at h
    · cases h
      rename_i hl
      rw [binop, e1]
      simp only
      rw [if_pos (by rw [p.len]; exact hl)]
      exact (talloc_ok new (p.rep _)).mono fun v S' h => ⟨h.1, h.2.1, fun _ _ => h.2.2⟩
    · cases h
  · cases hx with | tup p => cases hy with | int k =>
    split at h
    · cases h
      rename_i hl
      rw [binop, if_pos (by
        rw [p.len]
        have : ∀ {xs : List Val} {ts : List Tr}, Dens W β S xs ts → xs.isEmpty = ts.isEmpty := fun q => by cases q <;> rfl
        rw [this p]; exact hl)]
      exact ⟨.refl, .tup (p.rep _), fun _ e => nomatch e⟩
    · cases h
  · cases hx; cases hy
    split at h
    · cases h
      rename_i hl
      rw [binop, if_pos hl]
      exact ⟨.refl, .int _, fun _ e => nomatch e⟩
    · cases h
  · cases hx; cases hy
    split at h
    · cases h
      rename_i hl
      rw [binop, if_pos hl]
      exact ⟨.refl, .int _, fun _ e => nomatch e⟩
    · cases h
  · cases hx; cases hy
    split at h
    · cases h
      rename_i hl
      rw [binop, if_pos hl]
      exact ⟨.refl, .int _, fun _ e => nomatch e⟩
    · cases h
  · cases h
theorem Els.den1 {v : Val} {t : Tr} (p : Els W β S v t) (hf : tflat t = true) : Den W β S v t := by
  cases p <;> first | exact Bool.noConfusion hf | constructor
theorem fit_of {d : PyData} (h : fitD d = true) : dataOk d = true ∧ d.depth < deepN := by
  simp only [fitD, Bool.and_eq_true, decide_eq_true_eq] at h
  refine ⟨?_, ?_⟩
  · simp only [dataOk, Bool.and_eq_true, decide_eq_true_eq]
    exact ⟨h.1, by omega⟩
  · unfold deepN; omega
theorem eqTree_ok {x y : Val} {tx ty : Tr} {b : Bool} (hx : Den W β S x tx) (hy : Den W β S y ty) (h : teqTree tx ty = some b) : eqTree S x y = some b := by
  unfold teqTree at h
  split at h
  · rename_i d e h1 h2
    split at h
    · rename_i hf
      cases h
      rw [Bool.and_eq_true] at hf
      obtain ⟨f1, f2⟩ := fit_of hf.1
      obtain ⟨f3, f4⟩ := fit_of hf.2
      unfold eqTree
      rw [toD_of hx h1 f2, toD_of hy h2 f4]
      simp only [f1, f3, Bool.and_self, if_true]
    · cases h
  · cases h
theorem eqDeep_ok {x y : Val} {tx ty : Tr} {b : Bool} (hx : Den W β S x tx) (hy : Den W β S y ty) (h : teq tx ty = some b) : eqDeep S x y = some b := by
  unfold teq at h
  split at h
  · cases hx; cases hy; exact h
  · rename_i hn
    have := eqTree_ok hx hy h
    unfold eqDeep
    split
    · cases hx; cases hy
      exact (hn _ _ rfl rfl).elim
    · exact this
theorem seq_of {v : Val} {t : Tr} {ts : List Tr} (p : Els W β S v t) (h : tseq t = some ts) : ∃ xs, seqOf S v = some xs ∧ Dens W β S xs ts := by
  cases p <;> first | (exfalso; cases h; done) | skip
  · cases h; exact ⟨_, rfl, by assumption⟩
  · rename_i e q
    cases h
    exact ⟨_, by rw [seqOf]; simp only [e], q⟩
theorem lst_of {v : Val} {t : Tr} {ts : List Tr} (p : Els W β S v t) (h : tlst t = some ts) : ∃ xs, lstOf S v = some xs ∧ Dens W β S xs ts := by
  cases p <;> first | (exfalso; cases h; done) | skip
  rename_i e q
  cases h
  exact ⟨_, by rw [lstOf]; simp only [e], q⟩
theorem tcmp_ok {o : Co} {x y : Val} {tx ty t : Tr} (nb : ¬ W β) (hx : Den W β S x tx) (hy : Den W β S y ty) (h : tcmp o tx ty = some t) : Sat (cmpop o x y S) fun v S' => S' = S ∧ ∃ b, v = .bl b ∧ t = .bl b := by
  unfold tcmp at h
  cases o with
  | eq =>
    simp only at h
    cases e : teq tx ty with
    | none => rw [e] at h; cases h
    | some b =>
      rw [e] at h; cases h
      unfold cmpop
      simp only [eqDeep_ok hx hy e]
      exact ⟨rfl, _, rfl, rfl⟩
  | ne =>
    simp only at h
    cases e : teq tx ty with
    | none => rw [e] at h; cases h
    | some b =>
      rw [e] at h; cases h
      unfold cmpop
      simp only [eqDeep_ok hx hy e]
      exact ⟨rfl, _, rfl, rfl⟩
  | lt =>
    simp only at h
    split at h <;> first | (cases hx; cases hy; cases h; exact ⟨rfl, _, rfl, rfl⟩) | cases h
  | le =>
    simp only at h
    split at h <;> first | (cases hx; cases hy; cases h; exact ⟨rfl, _, rfl, rfl⟩) | cases h
  | gt =>
    simp only at h
    split at h <;> first | (cases hx; cases hy; cases h; exact ⟨rfl, _, rfl, rfl⟩) | cases h
  | ge =>
    simp only at h
    split at h <;> first | (cases hx; cases hy; cases h; exact ⟨rfl, _, rfl, rfl⟩) | cases h
  | isN =>
    simp only at h
    cases hx <;> (cases h; exact ⟨rfl, _, rfl, rfl⟩)
  | notN =>
    simp only at h
    cases hx <;> (cases h; exact ⟨rfl, _, rfl, rfl⟩)
  | mem =>
    simp only at h
    split at h
    · cases hx; cases hy; cases h; exact ⟨rfl, _, rfl, rfl⟩
    · rename_i hn
      split at h
      · rename_i ys e
        obtain ⟨xs, s1, s2⟩ := seq_of (hy.els nb) e
        split at h
        · rename_i hf
          cases h
          unfold cmpop
          simp only
          split
          · cases hx; cases hy; exact (hn _ _ rfl rfl).elim
          · simp only [s1, flat_of hx, flats_of s2, hf, if_true]
            rw [memF_of hx s2]
            exact ⟨rfl, _, rfl, rfl⟩
        · cases h
      · cases h
  | nmem =>
    simp only at h
    split at h
    · cases hx; cases hy; cases h; exact ⟨rfl, _, rfl, rfl⟩
    · rename_i hn
      split at h
      · rename_i ys e
        obtain ⟨xs, s1, s2⟩ := seq_of (hy.els nb) e
        split at h
        · rename_i hf
          cases h
          unfold cmpop
          simp only
          split
          · cases hx; cases hy; exact (hn _ _ rfl rfl).elim
          · simp only [s1, flat_of hx, flats_of s2, hf, if_true]
            rw [memF_of hx s2]
            exact ⟨rfl, _, rfl, rfl⟩
        · cases h
      · cases h
theorem tindex_ok {x y : Val} {tx ty t : Tr} {W' : Nat → Prop} (hx : Els W β S x tx) (hy : Els W' β S y ty) (h : tindex tx ty = some t) : Sat (index x y S) fun v S' => S' = S ∧ Den W β S' v t := by
  unfold tindex at h
  split at h
  · cases hx with | tup p =>
    cases hy
    obtain ⟨v, h1, h2⟩ := p.pick h
    unfold index
    simp only [h1]
    exact ⟨rfl, h2⟩
  · cases hx with | lst hi e p =>
    cases hy
    obtain ⟨v, h1, h2⟩ := p.pick h
    unfold index
    simp only [e, h1]
    exact ⟨rfl, h2⟩
  · cases hx; cases hy
    split at h
    · rename_i hl
      unfold index
      simp only [if_pos hl]
      rename_i z i
      cases e : pick z.cps.toList i with
      | none => rw [e] at h; cases h
      | some c => rw [e] at h; cases h; exact ⟨rfl, .str _⟩
    · cases h
  · cases hx with | dct hi e p =>
    split at h
    · rename_i k hk
      obtain ⟨v, h1, h2⟩ := look_of p h
      have hk := key_ofE hy hk
      have hi2 : ∀ i kvs, S[i]? = some (.dct kvs) → look k kvs = some v → index (.ref i) y S = .ok v S := fun i kvs e h1 => by
        unfold index
        simp only [e, hk, h1]
        rfl
      rw [hi2 _ _ e h1]
      exact ⟨rfl, h2⟩
    · cases h
  · cases h
theorem tslice_ok (new : ∀ k, S.length ≤ k → W k) {x : Val} {tx t : Tr} {lo hi : Option Int} (hx : Els W β S x tx) (h : tslice tx lo hi = some t) :
    Sat (slice x lo hi S) fun v S' => Up [] S S' ∧ Den W β S' v t ∧ ∀ ts, t = .lst ts → v = .ref S.length := by
  unfold tslice at h
  split at h
  · cases hx with | tup p => cases h; exact ⟨.refl, .tup (p.cut lo hi), fun _ e => nomatch e⟩
  · cases hx
    split at h
    · rename_i hl
      cases h
      unfold slice
      simp only [if_pos hl]
      exact ⟨.refl, .str _, fun _ e => nomatch e⟩
    · cases h
  · cases hx with | lst i1 e p =>
    cases h
    unfold slice
    simp only [e]
    exact (talloc_ok new (p.cut lo hi)).mono fun v S' h => ⟨h.1, h.2.1, fun _ _ => h.2.2⟩
  · cases h
theorem Elss.one {vs : List Val} {t : Tr} (h : Elss W β S vs [t]) : ∃ v, vs = [v] ∧ Els W β S v t := by
  cases h with | cons p q => cases q; exact ⟨_, rfl, p⟩
theorem tsort_of {xs : List Val} {ts ys : List Tr} (p : Dens W β S xs ts) (h : tsort ts = some ys) : ∃ zs, sortV xs = some zs ∧ Dens W β S zs ys := by
  unfold tsort at h
  split at h
  · rename_i ns e
    cases h
    exact ⟨_, by unfold sortV; rw [ints_of p e], dens_ints _⟩
  · rename_i e
    split at h
    · rename_i ss e2
      split at h
      · rename_i hl
        cases h
        exact ⟨_, by unfold sortV; rw [not_ints p e, texts_of p e2]; simp only [if_pos hl], dens_strs _⟩
      · cases h
    · cases h
theorem tbi_ok (new : ∀ k, S.length ≤ k → W k) {b : Bi} {vs : List Val} {ts : List Tr} {t : Tr} (nb : ¬ W β) {W0 : Nat → Prop} (hv : Elss W β S vs ts) (hd : Dens W0 β S vs ts) (h : tbi b ts = some t) :
    Sat (bi b vs S) fun v S' => Up [] S S' ∧ Den W β S' v t ∧ ((b = .list ∨ b = .sorted) → v = .ref S.length ∧ ∃ us, t = .lst us) := by
  unfold tbi at h
  split at h
  · obtain ⟨v, rfl, p⟩ := hv.one
    cases p; cases h; exact ⟨.refl, .int _, fun e => by rcases e with e | e <;> cases e⟩
  · obtain ⟨v, rfl, p⟩ := hv.one
    cases p
    split at h
    · rename_i hl
      cases h
      rw [bi, if_pos hl]
      exact ⟨.refl, .int _, fun e => by rcases e with e | e <;> cases e⟩
    · cases h
  · obtain ⟨v, rfl, p⟩ := hv.one
    cases p with | tup p =>
    cases h
    rw [bi, ← p.len]
    exact ⟨.refl, .int _, fun e => by rcases e with e | e <;> cases e⟩
  · obtain ⟨v, rfl, p⟩ := hv.one
    cases p with | lst hi e p =>
    cases h
    rw [bi, e, ← p.len]
    exact ⟨.refl, .int _, fun e => by rcases e with e | e <;> cases e⟩
  · obtain ⟨v, rfl, p⟩ := hv.one
    cases p with | dct hi e p =>
    cases h
    rw [bi, e, ← p.len]
    exact ⟨.refl, .int _, fun e => by rcases e with e | e <;> cases e⟩
  · obtain ⟨v, rfl, p⟩ := hv.one
    cases p; cases h; exact ⟨.refl, .int _, fun e => by rcases e with e | e <;> cases e⟩
  · obtain ⟨v, rfl, p⟩ := hv.one
    cases p; cases h; exact ⟨.refl, .int _, fun e => by rcases e with e | e <;> cases e⟩
  · rename_i v0
    obtain ⟨v, rfl, p⟩ := hv.one
    cases e : tseq v0 with
    | none => rw [e] at h; cases h
    | some us =>
      rw [e] at h
      cases h
      obtain ⟨xs, s1, s2⟩ := seq_of p e
      unfold bi
      split <;> simp_all
      · cases s1; exact ⟨.refl, .tup s2⟩
      · exact ⟨.refl, .tup s2⟩
  · rename_i v0
    obtain ⟨v, rfl, p⟩ := hv.one
    cases e : tseq v0 with
    | none => rw [e] at h; cases h
    | some us =>
      rw [e] at h
      cases h
      obtain ⟨xs, s1, s2⟩ := seq_of p e
      unfold bi
      simp only [s1]
      exact (talloc_ok new s2).mono fun v S' h => ⟨h.1, h.2.1, fun _ => ⟨h.2.2, _, rfl⟩⟩
  · rename_i v0
    obtain ⟨v, rfl, p⟩ := hv.one
    split at h
    · rename_i xs0 e
      obtain ⟨xs, s1, s2⟩ := seq_of p e
      cases e2 : tints xs0 with
      | none => rw [e2] at h; cases h
      | some ns =>
        rw [e2] at h
        cases h
        unfold bi
        simp only [s1, ints_of s2 e2]
        exact ⟨.refl, .int _, fun e => by rcases e with e | e <;> cases e⟩
    · cases h
  · rename_i v0
    obtain ⟨v, rfl, p⟩ := hv.one
    split at h
    · rename_i xs0 e
      obtain ⟨xs, s1, s2⟩ := lst_of p e
      cases e2 : tsort xs0 with
      | none => rw [e2] at h; cases h
      | some ns =>
        rw [e2] at h
        cases h
        obtain ⟨zs, s3, s4⟩ := tsort_of s2 e2
        unfold bi
        simp only [s1, s3]
        exact (talloc_ok new s4).mono fun v S' h => ⟨h.1, h.2.1, fun _ => ⟨h.2.2, _, rfl⟩⟩
    · cases h
  · rename_i v0
    obtain ⟨v, rfl, p⟩ := hv.one
    cases hd with | cons p q =>
    split at h
    · rename_i d e
      split at h
      · rename_i hs
        cases h
        unfold showD at hs
        rw [Bool.and_eq_true, decide_eq_true_eq] at hs
        unfold bi
        simp only [toD_of p e (show d.depth < deepN by unfold deepN; omega), hs.1, if_true]
        exact ⟨.refl, .str _, fun e => by rcases e with e | e <;> cases e⟩
      · cases h
    · cases h
  · rename_i v0
    obtain ⟨v, rfl, p⟩ := hv.one
    split at h
    · rename_i xs0 e
      obtain ⟨xs, s1, s2⟩ := lst_of p e
      cases e2 : optAll tpair xs0 with
      | none => rw [e2] at h; cases h
      | some us =>
        rw [e2] at h
        cases h
        obtain ⟨kvs, s3, s4⟩ := tpairs_of s2 e2
        unfold bi
        simp only [s1, s3]
        refine ⟨.mon, .dct (new _ (Nat.le_refl _)) new_at ((fold_put s4 .nil).mono fun i w l => ⟨w, ?_⟩), fun e => by rcases e with e | e <;> cases e⟩
        rw [List.getElem?_append_left l]
    · cases h
  · rename_i v0
    obtain ⟨v, rfl, p⟩ := hv.one
    split at h
    · rename_i xs0 e
      obtain ⟨xs, s1, s2⟩ := lst_of p e
      cases e2 : tbools xs0 with
      | none => rw [e2] at h; cases h
      | some ns =>
        rw [e2] at h
        cases h
        unfold bi
        simp only [s1, bools_of s2 e2]
        exact ⟨.refl, .bl _, fun e => by rcases e with e | e <;> cases e⟩
    · cases h
  · rename_i v0
    obtain ⟨v, rfl, p⟩ := hv.one
    split at h
    · rename_i xs0 e
      obtain ⟨xs, s1, s2⟩ := lst_of p e
      cases e2 : tbools xs0 with
      | none => rw [e2] at h; cases h
      | some ns =>
        rw [e2] at h
        cases h
        unfold bi
        simp only [s1, bools_of s2 e2]
        exact ⟨.refl, .bl _, fun e => by rcases e with e | e <;> cases e⟩
    · cases h
  · rename_i v0
    obtain ⟨v, rfl, p⟩ := hv.one
    split at h
    · rename_i xs0 e
      obtain ⟨xs, s1, s2⟩ := lst_of p e
      split at h
      · rename_i n ns e2
        cases h
        unfold bi
        simp only [s1, ints_of s2 e2]
        exact ⟨.refl, .int _, fun e => by rcases e with e | e <;> cases e⟩
      · cases h
    · cases h
  · rename_i v0
    obtain ⟨v, rfl, p⟩ := hv.one
    split at h
    · rename_i xs0 e
      obtain ⟨xs, s1, s2⟩ := lst_of p e
      split at h
      · rename_i n ns e2
        cases h
        unfold bi
        simp only [s1, ints_of s2 e2]
        exact ⟨.refl, .int _, fun e => by rcases e with e | e <;> cases e⟩
      · cases h
    · cases h
  · cases h
theorem trecv_of {m : Me} {v : Val} {t : Tr} (p : Els W β S v t) (h : trecv m t = true) : recv m v S = true := by
  unfold trecv at h
  split at h
  · cases p; rfl
  · cases p; rfl
  · cases p with | lst hi e q => unfold recv; simp only [e]
  · cases h
theorem tmeth_ok (new : ∀ k, S.length ≤ k → W k) {W1 W2 : Nat → Prop} {m : Me} {o : Val} {to : Tr} {vs : List Val} {ts : List Tr} {t : Tr} (ho : Els W1 β S o to) (hv : Dens W2 β S vs ts) (h : tmeth m to ts = some t) :
    Sat (meth m o vs S) fun v S' => Up [] S S' ∧ Den W β S' v t := by
  unfold tmeth at h
  split at h
  · cases ho with | lst hi e p => cases hv with | cons a q =>
    cases q
    split at h
    · rename_i hf
      cases e2 : List.findIdx? _ _ with
      | none => rw [e2] at h; cases h
      | some j =>
        rw [e2] at h; cases h
        unfold meth
        simp only [e, flat_of a, flats_of p, hf, if_true, find_of a p, e2]
        exact ⟨.refl, .int _⟩
    · cases h
  · cases ho with | tup p => cases hv with | cons a q =>
    cases q
    split at h
    · rename_i hf
      cases h
      unfold meth
      simp only [flat_of a, flats_of p, hf, if_true, filt_of a p]
      exact ⟨.refl, .int _⟩
    · cases h
  · cases ho; cases hv with | cons a q =>
    cases a; cases q
    split at h
    · rename_i hl
      cases h
      unfold meth
      simp only [hl, if_true]
      exact (talloc_ok new (dens_strs _)).mono fun v S' h => ⟨h.1, h.2.1⟩
    · cases h
  · cases h
def Src.pins : Src → List Nat
  | .lst i => [i]
  | .zip a b => a.pins ++ b.pins
  | .enum a => a.pins
  | _ => []
/-- the source gives these, as long as its lists stay -/
def SrcAt (S : Sto) (src : Src) (xs : List Val) : Prop := (src.size S = xs.length ∧ ∀ i ∈ src.pins, i < S.length) ∧ ∀ S', (∀ i ∈ src.pins, S'[i]? = S[i]?) → ∀ k, src.get S' k = some xs[k]?
theorem dens_chars : ∀ cs : List Nat, Dens W β S (cs.map fun c => .str ⟨#[c]⟩) (cs.map fun c => .str ⟨#[c]⟩)
  | [] => .nil
  | _ :: cs => .cons (.str _) (dens_chars cs)
theorem tsrc_ok {v : Val} {t : Tr} {ts : List Tr} (p : Els W β S v t) (h : tsrc t = some ts) : ∃ src xs, srcOf S v = some src ∧ SrcAt S src xs ∧ Dens W β S xs ts ∧ (∀ i ∈ src.pins, v = .ref i ∧ i ≠ β) := by
  cases p <;> first | (exfalso; cases h; done) | skip
  · rename_i z
    cases h
    refine ⟨.str z, _, rfl, ⟨⟨?_, fun _ h => nomatch h⟩, fun S' _ k => ?_⟩, dens_chars _, fun _ h => nomatch h⟩
    · rw [Src.size, List.length_map]; rfl
    · rw [Src.get, List.getElem?_map]
  · rename_i xs ts q
    cases h
    exact ⟨.tup xs, xs, rfl, ⟨⟨rfl, fun _ h => nomatch h⟩, fun S' _ k => rfl⟩, q, fun _ h => nomatch h⟩
  · rename_i i xs ts hi e q
    cases h
    refine ⟨.lst i, xs, by rw [srcOf]; simp only [e], ⟨⟨by rw [Src.size]; simp only [e], fun j hj => by rw [List.mem_singleton.mp hj]; exact (List.getElem?_eq_some_iff.mp e).1⟩, fun S' hp k => ?_⟩, q, fun j hj => ?_⟩
    · rw [Src.get, hp i List.mem_cons_self, e]
    · rw [List.mem_singleton.mp hj]; exact ⟨rfl, hi⟩
theorem size_eq : ∀ {src : Src}, (∀ i ∈ src.pins, S'[i]? = S[i]?) → src.size S' = src.size S
  | .lst i, h => by rw [Src.size, Src.size, h i List.mem_cons_self]
  | .tup _, _ => rfl
  | .scr _, _ => rfl
  | .rng _ _, _ => rfl
  | .str _, _ => rfl
  | .zip a b, h => by
    rw [Src.size, Src.size, size_eq (src := a) fun i hi => h i (List.mem_append_left _ hi), size_eq (src := b) fun i hi => h i (List.mem_append_right _ hi)]
  | .enum a, h => by rw [Src.size, Src.size, size_eq (src := a) h]
theorem SrcAt.later {src : Src} {xs : List Val} (h : SrcAt S src xs) (hl : S.length ≤ S'.length) (k : ∀ i ∈ src.pins, S'[i]? = S[i]?) : SrcAt S' src xs :=
  ⟨⟨(size_eq k).trans h.1.1, fun i hi => Nat.lt_of_lt_of_le (h.1.2 i hi) hl⟩, fun S2 h2 j => h.2 S2 (fun i hi => (h2 i hi).trans (k i hi)) j⟩
theorem dens_range : ∀ {lo : Int} {n : Nat}, Dens W β S ((List.range n).map fun i : Nat => Val.int (lo + (i : Int))) (trange lo n) := fun {lo n} => by
  unfold trange
  generalize List.range n = l
  induction l with
  | nil => exact .nil
  | cons a l ih => exact .cons (.int _) ih
theorem trange_ok {vs : List Val} {ts us : List Tr} (p : Dens W β S vs ts) (h : trangeOf ts = some us) : ∃ src xs, rangeOf vs = some src ∧ SrcAt S src xs ∧ Dens W β S xs us ∧ src.pins = [] := by
  unfold trangeOf at h
  split at h
  · cases p with | cons a q =>
    cases a; cases q
    split at h
    · rename_i hl
      cases h
      refine ⟨_, _, by simp only [rangeOf]; rw [if_pos hl], ⟨⟨?_, fun i hi => by cases hi⟩, fun S' _ k => rng_get⟩, dens_range, rfl⟩
      simp [Src.size]
    · cases h
  · cases p with | cons a q => cases a; cases q with | cons b q =>
    cases b; cases q
    split at h
    · rename_i hl
      cases h
      refine ⟨_, _, by simp only [rangeOf]; rw [if_pos hl], ⟨⟨?_, fun i hi => by cases hi⟩, fun S' _ k => rng_get⟩, dens_range, rfl⟩
      simp [Src.size]
    · cases h
  · cases h
theorem dens_pairs : ∀ {xs ys : List Val} {ts us : List Tr}, Dens W β S xs ts → Dens W β S ys us → Dens W β S (pairs xs ys) (tpairs ts us)
  | _, _, _, _, .nil, h => by simp only [pairs, tpairs]; exact .nil
  | _, _, _, _, .cons p q, .nil => by simp only [pairs, tpairs]; exact .nil
  | _, _, _, _, .cons p q, .cons a b => by simp only [pairs, tpairs]; exact .cons (.tup (.cons p (.cons a .nil))) (dens_pairs q b)
theorem tzip_ok {x y : Val} {tx ty : Tr} {us : List Tr} (p : Els W β S x tx) (q : Els W β S y ty) (h : tzip tx ty = some us) :
    ∃ a b xs, srcOf S x = some a ∧ srcOf S y = some b ∧ zipOk a b = true ∧ SrcAt S (.zip a b) xs ∧ Dens W β S xs us ∧ ∀ i ∈ (Src.zip a b).pins, (x = .ref i ∨ y = .ref i) ∧ i ≠ β := by
  unfold tzip at h
  split at h
  · cases p with | tup p => cases q with | tup q =>
    cases h
    refine ⟨_, _, _, rfl, rfl, rfl, ⟨⟨?_, fun i hi => by cases hi⟩, fun S' _ k => zips_get tup_get tup_get⟩, dens_pairs p q, fun i hi => by cases hi⟩
    rw [pairs_len]; rfl
  · cases p with | lst h1 e1 p => cases q with | lst h2 e2 q =>
    cases h
    rename_i i xs j ys
    refine ⟨.lst i, .lst j, _, by rw [srcOf]; simp only [e1], by rw [srcOf]; simp only [e2], rfl, ⟨⟨?_, fun k hk => ?_⟩, fun S' hp k => zips_get (lst_get ?_) (lst_get ?_)⟩, dens_pairs p q, fun k hk => ?_⟩
    · rw [pairs_len, Src.size, Src.size, Src.size, e1, e2]
    · simp only [Src.pins, List.cons_append, List.nil_append, List.mem_cons, List.not_mem_nil, or_false] at hk
      rcases hk with rfl | rfl
      · exact (List.getElem?_eq_some_iff.mp e1).1
      · exact (List.getElem?_eq_some_iff.mp e2).1
    · rw [hp i (by simp [Src.pins])]; exact e1
    · rw [hp j (by simp [Src.pins])]; exact e2
    · simp only [Src.pins, List.cons_append, List.nil_append, List.mem_cons, List.not_mem_nil, or_false] at hk
      rcases hk with rfl | rfl
      · exact ⟨.inl rfl, h1⟩
      · exact ⟨.inr rfl, h2⟩
  · cases h
def enums : Nat → List Val → List Val
  | _, [] => []
  | k, x :: xs => .tup [.int k, x] :: enums (k + 1) xs
theorem enums_len : ∀ {k : Nat} {xs : List Val}, (enums k xs).length = xs.length
  | _, [] => rfl
  | k, x :: xs => by rw [enums, List.length_cons, List.length_cons, enums_len]
theorem enums_get : ∀ {k : Nat} {xs : List Val} {j : Nat}, (enums k xs)[j]? = xs[j]?.map fun x => .tup [.int (k + j : Nat), x]
  | _, [], _ => by simp [enums]
  | k, x :: xs, 0 => by simp [enums]
  | k, x :: xs, j + 1 => by
    rw [enums, List.getElem?_cons_succ, List.getElem?_cons_succ, enums_get]
    have : k + 1 + j = k + (j + 1) := by omega
    rw [this]
theorem dens_enums : ∀ {k : Nat} {xs : List Val} {ts : List Tr}, Dens W β S xs ts → Dens W β S (enums k xs) (tenum k ts)
  | _, _, _, .nil => .nil
  | _, _, _, .cons p q => .cons (.tup (.cons (.int _) (.cons p .nil))) (dens_enums q)
theorem tenum_ok {x : Val} {tx : Tr} {us : List Tr} (p : Els W β S x tx) (h : (tlst tx).map (tenum 0) = some us) :
    ∃ a xs, srcOf S x = some a ∧ enumOk a = true ∧ SrcAt S (.enum a) xs ∧ Dens W β S xs us ∧ ∀ i ∈ a.pins, x = .ref i ∧ i ≠ β := by
  cases p <;> first | (exfalso; cases h; done) | skip
  rename_i i xs ts hi e q
  cases h
  refine ⟨.lst i, enums 0 xs, by rw [srcOf]; simp only [e], rfl, ⟨⟨?_, fun j hj => ?_⟩, fun S' hp k => ?_⟩, dens_enums q, fun j hj => ?_⟩
  · rw [enums_len, Src.size, Src.size, e]
  · rw [List.mem_singleton.mp hj]; exact (List.getElem?_eq_some_iff.mp e).1
  · rw [Src.get, Src.get, hp i (by simp [Src.pins]), e, enums_get]
    simp only [Nat.zero_add]
    cases xs[k]? <;> rfl
  · rw [List.mem_singleton.mp hj]; exact ⟨rfl, hi⟩
end
end A46
end
section
namespace A46
open PySem (Str PyData)
section
variable (β c : Nat)
def BagR (g : Bg) (S : Sto) : Prop := S[β]? = some (.lst [.int g.n, .int g.s, .int g.i, .ref c]) ∧ S[c]? = some (.lst (g.cells.map .int)) ∧ 0 ≤ g.n ∧ 0 ≤ g.s ∧ 0 ≤ g.i ∧ ∀ x ∈ g.cells, 0 ≤ x
variable (FR : List Str)
/-- defs by trees and defs over the store -/
def FOk (F : Fns) (FT : TF) : Prop := ∀ f ts g t g', FT f ts g = some (t, g') → ∀ (W : Nat → Prop) vs S, ¬ W β → β < S.length → c < S.length → Dens W β S vs ts → BagR β c g S →
  Sat (F f vs S) fun v S' => Up [β] S S' ∧ BagR β c g' S' ∧ Den (fun k => W k ∨ S.length ≤ k) β S' v t ∧ (FR.contains f = true → (∃ k, v = .ref k ∧ S.length ≤ k) ∧ ∃ us, t = .lst us)
variable (O : List Nat) (W : Nat → Prop) (base : Nat)
def V0 (k : Nat) : Prop := W k ∨ base ≤ k
def VV (r : Ev) (k : Nat) : Prop := (W k ∨ base ≤ k) ∧ ∀ j, inO O j = true → r[j]? ≠ some (some (.ref k))
structure ER (S : Sto) (r : Ev) (ρ : TEv) : Prop where
  len : r.length = ρ.length
  bs : base ≤ S.length
  hβ : β < base
  hc : c < base
  nW : ¬ W β
  free : ∀ i t, inO O i = false → ρ[i]? = some (some t) → ∃ v, r[i]? = some (some v) ∧ Den (VV O W base r) β S v t
  own : ∀ j t, inO O j = true → ρ[j]? = some (some t) → ∃ k xs ts, r[j]? = some (some (.ref k)) ∧ base ≤ k ∧ S[k]? = some (.lst xs) ∧ t = .lst ts ∧ Dens (VV O W base r) β S xs ts
  own0 : ∀ j, inO O j = true → ρ[j]? = some none → r[j]? = some none
  inj : ∀ j j' k, inO O j = true → inO O j' = true → r[j]? = some (some (.ref k)) → r[j']? = some (some (.ref k)) → j = j'
end
section
variable {β c : Nat} {FR : List Str} {O : List Nat} {W : Nat → Prop} {base : Nat}
theorem BagR.up {g : Bg} {S S' : Sto} (h : BagR β c g S) (u : Up [] S S') : BagR β c g S' := ⟨u.at_ h.1 (fun z => nomatch z), u.at_ h.2.1 (fun z => nomatch z), h.2.2⟩
theorem vv_v0 {r : Ev} {k : Nat} (h : VV O W base r k) : V0 W base k := h.1
theorem vv_eq {r r' : Ev} (h : ∀ j, inO O j = true → r'[j]? = r[j]?) : VV O W base r' = VV O W base r := by
  funext k
  unfold VV
  apply propext
  constructor
  · exact fun ⟨a, b⟩ => ⟨a, fun j hj => by rw [← h j hj]; exact b j hj⟩
  · exact fun ⟨a, b⟩ => ⟨a, fun j hj => by rw [h j hj]; exact b j hj⟩
section
variable {S S' : Sto} {r : Ev} {ρ : TEv}
theorem ER.n0 (E : ER β c O W base S r ρ) : ¬ V0 W base β := fun h => by
  rcases h with h | h
  · exact E.nW h
  · have := E.hβ; omega
theorem ER.nV (E : ER β c O W base S r ρ) : ¬ VV O W base r β := fun h => E.n0 h.1
theorem ER.ownlt (E : ER β c O W base S r ρ) {j k : Nat} (hj : inO O j = true) (h : r[j]? = some (some (.ref k))) : base ≤ k ∧ k < S.length := by
  have hl : j < ρ.length := by rw [← E.len]; exact (List.getElem?_eq_some_iff.mp h).1
  cases e : ρ[j]? with
  | none => simp at e; omega
  | some o =>
    cases o with
    | none => rw [E.own0 j hj e] at h; cases h
    | some t =>
      obtain ⟨k', xs, ts, h1, h2, h3, _⟩ := E.own j t hj e
      rw [h1] at h
      cases h
      exact ⟨h2, (List.getElem?_eq_some_iff.mp h3).1⟩
theorem ER.new (E : ER β c O W base S r ρ) {k : Nat} (h : S.length ≤ k) : VV O W base r k := ⟨.inr (Nat.le_trans E.bs h), fun j hj e => by
  have := (E.ownlt hj e).2
  omega⟩
theorem ER.new0 (E : ER β c O W base S r ρ) {k : Nat} (h : S.length ≤ k) : V0 W base k := (E.new h).1
theorem ER.up (E : ER β c O W base S r ρ) (u : Up [β] S S') : ER β c O W base S' r ρ where
  len := E.len
  bs := Nat.le_trans E.bs u.1
  hβ := E.hβ
  hc := E.hc
  nW := E.nW
  free := fun i t hi h => let ⟨v, h1, h2⟩ := E.free i t hi h; ⟨v, h1, h2.up u E.nV⟩
  own := fun j t hj h => by
    obtain ⟨k, xs, ts, h1, h2, h3, h4, h5⟩ := E.own j t hj h
    refine ⟨k, xs, ts, h1, h2, u.at_ h3 fun z => ?_, h4, h5.up u E.nV⟩
    have := E.hβ
    rw [List.mem_singleton] at z
    omega
  own0 := E.own0
  inj := E.inj
theorem ER.val (E : ER β c O W base S r ρ) {i : Nat} {t : Tr} (h : ρ[i]? = some (some t)) : ∃ v, r[i]? = some (some v) ∧ Den (V0 W base) β S v t ∧ Els (VV O W base r) β S v t ∧ (inO O i = false → Den (VV O W base r) β S v t) ∧ (inO O i = true → ∃ ts, t = .lst ts) := by
  have w : ∀ {v : List Val} {t : List Tr}, Dens (VV O W base r) β S v t → Dens (V0 W base) β S v t := fun h => h.mono fun i w _ => ⟨w.1, rfl⟩
  cases hi : inO O i with
  | false =>
    obtain ⟨v, h1, h2⟩ := E.free i t hi h
    exact ⟨v, h1, h2.mono fun i w _ => ⟨w.1, rfl⟩, h2.els E.nV, fun _ => h2, fun z => Bool.noConfusion z⟩
  | true =>
    obtain ⟨k, xs, ts, h1, h2, h3, rfl, h5⟩ := E.own i t hi h
    refine ⟨_, h1, .lst (.inr h2) h3 (w h5), .lst (fun z => ?_) h3 h5, fun z => Bool.noConfusion z, fun _ => ⟨_, rfl⟩⟩
    have := E.hβ
    omega
theorem ER.set (E : ER β c O W base S r ρ) {i : Nat} {v : Val} {t : Tr} (hi : inO O i = false) (p : Den (VV O W base r) β S v t) : ER β c O W base S (r.set i (some v)) (ρ.set i (some t)) ∧ VV O W base (r.set i (some v)) = VV O W base r := by
  have ne : ∀ j, inO O j = true → i ≠ j := fun j hj z => by rw [z, hj] at hi; cases hi
  have ev : ∀ j, inO O j = true → (r.set i (some v))[j]? = r[j]? := fun j hj => List.getElem?_set_ne (ne j hj)
  have e := vv_eq (W := W) (base := base) ev
  refine ⟨⟨by simp [E.len], E.bs, E.hβ, E.hc, E.nW, fun j u hj h => ?_, fun j u hj h => ?_, fun j hj h => ?_, fun j j' k hj hj' h h' => ?_⟩, e⟩
  · rw [e]
    by_cases hij : i = j
    · subst hij
      have hl : i < ρ.length := by have := (List.getElem?_eq_some_iff.mp h).1; simpa using this
      rw [List.getElem?_set_self hl] at h
      cases h
      exact ⟨v, List.getElem?_set_self (by rw [E.len]; exact hl), p⟩
    · rw [List.getElem?_set_ne hij] at h
      rw [List.getElem?_set_ne hij]
      exact E.free j u hj h
  · rw [e, ev j hj]
    rw [List.getElem?_set_ne (ne j hj)] at h
    exact E.own j u hj h
  · rw [ev j hj]
    rw [List.getElem?_set_ne (ne j hj)] at h
    exact E.own0 j hj h
  · rw [ev j hj] at h
    rw [ev j' hj'] at h'
    exact E.inj j j' k hj hj' h h'
theorem ER.unset (E : ER β c O W base S r ρ) {i : Nat} (hi : inO O i = false) : ER β c O W base S (r.set i none) (ρ.set i none) ∧ VV O W base (r.set i none) = VV O W base r := by
  have ne : ∀ j, inO O j = true → i ≠ j := fun j hj z => by rw [z, hj] at hi; cases hi
  have ev : ∀ j, inO O j = true → (r.set i none)[j]? = r[j]? := fun j hj => List.getElem?_set_ne (ne j hj)
  have e := vv_eq (W := W) (base := base) ev
  refine ⟨⟨by simp [E.len], E.bs, E.hβ, E.hc, E.nW, fun j u hj h => ?_, fun j u hj h => ?_, fun j hj h => ?_, fun j j' k hj hj' h h' => ?_⟩, e⟩
  · rw [e]
    by_cases hij : i = j
    · subst hij
      have hl : i < ρ.length := by have := (List.getElem?_eq_some_iff.mp h).1; simpa using this
      rw [List.getElem?_set_self hl] at h
      cases h
    · rw [List.getElem?_set_ne hij] at h
      rw [List.getElem?_set_ne hij]
      exact E.free j u hj h
  · rw [e, ev j hj]
    rw [List.getElem?_set_ne (ne j hj)] at h
    exact E.own j u hj h
  · rw [ev j hj]
    rw [List.getElem?_set_ne (ne j hj)] at h
    exact E.own0 j hj h
  · rw [ev j hj] at h
    rw [ev j' hj'] at h'
    exact E.inj j j' k hj hj' h h'
theorem ER.wipe (E : ER β c O W base S r ρ) : ∀ {vs : List Nat}, (vs.all fun i => !inO O i) = true → ER β c O W base S (wipeE r vs) (twipe ρ vs) ∧ VV O W base (wipeE r vs) = VV O W base r
  | [], _ => ⟨E, rfl⟩
  | i :: vs, h => by
    rw [List.all_cons, Bool.and_eq_true] at h
    obtain ⟨E1, e1⟩ := E.wipe h.2
    obtain ⟨E2, e2⟩ := E1.unset (i := i) (by simpa using h.1)
    exact ⟨E2, e2.trans e1⟩
theorem ER.binds : ∀ {is : List Nat} {vs : List Val} {ts : List Tr} {r : Ev} {ρ ρ' : TEv}, ER β c O W base S r ρ → (is.all fun i => !inO O i) = true → Dens (VV O W base r) β S vs ts → tbindAll is ts ρ = some ρ' →
    ∃ r', bindAll is vs r = some r' ∧ ER β c O W base S r' ρ' ∧ VV O W base r' = VV O W base r
  | [], _, _, r, ρ, ρ', E, h, .nil, k => by cases k; exact ⟨r, rfl, E, rfl⟩
  | [], _, _, r, ρ, ρ', E, h, .cons _ _, k => by cases k
  | i :: is, _, _, r, ρ, ρ', E, h, .nil, k => by cases k
  | i :: is, _, _, r, ρ, ρ', E, h, .cons p q, k => by
    rw [List.all_cons, Bool.and_eq_true] at h
    obtain ⟨E1, e1⟩ := E.set (i := i) (by simpa using h.1) p
    obtain ⟨r', h1, h2, h3⟩ := ER.binds E1 h.2 (by rw [e1]; exact q) k
    exact ⟨r', h1, h2, h3.trans e1⟩
theorem ER.bind (E : ER β c O W base S r ρ) {t : Tg} {v : Val} {tv : Tr} {ρ' : TEv} (h : t.free O = true) (p : Den (VV O W base r) β S v tv) (k : t.tbind tv ρ = some ρ') :
    ∃ r', t.bind v r = some r' ∧ ER β c O W base S r' ρ' ∧ VV O W base r' = VV O W base r := by
  cases t with
  | nm i =>
    cases k
    obtain ⟨E1, e1⟩ := E.set (i := i) (by simpa [Tg.free] using h) p
    exact ⟨_, rfl, E1, e1⟩
  | tp is =>
    unfold Tg.tbind at k
    split at k
    · rename_i e; cases e
    · rename_i e
      cases e
      split at k
      · cases p with | tup q =>
        exact E.binds h q k
      · cases k
end
section
variable (β c) (V U : Nat → Prop) (S : Sto)
def PE' (lv : Nat) (fr il : Bool) (t : Tr) (g' : Bg) (v : Val) (S' : Sto) : Prop :=
  Up [β] S S' ∧ BagR β c g' S' ∧ Den U β S' v t ∧ (lv ≤ 1 → Els V β S' v t) ∧ (lv = 0 → Den V β S' v t) ∧ (fr = true → ∃ k, v = .ref k ∧ S.length ≤ k) ∧ (il = true → ∃ ts, t = .lst ts)
def PA' (lv : Nat) (ts : List Tr) (g' : Bg) (vs : List Val) (S' : Sto) : Prop :=
  Up [β] S S' ∧ BagR β c g' S' ∧ Dens U β S' vs ts ∧ (lv ≤ 1 → Elss V β S' vs ts) ∧ (lv = 0 → Dens V β S' vs ts)
end
theorem fr_isL : ∀ {e : Ex}, frE FR O e = true → isL FR O e = true
  | .lst _, _ => rfl
  | .lc _ _ _ _ _, _ => rfl
  | .bi b _, h => h
  | .bin o a b, h => h
  | .sl a _ _, h => h
  | .call f _, h => h
  | .ite _ a b, h => by
    rw [frE, Bool.and_eq_true] at h
    rw [isL, Bool.and_eq_true]
    exact ⟨fr_isL h.1, fr_isL h.2⟩
  | .var _, h => nomatch h
  | .con _, h => nomatch h
  | .glo _, h => nomatch h
  | .neg _, h => nomatch h
  | .nt _, h => nomatch h
  | .and _ _, h => nomatch h
  | .or _ _, h => nomatch h
  | .cmp _ _ _, h => nomatch h
  | .isn _ _, h => nomatch h
  | .chain _ _ _ _ _, h => nomatch h
  | .tup _, h => nomatch h
  | .idx _ _, h => nomatch h
  | .me _ _ _, h => nomatch h
theorem up0 {S S' : Sto} (h : Up [] S S') : Up [β] S S' := h.nil
theorem turns_ok {V U : Nat → Prop} {z : Prop} (nV : ¬ V β) (nU : ¬ U β) {src : Src} {step : Val → Sto → Rs (Option Val)} {tstep : Tr → Bg → Ts (Option Tr)} {xs : List Val} (np : ∀ i ∈ src.pins, i ≠ β) :
    ∀ {ts : List Tr} {n k : Nat} {S : Sto} {g : Bg} {ys : List Tr} {g' : Bg}, (∀ x t S1 g1 o g2, Up [β] S S1 → BagR β c g1 S1 → Den V β S1 x t → tstep t g1 = some (o, g2) → Sat (step x S1) fun o' S2 => Up [β] S1 S2 ∧ BagR β c g2 S2 ∧ match o, o' with
      | none, none => True
      | some u, some v => Den U β S2 v u ∧ (z → Den V β S2 v u)
      | _, _ => False) → SrcAt S src xs → Dens V β S (xs.drop k) ts → k ≤ xs.length → xs.length ≤ n + k → BagR β c g S → tturns tstep ts g = some (ys, g') →
      Sat (turns src step n k S) fun vs S' => Up [β] S S' ∧ BagR β c g' S' ∧ Dens U β S' vs ys ∧ (z → Dens V β S' vs ys)
  | [], n, k, S, g, ys, g', hs, sa, hd, hk, hn, B, h => by
    cases h
    have hx : xs[k]? = none := by
      have := hd.len
      rw [List.length_drop] at this
      simp only [List.length_nil] at this
      rw [List.getElem?_eq_none_iff]
      omega
    rw [turns, sa.2 S (fun _ _ => rfl) k, hx]
    exact ⟨.refl, B, .nil, fun _ => .nil⟩
  | t :: ts, n, k, S, g, ys, g', hs, sa, hd, hk, hn, B, h => by
    rw [tturns] at h
    obtain ⟨o, g1, h1, h⟩ := tb_eq h
    obtain ⟨us, g2, h2, h⟩ := tb_eq h
    cases h
    have hl : k < xs.length := by
      have := hd.len
      rw [List.length_drop, List.length_cons] at this
      omega
    have hx : xs[k]? = some xs[k] := List.getElem?_eq_getElem hl
    rw [List.drop_eq_getElem_cons hl] at hd
    cases hd with | cons p q =>
    rw [turns, sa.2 S (fun _ _ => rfl) k, hx]
    cases n with
    | zero => omega
    | succ n =>
      simp only [sat_bind]
      refine (hs _ _ S g o g1 .refl B p h1).mono fun o' S1 ⟨u1, B1, hm⟩ => ?_
      have sa1 : SrcAt S1 src xs := sa.later u1.1 fun i hi => u1.2 i (sa.1.2 i hi) fun z => np i hi (List.mem_singleton.mp z)
      refine (turns_ok nV nU np (n := n) (k := k + 1) (fun x t S2 g3 o g4 u => hs x t S2 g3 o g4 (u1.trans u)) sa1 (q.up u1 nV) (by omega) (by omega) B1 h2).mono fun vs S2 ⟨u2, B2, d1, d2⟩ => ?_
      cases o with
      | none =>
        cases o' with
        | none => exact ⟨u1.trans u2, B2, d1, d2⟩
        | some v => exact hm.elim
      | some w =>
        cases o' with
        | none => exact hm.elim
        | some v => exact ⟨u1.trans u2, B2, .cons (hm.1.up u2 nU) d1, fun y => .cons ((hm.2 y).up u2 nV) (d2 y)⟩
end
end A46
end
section
namespace A46
open PySem (Str PyData)
section
variable {β c : Nat} {V U : Nat → Prop} {S S1 : Sto} {t : Tr} {g' : Bg}
theorem Sat.and_imp {α : Type} {m : Rs α} {p : Prop} {P Q : α → Sto → Prop} (h : Sat m P) (k : p → Sat m Q) : Sat m fun a S => P a S ∧ (p → Q a S) := by
  cases m with
  | no => exact h.elim
  | ok a S => exact ⟨h, k⟩
theorem pe_fin {m : Rs Val} {p : Prop} [Decidable p] {fr il : Bool} {R : Val → Sto → Prop} (nV : ¬ V β) (u : Up [β] S S1) (B : BagR β c g' S1) (s0 : Sat m fun v S' => Up [] S1 S' ∧ Den U β S' v t ∧ R v S') (s1 : p → Sat m fun v S' => Den V β S' v t)
    (hfr : fr = true → ∀ v S', R v S' → ∃ k, v = .ref k ∧ S1.length ≤ k) (hil : il = true → ∃ ts, t = .lst ts) : Sat m (PE' β c V U S (if p then 0 else 2) fr il t g') := by
  have key : ∀ {n : Nat}, n ≤ 1 → (if p then 0 else 2) = n → p := fun {n} hn e => by
    by_cases hp : p
    · exact hp
    · rw [if_neg hp] at e; omega
  refine (Sat.and_imp s0 s1).mono fun v S' ⟨⟨u1, d, hr⟩, k⟩ => ⟨u.trans (up0 u1), B.up u1, d, fun h => (k (key h rfl)).els nV, fun h => k (key (n := 0) (by omega) h), fun h => ?_, hil⟩
  obtain ⟨k, e, l⟩ := hfr h v S' hr
  exact ⟨k, e, Nat.le_trans u.1 l⟩
theorem pe_sc {m : Rs Val} (nV : ¬ V β) (u : Up [β] S S1) (B : BagR β c g' S1) (s0 : Sat m fun v S' => Up [] S1 S' ∧ ∀ W, Den W β S' v t) : Sat m (PE' β c V U S 0 false false t g') :=
  s0.mono fun v S' ⟨u1, d⟩ => ⟨u.trans (up0 u1), B.up u1, d _, fun _ => (d _).els nV, fun _ => d _, fun h => (Bool.noConfusion h), fun h => (Bool.noConfusion h)⟩
end
section
variable {β c : Nat} {FR : List Str} {O : List Nat} {W : Nat → Prop} {base : Nat} {G : Str → Option Val} {GT : Str → Option Tr} {F : Fns} {FT : TF}
def GOk (β : Nat) (G : Str → Option Val) (GT : Str → Option Tr) : Prop := ∀ x t, GT x = some t → ∃ v, G x = some v ∧ ∀ W S, Den W β S v t
theorem con_ok {v : Val} {t : Tr} (h : tcon v = some t) : ∀ W S, Den W β S v t := by
  intro W S
  cases v <;> first | (exfalso; cases h; done) | (cases h; constructor)
theorem lv_if {p : Prop} [Decidable p] {n : Nat} (h : (if p then 0 else 2) = n) (hn : n ≤ 1) : p := by
  by_cases hp : p
  · exact hp
  · rw [if_neg hp] at h; omega
theorem bin_lst {o : Bo} {a b : Ex} {x y t : Tr} (h : tbin o x y = some t) (hf : ((decide (o = .add) && (isL FR O a || isL FR O b)) || (decide (o = .mul) && isL FR O a)) = true) (l1 : isL FR O a = true → ∃ ts, x = .lst ts) (l2 : isL FR O b = true → ∃ ts, y = .lst ts) : ∃ ts, t = .lst ts := by
  simp only [Bool.or_eq_true, Bool.and_eq_true, decide_eq_true_eq] at hf
  rcases hf with ⟨rfl, hf | hf⟩ | ⟨rfl, hf⟩
  · obtain ⟨ts, rfl⟩ := l1 hf
    cases y <;> first | (exfalso; cases h; done) | skip
    rw [tbin] at h
    split at h
    · cases h; exact ⟨_, rfl⟩
    · cases h
  · obtain ⟨ts, rfl⟩ := l2 hf
    cases x <;> first | (exfalso; cases h; done) | skip
    rw [tbin] at h
    split at h
    · cases h; exact ⟨_, rfl⟩
    · cases h
  · obtain ⟨ts, rfl⟩ := l1 hf
    cases y <;> first | (exfalso; cases h; done) | skip
    rw [tbin] at h
    split at h
    · cases h; exact ⟨_, rfl⟩
    · cases h
theorem sl_lst {x t : Tr} {lo hi : Option Int} (h : tslice x lo hi = some t) (l : ∃ ts, x = .lst ts) : ∃ ts, t = .lst ts := by
  obtain ⟨ts, rfl⟩ := l
  cases h
  exact ⟨_, rfl⟩
mutual
theorem tev_ok (hG : GOk β G GT) (hF : FOk β c FR F FT) : ∀ (e : Ex) {S : Sto} {r : Ev} {ρ : TEv} {g g' : Bg} {t : Tr}, okE O e = true → ER β c O W base S r ρ → BagR β c g S → tev GT FT e ρ g = some (t, g') →
    Sat (ev G F e r S) (PE' β c (VV O W base r) (V0 W base) S (lvE O e) (frE FR O e) (isL FR O e) t g')
  | .var i, S, r, ρ, g, g', t, ok, E, B, h => by
    rw [tev] at h
    split at h
    · rename_i v e
      cases h
      obtain ⟨w, h1, h2, h3, h4, h5⟩ := E.val e
      rw [ev, h1]
      refine ⟨.refl, B, h2, fun _ => h3, fun z => ?_, fun z => (Bool.noConfusion z), fun z => h5 z⟩
      rw [lvE] at z
      cases hi : inO O i with
      | false => exact h4 hi
      | true => rw [hi, if_pos rfl] at z; cases z
    · cases h
  | .con v, S, r, ρ, g, g', t, ok, E, B, h => by
    rw [tev] at h
    obtain ⟨h1, h2⟩ := tof_eq h
    cases h2
    exact pe_sc (m := .ok v S) E.nV .refl B ⟨.refl, fun W => con_ok h1 W S⟩
  | .glo x, S, r, ρ, g, g', t, ok, E, B, h => by
    rw [tev] at h
    obtain ⟨h1, h2⟩ := tof_eq h
    cases h2
    obtain ⟨v, e, d⟩ := hG x _ h1
    rw [ev, e]
    exact pe_sc (m := .ok v S) E.nV .refl B ⟨.refl, fun W => d W S⟩
  | .bin o a b, S, r, ρ, g, g', t, ok, E, B, h => by
    rw [tev] at h
    obtain ⟨x, g1, h1, h⟩ := tb_eq h
    obtain ⟨y, g2, h2, h⟩ := tb_eq h
    obtain ⟨h3, h4⟩ := tof_eq h
    cases h4
    rw [okE, Bool.and_eq_true] at ok
    rw [ev, sat_bind]
    refine (tev_ok hG hF a ok.1 E B h1).mono fun v S1 ⟨u1, B1, d1, e1, f1, r1, l1⟩ => ?_
    have E1 := E.up u1
    rw [sat_bind]
    refine (tev_ok hG hF b ok.2 E1 B1 h2).mono fun w S2 ⟨u2, B2, d2, e2, f2, r2, l2⟩ => ?_
    have E2 := E1.up u2
    refine pe_fin (p := lvE O a ≤ 1 ∧ lvE O b ≤ 1) E.nV (u1.trans u2) B2 (tbin_ok (fun k => E2.new0) ((d1.up u2 E.n0).els E.n0) (d2.els E.n0) h3) (fun hp => (tbin_ok (fun k => E2.new) ((e1 hp.1).mono u2 E.nV) (e2 hp.2) h3).mono fun _ _ z => z.2.1) (fun hf v S' hr => ?_) (fun hf => ?_)
    · obtain ⟨us, rfl⟩ := bin_lst (FR := FR) (O := O) (a := a) (b := b) h3 hf l1 l2
      exact ⟨_, hr us rfl, Nat.le_refl _⟩
    · exact bin_lst (FR := FR) (O := O) (a := a) (b := b) h3 hf l1 l2
  | .neg a, S, r, ρ, g, g', t, ok, E, B, h => by
    rw [tev] at h
    obtain ⟨x, g1, h1, h⟩ := tb_eq h
    rw [okE] at ok
    rw [ev, sat_bind]
    refine (tev_ok hG hF a ok E B h1).mono fun v S1 ⟨u1, B1, d1, e1, f1, r1, l1⟩ => ?_
    split at h
    · cases d1
      cases h
      exact pe_sc (m := .ok _ S1) E.nV u1 B1 ⟨.refl, fun W => .int _⟩
    · cases h
  | .nt a, S, r, ρ, g, g', t, ok, E, B, h => by
    rw [tev] at h
    obtain ⟨x, g1, h1, h⟩ := tb_eq h
    obtain ⟨bb, h3, h⟩ := tbof_eq h
    cases h
    rw [okE] at ok
    rw [ev, sat_bind]
    refine (tev_ok hG hF a ok E B h1).mono fun v S1 ⟨u1, B1, d1, e1, f1, r1, l1⟩ => ?_
    unfold tst
    rw [ttruth_of (d1.els E.n0) h3]
    exact pe_sc (m := .ok _ S1) E.nV u1 B1 ⟨.refl, fun W => .bl _⟩
  | .and a b, S, r, ρ, g, g', t, ok, E, B, h => by
    rw [tev] at h
    obtain ⟨x, g1, h1, h⟩ := tb_eq h
    obtain ⟨bb, h3, h⟩ := tbof_eq h
    rw [okE, Bool.and_eq_true] at ok
    rw [ev, sat_bind]
    refine (tev_ok hG hF a ok.1 E B h1).mono fun v S1 ⟨u1, B1, d1, e1, f1, r1, l1⟩ => ?_
    unfold tst
    rw [ttruth_of (d1.els E.n0) h3]
    simp only [Rs.of_some, Rs.bind_ok]
    have fx : ∀ {n : Nat}, n ≤ 1 → lvE O (.and a b) = n → lvE O a = 0 ∧ lvE O b = 0 := fun {n} hn e => lv_if (p := lvE O a = 0 ∧ lvE O b = 0) e hn
    split at h
    · rename_i hb
      rw [if_pos hb]
      exact (tev_ok hG hF b ok.2 (E.up u1) B1 h).mono fun w S2 ⟨u2, B2, d2, e2, f2, r2, l2⟩ => ⟨u1.trans u2, B2, d2, fun z => e2 (by have := (fx z rfl).2; omega), fun z => f2 (fx (by omega) z).2, fun z => Bool.noConfusion z, fun z => Bool.noConfusion z⟩
    · rename_i hb
      cases h
      rw [if_neg hb]
      exact ⟨u1, B1, d1, fun z => e1 (by have := (fx z rfl).1; omega), fun z => f1 (fx (by omega) z).1, fun z => Bool.noConfusion z, fun z => Bool.noConfusion z⟩
  | .or a b, S, r, ρ, g, g', t, ok, E, B, h => by
    rw [tev] at h
    obtain ⟨x, g1, h1, h⟩ := tb_eq h
    obtain ⟨bb, h3, h⟩ := tbof_eq h
    rw [okE, Bool.and_eq_true] at ok
    rw [ev, sat_bind]
    refine (tev_ok hG hF a ok.1 E B h1).mono fun v S1 ⟨u1, B1, d1, e1, f1, r1, l1⟩ => ?_
    unfold tst
    rw [ttruth_of (d1.els E.n0) h3]
    simp only [Rs.of_some, Rs.bind_ok]
    have fx : ∀ {n : Nat}, n ≤ 1 → lvE O (.or a b) = n → lvE O a = 0 ∧ lvE O b = 0 := fun {n} hn e => lv_if (p := lvE O a = 0 ∧ lvE O b = 0) e hn
    split at h
    · rename_i hb
      cases h
      rw [if_pos hb]
      exact ⟨u1, B1, d1, fun z => e1 (by have := (fx z rfl).1; omega), fun z => f1 (fx (by omega) z).1, fun z => Bool.noConfusion z, fun z => Bool.noConfusion z⟩
    · rename_i hb
      rw [if_neg hb]
      exact (tev_ok hG hF b ok.2 (E.up u1) B1 h).mono fun w S2 ⟨u2, B2, d2, e2, f2, r2, l2⟩ => ⟨u1.trans u2, B2, d2, fun z => e2 (by have := (fx z rfl).2; omega), fun z => f2 (fx (by omega) z).2, fun z => Bool.noConfusion z, fun z => Bool.noConfusion z⟩
  | .cmp o a b, S, r, ρ, g, g', t, ok, E, B, h => by
    rw [tev] at h
    obtain ⟨x, g1, h1, h⟩ := tb_eq h
    obtain ⟨y, g2, h2, h⟩ := tb_eq h
    obtain ⟨h3, h4⟩ := tof_eq h
    cases h4
    rw [okE, Bool.and_eq_true] at ok
    rw [ev, sat_bind]
    refine (tev_ok hG hF a ok.1 E B h1).mono fun v S1 ⟨u1, B1, d1, e1, f1, r1, l1⟩ => ?_
    have E1 := E.up u1
    rw [sat_bind]
    refine (tev_ok hG hF b ok.2 E1 B1 h2).mono fun w S2 ⟨u2, B2, d2, e2, f2, r2, l2⟩ => ?_
    refine pe_sc E.nV (u1.trans u2) B2 ((tcmp_ok E.n0 (d1.up u2 E.n0) d2 h3).mono fun z S' ⟨e, bb, hz, ht⟩ => ?_)
    subst e hz
    (try dsimp only at ht)
    subst ht
    exact ⟨.refl, fun W => .bl _⟩
  | .isn ng a, S, r, ρ, g, g', t, ok, E, B, h => by
    rw [tev] at h
    obtain ⟨x, g1, h1, h⟩ := tb_eq h
    obtain ⟨h3, h4⟩ := tof_eq h
    cases h4
    rw [okE] at ok
    rw [ev, sat_bind]
    refine (tev_ok hG hF a ok E B h1).mono fun v S1 ⟨u1, B1, d1, e1, f1, r1, l1⟩ => ?_
    rw [Rs.bind_ok]
    refine pe_sc E.nV u1 B1 ((tcmp_ok E.n0 d1 (.non : Den (V0 W base) β S1 .non .non) h3).mono fun z S' ⟨e, bb, hz, ht⟩ => ?_)
    subst e hz
    (try dsimp only at ht)
    subst ht
    exact ⟨.refl, fun W => .bl _⟩
  | .chain o p a b k, S, r, ρ, g, g', t, ok, E, B, h => by
    rw [tev] at h
    obtain ⟨x, g1, h1, h⟩ := tb_eq h
    obtain ⟨y, g2, h2, h⟩ := tb_eq h
    obtain ⟨z, h3, h⟩ := tbof_eq h
    rw [okE, Bool.and_eq_true, Bool.and_eq_true] at ok
    rw [ev, sat_bind]
    refine (tev_ok hG hF a ok.1.1 E B h1).mono fun v S1 ⟨u1, B1, d1, e1, f1, r1, l1⟩ => ?_
    have E1 := E.up u1
    rw [sat_bind]
    refine (tev_ok hG hF b ok.1.2 E1 B1 h2).mono fun w S2 ⟨u2, B2, d2, e2, f2, r2, l2⟩ => ?_
    have E2 := E1.up u2
    rw [sat_bind]
    refine (tcmp_ok E.n0 (d1.up u2 E.n0) d2 h3).mono fun z1 S' ⟨e, bb, hz, ht⟩ => ?_
    subst e hz
    (try dsimp only at ht)
    subst ht
    cases bb with
    | false =>
      cases h
      exact pe_sc (m := .ok _ _) E.nV (u1.trans u2) B2 ⟨.refl, fun W => .bl _⟩
    | true =>
      obtain ⟨q, g4, h5, h⟩ := tb_eq h
      obtain ⟨h6, h7⟩ := tof_eq h
      cases h7
      simp only
      rw [sat_bind]
      refine (tev_ok hG hF k ok.2 E2 B2 h5).mono fun w3 S3 ⟨u3, B3, d3, e3, f3, r3, l3⟩ => ?_
      refine pe_sc E.nV ((u1.trans u2).trans u3) B3 ((tcmp_ok E.n0 (d2.up u3 E.n0) d3 h6).mono fun z S' ⟨e, bb, hz, ht⟩ => ?_)
      subst e hz
      (try dsimp only at ht)
      subst ht
      exact ⟨.refl, fun W => .bl _⟩
  | .ite k a b, S, r, ρ, g, g', t, ok, E, B, h => by
    rw [tev] at h
    obtain ⟨x, g1, h1, h⟩ := tb_eq h
    obtain ⟨bb, h3, h⟩ := tbof_eq h
    rw [okE, Bool.and_eq_true, Bool.and_eq_true] at ok
    rw [ev, sat_bind]
    refine (tev_ok hG hF k ok.1.1 E B h1).mono fun v S1 ⟨u1, B1, d1, e1, f1, r1, l1⟩ => ?_
    unfold tst
    rw [ttruth_of (d1.els E.n0) h3]
    simp only [Rs.of_some, Rs.bind_ok]
    have fx : ∀ {n : Nat}, n ≤ 1 → lvE O (.ite k a b) = n → lvE O a = 0 ∧ lvE O b = 0 := fun {n} hn e => lv_if (p := lvE O a = 0 ∧ lvE O b = 0) e hn
    have fy : frE FR O (.ite k a b) = true → frE FR O a = true ∧ frE FR O b = true := fun z => by rw [frE, Bool.and_eq_true] at z; exact z
    have fz : isL FR O (.ite k a b) = true → isL FR O a = true ∧ isL FR O b = true := fun z => by rw [isL, Bool.and_eq_true] at z; exact z
    split at h
    · rename_i hb
      rw [if_pos hb]
      exact (tev_ok hG hF a ok.1.2 (E.up u1) B1 h).mono fun w S2 ⟨u2, B2, d2, e2, f2, r2, l2⟩ => ⟨u1.trans u2, B2, d2, fun z => e2 (by have := (fx z rfl).1; omega), fun z => f2 (fx (by omega) z).1, fun z => by
        obtain ⟨k, e, l⟩ := r2 (fy z).1
        exact ⟨k, e, Nat.le_trans u1.1 l⟩, fun z => l2 (fz z).1⟩
    · rename_i hb
      rw [if_neg hb]
      exact (tev_ok hG hF b ok.2 (E.up u1) B1 h).mono fun w S2 ⟨u2, B2, d2, e2, f2, r2, l2⟩ => ⟨u1.trans u2, B2, d2, fun z => e2 (by have := (fx z rfl).2; omega), fun z => f2 (fx (by omega) z).2, fun z => by
        obtain ⟨k, e, l⟩ := r2 (fy z).2
        exact ⟨k, e, Nat.le_trans u1.1 l⟩, fun z => l2 (fz z).2⟩
  | .tup es, S, r, ρ, g, g', t, ok, E, B, h => by
    rw [tev] at h
    obtain ⟨xs, g1, h1, h⟩ := tb_eq h
    split at h
    · rename_i hl
      cases h
      rw [okE] at ok
      rw [ev, sat_bind]
      refine (tevs_ok hG hF es ok E B h1).mono fun vs S1 ⟨u1, B1, d1, e1, f1⟩ => ?_
      rw [if_pos (by rw [d1.len]; exact hl)]
      exact pe_fin (m := .ok _ _) (p := lvs O es = 0) (R := fun _ _ => True) E.nV u1 B1 ⟨.refl, .tup d1, trivial⟩ (fun z => .tup (f1 z)) (fun z => Bool.noConfusion z) (fun z => Bool.noConfusion z)
    · cases h
  | .lst es, S, r, ρ, g, g', t, ok, E, B, h => by
    rw [tev] at h
    obtain ⟨xs, g1, h1, h⟩ := tb_eq h
    split at h
    · rename_i hl
      cases h
      rw [okE] at ok
      rw [ev, sat_bind]
      refine (tevs_ok hG hF es ok E B h1).mono fun vs S1 ⟨u1, B1, d1, e1, f1⟩ => ?_
      rw [if_pos (by rw [d1.len]; exact hl)]
      have E1 := E.up u1
      exact pe_fin (p := lvs O es = 0) (R := fun v _ => v = .ref S1.length) E.nV u1 B1 (talloc_ok (fun k => E1.new0) d1) (fun z => (talloc_ok (fun k => E1.new) (f1 z)).mono fun _ _ w => w.2.1) (fun z v S' hr => ⟨_, hr, Nat.le_refl _⟩) (fun z => ⟨_, rfl⟩)
    · cases h
  | .idx a i, S, r, ρ, g, g', t, ok, E, B, h => by
    rw [tev] at h
    obtain ⟨x, g1, h1, h⟩ := tb_eq h
    obtain ⟨y, g2, h2, h⟩ := tb_eq h
    obtain ⟨h3, h4⟩ := tof_eq h
    cases h4
    rw [okE, Bool.and_eq_true] at ok
    rw [ev, sat_bind]
    refine (tev_ok hG hF a ok.1 E B h1).mono fun v S1 ⟨u1, B1, d1, e1, f1, r1, l1⟩ => ?_
    have E1 := E.up u1
    rw [sat_bind]
    refine (tev_ok hG hF i ok.2 E1 B1 h2).mono fun w S2 ⟨u2, B2, d2, e2, f2, r2, l2⟩ => ?_
    refine pe_fin (p := lvE O a ≤ 1) (R := fun _ _ => True) E.nV (u1.trans u2) B2 ((tindex_ok ((d1.up u2 E.n0).els E.n0) (d2.els E.n0) h3).mono fun z S' hz => ?_) (fun hp => (tindex_ok ((e1 hp).mono u2 E.nV) (d2.els E.n0) h3).mono fun z S' hz => ?_) (fun z => Bool.noConfusion z) (fun z => Bool.noConfusion z)
    · exact ⟨by rw [hz.1]; exact .refl, hz.2, trivial⟩
    · exact hz.2
  | .sl a lo hi, S, r, ρ, g, g', t, ok, E, B, h => by
    rw [tev] at h
    obtain ⟨x, g1, h1, h⟩ := tb_eq h
    obtain ⟨y, g2, h2, h⟩ := tb_eq h
    obtain ⟨w, g3, h3, h⟩ := tb_eq h
    obtain ⟨h4, h5⟩ := tof_eq h
    cases h5
    rw [okE, Bool.and_eq_true, Bool.and_eq_true] at ok
    rw [ev, sat_bind]
    refine (tev_ok hG hF a ok.1.1 E B h1).mono fun v S1 ⟨u1, B1, d1, e1, f1, r1, l1⟩ => ?_
    have E1 := E.up u1
    rw [sat_bind]
    refine (tevo_ok hG hF lo ok.1.2 E1 B1 h2).mono fun l S2 ⟨u2, B2, hl⟩ => ?_
    have E2 := E1.up u2
    rw [sat_bind]
    refine (tevo_ok hG hF hi ok.2 E2 B2 h3).mono fun l' S3 ⟨u3, B3, hl'⟩ => ?_
    have E3 := E2.up u3
    subst hl hl'
    have u23 := u2.trans u3
    refine pe_fin (p := lvE O a ≤ 1) E.nV (u1.trans u23) B3 (tslice_ok (fun k => E3.new0) ((d1.up u23 E.n0).els E.n0) h4) (fun hp => (tslice_ok (fun k => E3.new) ((e1 hp).mono u23 E.nV) h4).mono fun z S' hz => hz.2.1) (fun z v S' hr => ?_) (fun z => ?_)
    · obtain ⟨us, rfl⟩ := sl_lst h4 (l1 z)
      exact ⟨_, hr us rfl, Nat.le_refl _⟩
    · exact sl_lst h4 (l1 z)
  | .call f es, S, r, ρ, g, g', t, ok, E, B, h => by
    rw [tev] at h
    obtain ⟨xs, g1, h1, h⟩ := tb_eq h
    rw [okE] at ok
    rw [ev, sat_bind]
    refine (tevs_ok hG hF es ok E B h1).mono fun vs S1 ⟨u1, B1, d1, e1, f1⟩ => ?_
    have E1 := E.up u1
    have l1 : β < S1.length := Nat.lt_of_lt_of_le E1.hβ E1.bs
    have l2 : c < S1.length := Nat.lt_of_lt_of_le E1.hc E1.bs
    refine (Sat.and_imp (hF f xs g1 t g' h (V0 W base) vs S1 E.n0 l1 l2 d1 B1) fun (z : lvs O es = 0) => hF f xs g1 t g' h (VV O W base r) vs S1 E.nV l1 l2 (f1 z) B1).mono fun v S2 ⟨⟨u2, B2, d2, k2⟩, m2⟩ => ?_
    have fx : ∀ {n : Nat}, n ≤ 1 → lvE O (.call f es) = n → Den (VV O W base r) β S2 v t := fun {n} hn e => (m2 (lv_if (p := lvs O es = 0) e hn)).2.2.1.mono fun i w _ => ⟨by
      rcases w with w | w
      · exact w
      · exact E1.new w, rfl⟩
    refine ⟨u1.trans u2, B2, d2.mono fun i w _ => ⟨?_, rfl⟩, fun z => (fx z rfl).els E.nV, fun z => fx (by omega) z, fun z => ?_, fun z => (k2 z).2⟩
    · rcases w with w | w
      · exact w
      · exact E1.new0 w
    · obtain ⟨k, e, l⟩ := (k2 z).1
      exact ⟨k, e, Nat.le_trans u1.1 l⟩
  | .bi b es, S, r, ρ, g, g', t, ok, E, B, h => by
    rw [tev] at h
    obtain ⟨xs, g1, h1, h⟩ := tb_eq h
    obtain ⟨h3, h4⟩ := tof_eq h
    cases h4
    rw [okE] at ok
    rw [ev, sat_bind]
    refine (tevs_ok hG hF es ok E B h1).mono fun vs S1 ⟨u1, B1, d1, e1, f1⟩ => ?_
    have E1 := E.up u1
    have fz : ∀ {x : Bool}, (decide (b = .list) || decide (b = .sorted)) = true → b = .list ∨ b = .sorted := fun z => by simpa using z
    have key := tbi_ok (fun k => E1.new0) E.n0 (d1.elss E.n0) d1 h3
    refine pe_fin (p := lvs O es ≤ 1) E.nV u1 B1 key (fun z => (tbi_ok (fun k => E1.new) E.nV (e1 z) d1 h3).mono fun _ _ w => w.2.1) (fun z v S' hr => ⟨_, (hr (fz (x := true) z)).1, Nat.le_refl _⟩) (fun z => ?_)
    obtain ⟨a, S', _, hq⟩ := key.get
    exact (hq.2.2 (fz (x := true) z)).2
  | .me m o es, S, r, ρ, g, g', t, ok, E, B, h => by
    rw [tev] at h
    obtain ⟨x, g1, h1, h⟩ := tb_eq h
    split at h
    · rename_i hr
      obtain ⟨xs, g2, h2, h⟩ := tb_eq h
      obtain ⟨h3, h4⟩ := tof_eq h
      cases h4
      rw [okE, Bool.and_eq_true, Bool.and_eq_true] at ok
      rw [ev, sat_bind]
      refine (tev_ok hG hF o ok.1.2 E B h1).mono fun v S1 ⟨u1, B1, d1, e1, f1, r1, l1⟩ => ?_
      have E1 := E.up u1
      rw [if_pos (trecv_of (d1.els E.n0) hr), sat_bind]
      refine (tevs_ok hG hF es ok.2 E1 B1 h2).mono fun vs S2 ⟨u2, B2, d2, e2, f2⟩ => ?_
      have E2 := E1.up u2
      refine (Sat.and (tmeth_ok (W := V0 W base) (fun k => E2.new0) ((d1.up u2 E.n0).els E.n0) d2 h3) (tmeth_ok (W := VV O W base r) (fun k => E2.new) ((d1.up u2 E.n0).els E.n0) d2 h3)).mono fun w S3 ⟨⟨u3, d3⟩, _, d4⟩ => ?_
      exact ⟨(u1.trans u2).trans (up0 u3), B2.up u3, d3, fun _ => d4.els E.nV, fun _ => d4, fun z => Bool.noConfusion z, fun z => Bool.noConfusion z⟩
    · cases h
  | .lc it tg k e vs, S, r, ρ, g, g', t, ok, E, B, h => by
    rw [tev] at h
    obtain ⟨xs, g1, h1, h⟩ := tb_eq h
    obtain ⟨ys, g2, h2, h⟩ := tb_eq h
    split at h
    · rename_i hl
      cases h
      rw [okE] at ok
      simp only [Bool.and_eq_true, decide_eq_true_eq] at ok
      obtain ⟨⟨⟨⟨⟨ok1, ok2⟩, ok3⟩, ok4⟩, ok5⟩, ok6⟩ := ok
      rw [ev, sat_bind]
      refine (tevi_ok hG hF it ok1 E B h1).mono fun src S1 ⟨u1, B1, zs, sa, np, d1, e1, _⟩ => ?_
      have E1 := E.up u1
      rw [sat_bind]
      refine (turns_ok (z := lvE O e = 0) E.nV E.n0 np (xs := zs) (fun x tx S2 g3 o g4 u2 B2 p hst => ?_) sa (by rw [List.drop_zero]; exact e1 ok2) (Nat.zero_le _) (by rw [sa.1.1]; omega) B1 h2).mono fun us S2 ⟨u2, B2, d2, d3⟩ => ?_
      · have E2 := E1.up u2
        obtain ⟨Ew, ew⟩ := E2.wipe ok4
        (try dsimp only at hst)
        split at hst
        · cases hst
        · rename_i ρ2 hρ
          obtain ⟨r2, b1, E3, b3⟩ := Ew.bind ok3 (by rw [ew]; exact p) hρ
          have ev3 := b3.trans ew
          rw [b1]
          obtain ⟨bb, g5, h5, hst⟩ := tb_eq hst
          simp only
          rw [sat_bind]
          refine (tevc_ok hG hF k ok5 E3 B2 h5).mono fun b' S3 ⟨u3, B3, hb⟩ => ?_
          subst hb
          have E4 := E3.up u3
          cases b' with
          | false =>
            cases hst
            exact ⟨u3, B3, trivial⟩
          | true =>
            simp only [if_true] at hst ⊢
            obtain ⟨y, g6, h6, hst⟩ := tb_eq hst
            cases hst
            rw [sat_bind]
            refine (tev_ok hG hF e ok6 E4 B3 h6).mono fun v S4 ⟨u4, B4, d4, e4, f4, r4, l4⟩ => ?_
            rw [ev3] at f4
            exact ⟨u3.trans u4, B4, d4, f4⟩
      · rw [if_pos (by rw [d2.len]; exact hl)]
        have E2 := E1.up u2
        exact pe_fin (p := lvE O e = 0) (R := fun v _ => v = .ref S2.length) E.nV (u1.trans u2) B2 (talloc_ok (fun k => E2.new0) d2) (fun z => (talloc_ok (fun k => E2.new) (d3 z)).mono fun _ _ w => w.2.1) (fun z v S' hr => ⟨_, hr, Nat.le_refl _⟩) (fun z => ⟨_, rfl⟩)
    · cases h
theorem tevs_ok (hG : GOk β G GT) (hF : FOk β c FR F FT) : ∀ (es : Exs) {S : Sto} {r : Ev} {ρ : TEv} {g g' : Bg} {ts : List Tr}, oks O es = true → ER β c O W base S r ρ → BagR β c g S → tevs GT FT es ρ g = some (ts, g') →
    Sat (evs G F es r S) (PA' β c (VV O W base r) (V0 W base) S (lvs O es) ts g')
  | .nil, S, r, ρ, g, g', t, ok, E, B, h => by
    rw [tevs] at h
    cases h
    exact ⟨.refl, B, .nil, fun _ => .nil, fun _ => .nil⟩
  | .cons e es, S, r, ρ, g, g', t, ok, E, B, h => by
    rw [tevs] at h
    obtain ⟨x, g1, h1, h⟩ := tb_eq h
    obtain ⟨xs, g2, h2, h⟩ := tb_eq h
    cases h
    rw [oks, Bool.and_eq_true] at ok
    rw [evs, sat_bind]
    refine (tev_ok hG hF e ok.1 E B h1).mono fun v S1 ⟨u1, B1, d1, e1, f1, r1, l1⟩ => ?_
    rw [sat_bind]
    refine (tevs_ok hG hF es ok.2 (E.up u1) B1 h2).mono fun vs S2 ⟨u2, B2, d2, e2, f2⟩ => ?_
    refine ⟨u1.trans u2, B2, .cons (d1.up u2 E.n0) d2, fun z => ?_, fun z => ?_⟩
    · rw [lvs] at z
      exact .cons ((e1 (by omega)).mono u2 E.nV) (e2 (by omega))
    · rw [lvs] at z
      exact .cons ((f1 (by omega)).up u2 E.nV) (f2 (by omega))
  | .star e es, S, r, ρ, g, g', t, ok, E, B, h => by
    rw [tevs] at h
    obtain ⟨x, g1, h1, h⟩ := tb_eq h
    split at h
    · rename_i ys hy
      obtain ⟨xs, g2, h2, h⟩ := tb_eq h
      cases h
      rw [oks, Bool.and_eq_true] at ok
      rw [evs, sat_bind]
      refine (tev_ok hG hF e ok.1 E B h1).mono fun v S1 ⟨u1, B1, d1, e1, f1, r1, l1⟩ => ?_
      obtain ⟨zs, s1, s2⟩ := seq_of (d1.els E.n0) hy
      rw [s1]
      simp only
      rw [sat_bind]
      refine (tevs_ok hG hF es ok.2 (E.up u1) B1 h2).mono fun vs S2 ⟨u2, B2, d2, e2, f2⟩ => ?_
      have key : ∀ {n : Nat}, n ≤ 1 → lvs O (.star e es) = n → Dens (VV O W base r) β S2 zs ys ∧ lvs O es ≤ n := fun {n} hn z => by
        rw [lvs] at z
        have hl : lvE O e ≤ 1 := lv_if (p := lvE O e ≤ 1) (n := if lvE O e ≤ 1 then 0 else 2) rfl (by omega)
        obtain ⟨zs', s1', s2'⟩ := seq_of (e1 hl) hy
        rw [s1] at s1'
        cases s1'
        exact ⟨s2'.up u2 E.nV, by omega⟩
      refine ⟨u1.trans u2, B2, (s2.up u2 E.n0).app d2, fun z => ?_, fun z => ?_⟩
      · have k := key z rfl
        have app : ∀ {a b : List Val} {s t : List Tr}, Elss (VV O W base r) β S2 a s → Elss (VV O W base r) β S2 b t → Elss (VV O W base r) β S2 (a ++ b) (s ++ t) := fun {a b s t} p q => by
          induction p with
          | nil => exact q
          | cons p _ ih => exact .cons p ih
        exact app (k.1.elss E.nV) (e2 (by omega))
      · have k := key (n := 0) (by omega) z
        exact k.1.app (f2 (by omega))
    · cases h
theorem tevo_ok (hG : GOk β G GT) (hF : FOk β c FR F FT) : ∀ (o : Exo) {S : Sto} {r : Ev} {ρ : TEv} {g g' : Bg} {t : Option Int}, okO O o = true → ER β c O W base S r ρ → BagR β c g S → tevo GT FT o ρ g = some (t, g') →
    Sat (evo G F o r S) fun v S' => Up [β] S S' ∧ BagR β c g' S' ∧ v = t
  | .none, S, r, ρ, g, g', t, ok, E, B, h => by
    rw [tevo] at h
    cases h
    exact ⟨.refl, B, rfl⟩
  | .some e, S, r, ρ, g, g', t, ok, E, B, h => by
    rw [tevo] at h
    obtain ⟨x, g1, h1, h⟩ := tb_eq h
    rw [okO] at ok
    rw [evo, sat_bind]
    refine (tev_ok hG hF e ok E B h1).mono fun v S1 ⟨u1, B1, d1, e1, f1, r1, l1⟩ => ?_
    split at h
    · cases h
      cases d1
      exact ⟨u1, B1, rfl⟩
    · cases h
theorem tevc_ok (hG : GOk β G GT) (hF : FOk β c FR F FT) : ∀ (o : Exo) {S : Sto} {r : Ev} {ρ : TEv} {g g' : Bg} {t : Bool}, okO O o = true → ER β c O W base S r ρ → BagR β c g S → tevc GT FT o ρ g = some (t, g') →
    Sat (evc G F o r S) fun v S' => Up [β] S S' ∧ BagR β c g' S' ∧ v = t
  | .none, S, r, ρ, g, g', t, ok, E, B, h => by
    rw [tevc] at h
    cases h
    exact ⟨.refl, B, rfl⟩
  | .some e, S, r, ρ, g, g', t, ok, E, B, h => by
    rw [tevc] at h
    obtain ⟨x, g1, h1, h⟩ := tb_eq h
    obtain ⟨h3, h4⟩ := tof_eq h
    cases h4
    rw [okO] at ok
    rw [evc, sat_bind]
    refine (tev_ok hG hF e ok E B h1).mono fun v S1 ⟨u1, B1, d1, e1, f1, r1, l1⟩ => ?_
    unfold tst
    rw [ttruth_of (d1.els E.n0) h3]
    exact ⟨u1, B1, rfl⟩
theorem tevi_ok (hG : GOk β G GT) (hF : FOk β c FR F FT) : ∀ (it : Itr) {S : Sto} {r : Ev} {ρ : TEv} {g g' : Bg} {ts : List Tr}, okI O it = true → ER β c O W base S r ρ → BagR β c g S → tevi GT FT it ρ g = some (ts, g') →
    Sat (evi G F it r S) fun src S' => Up [β] S S' ∧ BagR β c g' S' ∧ ∃ xs, SrcAt S' src xs ∧ (∀ i ∈ src.pins, i ≠ β) ∧ Dens (V0 W base) β S' xs ts ∧ (lvI O it ≤ 1 → Dens (VV O W base r) β S' xs ts) ∧ (lvJ O it = 0 → ∀ i ∈ src.pins, VV O W base r i)
  | .seq e, S, r, ρ, g, g', t, ok, E, B, h => by
    rw [tevi] at h
    obtain ⟨x, g1, h1, h⟩ := tb_eq h
    obtain ⟨h3, h4⟩ := tof_eq h
    cases h4
    rw [okI] at ok
    rw [evi, sat_bind]
    refine (tev_ok hG hF e ok E B h1).mono fun v S1 ⟨u1, B1, d1, e1, f1, r1, l1⟩ => ?_
    obtain ⟨src, xs, s1, s2, s3, s4⟩ := tsrc_ok (d1.els E.n0) h3
    rw [s1]
    refine ⟨u1, B1, xs, s2, fun i hi => (s4 i hi).2, s3, fun z => ?_, fun z i hi => ?_⟩
    · obtain ⟨src', xs', s1', s2', s3', s4'⟩ := tsrc_ok (e1 z) h3
      rw [s1] at s1'
      cases s1'
      have : xs = xs' := by
        apply List.ext_getElem?
        intro k
        have a := s2.2 S1 (fun _ _ => rfl) k
        have b := s2'.2 S1 (fun _ _ => rfl) k
        rw [a] at b
        exact Option.some.inj b
      rw [this]; exact s3'
    · have d := f1 z
      rw [(s4 i hi).1] at d
      cases d with
      | lst w _ _ => exact w
      | dct w _ _ => exact w
      | bag => exact ((s4 _ hi).2 rfl).elim
  | .range1 a, S, r, ρ, g, g', t, ok, E, B, h => by
    rw [tevi] at h
    obtain ⟨x, g1, h1, h⟩ := tb_eq h
    obtain ⟨h3, h4⟩ := tof_eq h
    cases h4
    rw [okI] at ok
    rw [evi, sat_bind, sat_bind]
    refine (tev_ok hG hF a ok E B h1).mono fun v S1 ⟨u1, B1, d1, e1, f1, r1, l1⟩ => ?_
    simp only [Rs.bind_ok, Sat.ok]
    obtain ⟨src, xs, s1, s2, s3, s4⟩ := trange_ok (.cons d1 .nil : Dens (V0 W base) β S1 [v] [x]) h3
    rw [s1]
    have np : ∀ {P : Nat → Prop}, ∀ i ∈ src.pins, P i := fun i hi => by rw [s4] at hi; cases hi
    have hx : ∀ {V : Nat → Prop}, Dens V β S1 xs t := fun {V} => by
      cases d1 <;> first | (exfalso; simp [trangeOf] at h3; done) | skip
      obtain ⟨src', xs', s1', s2', s3', s4'⟩ := trange_ok (.cons (.int _) .nil : Dens V β S1 [.int _] [.int _]) h3
      rw [s1] at s1'
      cases s1'
      have : xs = xs' := by
        apply List.ext_getElem?
        intro k
        have a := s2.2 S1 (fun _ _ => rfl) k
        have b := s2'.2 S1 (fun _ _ => rfl) k
        rw [a] at b
        exact Option.some.inj b
      rw [this]; exact s3'
    exact ⟨u1, B1, xs, s2, np, s3, fun _ => hx, fun _ => np⟩
  | .range2 a b, S, r, ρ, g, g', t, ok, E, B, h => by
    rw [tevi] at h
    obtain ⟨x, g1, h1, h⟩ := tb_eq h
    obtain ⟨y, g2, h2, h⟩ := tb_eq h
    obtain ⟨h3, h4⟩ := tof_eq h
    cases h4
    rw [okI, Bool.and_eq_true] at ok
    rw [evi, sat_bind, sat_bind]
    refine (tev_ok hG hF a ok.1 E B h1).mono fun v S1 ⟨u1, B1, d1, e1, f1, r1, l1⟩ => ?_
    rw [sat_bind, sat_bind]
    refine (tev_ok hG hF b ok.2 (E.up u1) B1 h2).mono fun w S2 ⟨u2, B2, d2, e2, f2, r2, l2⟩ => ?_
    simp only [Rs.bind_ok, Sat.ok]
    have d1 := d1.up u2 E.n0
    obtain ⟨src, xs, s1, s2, s3, s4⟩ := trange_ok (.cons d1 (.cons d2 .nil) : Dens (V0 W base) β S2 [v, w] [x, y]) h3
    rw [s1]
    have np : ∀ {P : Nat → Prop}, ∀ i ∈ src.pins, P i := fun i hi => by rw [s4] at hi; cases hi
    have hx : ∀ {V : Nat → Prop}, Dens V β S2 xs t := fun {V} => by
      cases d1 <;> first | (exfalso; simp [trangeOf] at h3; done) | skip
      cases d2 <;> first | (exfalso; simp [trangeOf] at h3; done) | skip
      obtain ⟨src', xs', s1', s2', s3', s4'⟩ := trange_ok (.cons (.int _) (.cons (.int _) .nil) : Dens V β S2 [.int _, .int _] [.int _, .int _]) h3
      rw [s1] at s1'
      cases s1'
      have : xs = xs' := by
        apply List.ext_getElem?
        intro k
        have a := s2.2 S2 (fun _ _ => rfl) k
        have b := s2'.2 S2 (fun _ _ => rfl) k
        rw [a] at b
        exact Option.some.inj b
      rw [this]; exact s3'
    exact ⟨u1.trans u2, B2, xs, s2, np, s3, fun _ => hx, fun _ => np⟩
  | .zip a b, S, r, ρ, g, g', t, ok, E, B, h => by
    rw [tevi] at h
    obtain ⟨x, g1, h1, h⟩ := tb_eq h
    obtain ⟨y, g2, h2, h⟩ := tb_eq h
    obtain ⟨h3, h4⟩ := tof_eq h
    cases h4
    rw [okI, Bool.and_eq_true] at ok
    rw [evi, sat_bind]
    refine (tev_ok hG hF a ok.1 E B h1).mono fun v S1 ⟨u1, B1, d1, e1, f1, r1, l1⟩ => ?_
    rw [sat_bind]
    refine (tev_ok hG hF b ok.2 (E.up u1) B1 h2).mono fun w S2 ⟨u2, B2, d2, e2, f2, r2, l2⟩ => ?_
    have d1 := d1.up u2 E.n0
    obtain ⟨sa, sb, xs, s1, s2, s3, s4, s5, s6⟩ := tzip_ok (d1.els E.n0) (d2.els E.n0) h3
    rw [s1, s2]
    simp only [s3, if_true]
    refine ⟨u1.trans u2, B2, xs, s4, fun i hi => (s6 i hi).2, s5, fun z => ?_, fun z i hi => ?_⟩
    · have k := lv_if (p := lvE O a ≤ 1 ∧ lvE O b ≤ 1) (n := lvI O (.zip a b)) rfl z
      obtain ⟨sa', sb', xs', s1', s2', s3', s4', s5', s6'⟩ := tzip_ok ((e1 k.1).mono u2 E.nV) (e2 k.2) h3
      rw [s1] at s1'; cases s1'
      rw [s2] at s2'; cases s2'
      have : xs = xs' := by
        apply List.ext_getElem?
        intro k
        have a := s4.2 S2 (fun _ _ => rfl) k
        have b := s4'.2 S2 (fun _ _ => rfl) k
        rw [a] at b
        exact Option.some.inj b
      rw [this]; exact s5'
    · rw [lvJ] at z
      obtain ⟨hx, hb⟩ := s6 i hi
      rcases hx with rfl | rfl
      · have d := (f1 (by omega)).up u2 E.nV
        cases d with
        | lst w _ _ => exact w
        | dct w _ _ => exact w
        | bag => exact (hb rfl).elim
      · have d := f2 (by omega)
        cases d with
        | lst w _ _ => exact w
        | dct w _ _ => exact w
        | bag => exact (hb rfl).elim
  | .enum a, S, r, ρ, g, g', t, ok, E, B, h => by
    rw [tevi] at h
    obtain ⟨x, g1, h1, h⟩ := tb_eq h
    obtain ⟨h3, h4⟩ := tof_eq h
    cases h4
    rw [okI] at ok
    rw [evi, sat_bind]
    refine (tev_ok hG hF a ok E B h1).mono fun v S1 ⟨u1, B1, d1, e1, f1, r1, l1⟩ => ?_
    obtain ⟨sa, xs, s1, s2, s3, s4, s5⟩ := tenum_ok (d1.els E.n0) h3
    rw [s1]
    simp only [s2, if_true]
    refine ⟨u1, B1, xs, s3, fun i hi => (s5 i hi).2, s4, fun z => ?_, fun z i hi => ?_⟩
    · have k := lv_if (p := lvE O a ≤ 1) (n := lvI O (.enum a)) rfl z
      obtain ⟨sa', xs', s1', s2', s3', s4', s5'⟩ := tenum_ok (e1 k) h3
      rw [s1] at s1'; cases s1'
      have : xs = xs' := by
        apply List.ext_getElem?
        intro k
        have a := s3.2 S1 (fun _ _ => rfl) k
        have b := s3'.2 S1 (fun _ _ => rfl) k
        rw [a] at b
        exact Option.some.inj b
      rw [this]; exact s4'
    · obtain ⟨hx, hb⟩ := s5 i hi
      have d := f1 z
      rw [hx] at d
      cases d with
      | lst w _ _ => exact w
      | dct w _ _ => exact w
      | bag => exact (hb rfl).elim
end
end
end A46
end
section
namespace A46
open PySem (Str PyData)
section
variable {α : Type}
def Ag (i : Nat) (r r' : List α) : Prop := r.length = r'.length ∧ ∀ j, j ≠ i → r[j]? = r'[j]?
theorem Ag.set {i j : Nat} {r r' : List α} {v : α} (h : Ag i r r') : Ag i (r.set j v) (r'.set j v) := by
  refine ⟨by simp [h.1], fun k hk => ?_⟩
  rw [List.getElem?_set, List.getElem?_set, h.1, h.2 k hk]
end
theorem ag_wipe {i : Nat} {r r' : Ev} (h : Ag i r r') : ∀ vs : List Nat, Ag i (wipeE r vs) (wipeE r' vs)
  | [] => h
  | v :: vs => (ag_wipe h vs).set
theorem ag_twipe {i : Nat} {r r' : TEv} (h : Ag i r r') : ∀ vs : List Nat, Ag i (twipe r vs) (twipe r' vs)
  | [] => h
  | v :: vs => (ag_twipe h vs).set
def AgO {α : Type} (i : Nat) : Option (List α) → Option (List α) → Prop
  | none, none => True
  | some a, some b => Ag i a b
  | _, _ => False
theorem ag_bindAll {i : Nat} : ∀ {is : List Nat} {vs : List Val} {r r' : Ev}, Ag i r r' → AgO i (bindAll is vs r) (bindAll is vs r')
  | [], [], _, _, h => h
  | j :: is, v :: vs, _, _, h => ag_bindAll (is := is) (vs := vs) h.set
  | [], _ :: _, _, _, h => trivial
  | _ :: _, [], _, _, h => trivial
theorem ag_tbindAll {i : Nat} : ∀ {is : List Nat} {vs : List Tr} {r r' : TEv}, Ag i r r' → AgO i (tbindAll is vs r) (tbindAll is vs r')
  | [], [], _, _, h => h
  | j :: is, v :: vs, _, _, h => ag_tbindAll (is := is) (vs := vs) h.set
  | [], _ :: _, _, _, h => trivial
  | _ :: _, [], _, _, h => trivial
theorem ag_bind {i : Nat} {t : Tg} {v : Val} {r r' : Ev} (h : Ag i r r') : AgO i (t.bind v r) (t.bind v r') := by
  cases t with
  | nm j => exact h.set
  | tp is => cases v <;> first | trivial | exact ag_bindAll h
theorem ag_tbind {i : Nat} {t : Tg} {v : Tr} {r r' : TEv} (h : Ag i r r') : AgO i (t.tbind v r) (t.tbind v r') := by
  cases t with
  | nm j => exact h.set
  | tp is => cases v <;> first | trivial | exact ag_tbindAll h
section
variable {G : Str → Option Val} {F : Fns} {i : Nat}
mutual
theorem ev_ag : ∀ (e : Ex) {r r' : Ev}, noE i e = true → Ag i r r' → ∀ S, ev G F e r S = ev G F e r' S
  | .var j, r, r', h, a, S => by
    rw [noE] at h
    rw [ev, ev, a.2 j (by simpa using h)]
  | .con v, r, r', h, a, S => by rw [ev, ev]
  | .glo v, r, r', h, a, S => by rw [ev, ev]
  | .bin o x y, r, r', h, a, S => by
    rw [noE, Bool.and_eq_true] at h
    simp only [ev, ev_ag x h.1 a, ev_ag y h.2 a]
  | .neg x, r, r', h, a, S => by
    rw [noE] at h
    simp only [ev, ev_ag x h a]
  | .nt x, r, r', h, a, S => by
    rw [noE] at h
    simp only [ev, ev_ag x h a]
  | .and x y, r, r', h, a, S => by
    rw [noE, Bool.and_eq_true] at h
    simp only [ev, ev_ag x h.1 a, ev_ag y h.2 a]
  | .or x y, r, r', h, a, S => by
    rw [noE, Bool.and_eq_true] at h
    simp only [ev, ev_ag x h.1 a, ev_ag y h.2 a]
  | .cmp o x y, r, r', h, a, S => by
    rw [noE, Bool.and_eq_true] at h
    simp only [ev, ev_ag x h.1 a, ev_ag y h.2 a]
  | .isn n x, r, r', h, a, S => by
    rw [noE] at h
    simp only [ev, ev_ag x h a]
  | .chain o p x y z, r, r', h, a, S => by
    rw [noE, Bool.and_eq_true, Bool.and_eq_true] at h
    simp only [ev, ev_ag x h.1.1 a, ev_ag y h.1.2 a, ev_ag z h.2 a]
  | .ite x y z, r, r', h, a, S => by
    rw [noE, Bool.and_eq_true, Bool.and_eq_true] at h
    simp only [ev, ev_ag x h.1.1 a, ev_ag y h.1.2 a, ev_ag z h.2 a]
  | .tup es, r, r', h, a, S => by
    rw [noE] at h
    simp only [ev, evs_ag es h a]
  | .lst es, r, r', h, a, S => by
    rw [noE] at h
    simp only [ev, evs_ag es h a]
  | .idx x y, r, r', h, a, S => by
    rw [noE, Bool.and_eq_true] at h
    simp only [ev, ev_ag x h.1 a, ev_ag y h.2 a]
  | .sl x lo hi, r, r', h, a, S => by
    rw [noE, Bool.and_eq_true, Bool.and_eq_true] at h
    simp only [ev, ev_ag x h.1.1 a, evo_ag lo h.1.2 a, evo_ag hi h.2 a]
  | .call f es, r, r', h, a, S => by
    rw [noE] at h
    simp only [ev, evs_ag es h a]
  | .bi b es, r, r', h, a, S => by
    rw [noE] at h
    simp only [ev, evs_ag es h a]
  | .me m o es, r, r', h, a, S => by
    rw [noE, Bool.and_eq_true] at h
    simp only [ev, ev_ag o h.1 a, evs_ag es h.2 a]
  | .lc it t c e vs, r, r', h, a, S => by
    rw [noE, Bool.and_eq_true, Bool.and_eq_true] at h
    simp only [ev, evi_ag it h.1.1 a]
    congr 1
    funext src S1
    congr 1
    apply congrArg (fun step => turns src step (src.size S1) 0 S1)
    funext x S2
    have q := ag_bind (t := t) (v := x) (ag_wipe a vs)
    cases e1 : t.bind x (wipeE r vs) with
    | none =>
      cases e2 : t.bind x (wipeE r' vs) with
      | none => rfl
      | some b => rw [e1, e2] at q; exact q.elim
    | some b =>
      cases e2 : t.bind x (wipeE r' vs) with
      | none => rw [e1, e2] at q; exact q.elim
      | some b' =>
        rw [e1, e2] at q
        simp only [evc_ag c h.1.2 q, ev_ag e h.2 q]
theorem evs_ag : ∀ (es : Exs) {r r' : Ev}, nos i es = true → Ag i r r' → ∀ S, evs G F es r S = evs G F es r' S
  | .nil, r, r', h, a, S => by rw [evs, evs]
  | .cons e es, r, r', h, a, S => by
    rw [nos, Bool.and_eq_true] at h
    simp only [evs, ev_ag e h.1 a, evs_ag es h.2 a]
  | .star e es, r, r', h, a, S => by
    rw [nos, Bool.and_eq_true] at h
    simp only [evs, ev_ag e h.1 a, evs_ag es h.2 a]
theorem evo_ag : ∀ (o : Exo) {r r' : Ev}, noO i o = true → Ag i r r' → ∀ S, evo G F o r S = evo G F o r' S
  | .none, r, r', h, a, S => by rw [evo, evo]
  | .some e, r, r', h, a, S => by
    rw [noO] at h
    simp only [evo, ev_ag e h a]
theorem evc_ag : ∀ (o : Exo) {r r' : Ev}, noO i o = true → Ag i r r' → ∀ S, evc G F o r S = evc G F o r' S
  | .none, r, r', h, a, S => by rw [evc, evc]
  | .some e, r, r', h, a, S => by
    rw [noO] at h
    simp only [evc, ev_ag e h a]
theorem evi_ag : ∀ (o : Itr) {r r' : Ev}, noI i o = true → Ag i r r' → ∀ S, evi G F o r S = evi G F o r' S
  | .seq e, r, r', h, a, S => by
    rw [noI] at h
    simp only [evi, ev_ag e h a]
  | .range1 e, r, r', h, a, S => by
    rw [noI] at h
    simp only [evi, ev_ag e h a]
  | .range2 x y, r, r', h, a, S => by
    rw [noI, Bool.and_eq_true] at h
    simp only [evi, ev_ag x h.1 a, ev_ag y h.2 a]
  | .zip x y, r, r', h, a, S => by
    rw [noI, Bool.and_eq_true] at h
    simp only [evi, ev_ag x h.1 a, ev_ag y h.2 a]
  | .enum e, r, r', h, a, S => by
    rw [noI] at h
    simp only [evi, ev_ag e h a]
end
end
section
variable {G : Str → Option Tr} {F : TF} {i : Nat}
mutual
theorem tev_ag : ∀ (e : Ex) {r r' : TEv}, noE i e = true → Ag i r r' → ∀ S, tev G F e r S = tev G F e r' S
  | .var j, r, r', h, a, S => by
    rw [noE] at h
    rw [tev, tev, a.2 j (by simpa using h)]
  | .con v, r, r', h, a, S => by rw [tev, tev]
  | .glo v, r, r', h, a, S => by rw [tev, tev]
  | .bin o x y, r, r', h, a, S => by
    rw [noE, Bool.and_eq_true] at h
    simp only [tev, tev_ag x h.1 a, tev_ag y h.2 a]
  | .neg x, r, r', h, a, S => by
    rw [noE] at h
    simp only [tev, tev_ag x h a]
  | .nt x, r, r', h, a, S => by
    rw [noE] at h
    simp only [tev, tev_ag x h a]
  | .and x y, r, r', h, a, S => by
    rw [noE, Bool.and_eq_true] at h
    simp only [tev, tev_ag x h.1 a, tev_ag y h.2 a]
  | .or x y, r, r', h, a, S => by
    rw [noE, Bool.and_eq_true] at h
    simp only [tev, tev_ag x h.1 a, tev_ag y h.2 a]
  | .cmp o x y, r, r', h, a, S => by
    rw [noE, Bool.and_eq_true] at h
    simp only [tev, tev_ag x h.1 a, tev_ag y h.2 a]
  | .isn n x, r, r', h, a, S => by
    rw [noE] at h
    simp only [tev, tev_ag x h a]
  | .chain o p x y z, r, r', h, a, S => by
    rw [noE, Bool.and_eq_true, Bool.and_eq_true] at h
    simp only [tev, tev_ag x h.1.1 a, tev_ag y h.1.2 a, tev_ag z h.2 a]
  | .ite x y z, r, r', h, a, S => by
    rw [noE, Bool.and_eq_true, Bool.and_eq_true] at h
    simp only [tev, tev_ag x h.1.1 a, tev_ag y h.1.2 a, tev_ag z h.2 a]
  | .tup es, r, r', h, a, S => by
    rw [noE] at h
    simp only [tev, tevs_ag es h a]
  | .lst es, r, r', h, a, S => by
    rw [noE] at h
    simp only [tev, tevs_ag es h a]
  | .idx x y, r, r', h, a, S => by
    rw [noE, Bool.and_eq_true] at h
    simp only [tev, tev_ag x h.1 a, tev_ag y h.2 a]
  | .sl x lo hi, r, r', h, a, S => by
    rw [noE, Bool.and_eq_true, Bool.and_eq_true] at h
    simp only [tev, tev_ag x h.1.1 a, tevo_ag lo h.1.2 a, tevo_ag hi h.2 a]
  | .call f es, r, r', h, a, S => by
    rw [noE] at h
    simp only [tev, tevs_ag es h a]
  | .bi b es, r, r', h, a, S => by
    rw [noE] at h
    simp only [tev, tevs_ag es h a]
  | .me m o es, r, r', h, a, S => by
    rw [noE, Bool.and_eq_true] at h
    simp only [tev, tev_ag o h.1 a, tevs_ag es h.2 a]
  | .lc it t c e vs, r, r', h, a, S => by
    rw [noE, Bool.and_eq_true, Bool.and_eq_true] at h
    simp only [tev, tevi_ag it h.1.1 a]
    congr 1
    funext src S1
    congr 1
    apply congrArg (fun step => tturns step src S1)
    funext x S2
    have q := ag_tbind (t := t) (v := x) (ag_twipe a vs)
    cases e1 : t.tbind x (twipe r vs) with
    | none =>
      cases e2 : t.tbind x (twipe r' vs) with
      | none => rfl
      | some b => rw [e1, e2] at q; exact q.elim
    | some b =>
      cases e2 : t.tbind x (twipe r' vs) with
      | none => rw [e1, e2] at q; exact q.elim
      | some b' =>
        rw [e1, e2] at q
        simp only [tevc_ag c h.1.2 q, tev_ag e h.2 q]
theorem tevs_ag : ∀ (es : Exs) {r r' : TEv}, nos i es = true → Ag i r r' → ∀ S, tevs G F es r S = tevs G F es r' S
  | .nil, r, r', h, a, S => by rw [tevs, tevs]
  | .cons e es, r, r', h, a, S => by
    rw [nos, Bool.and_eq_true] at h
    simp only [tevs, tev_ag e h.1 a, tevs_ag es h.2 a]
  | .star e es, r, r', h, a, S => by
    rw [nos, Bool.and_eq_true] at h
    simp only [tevs, tev_ag e h.1 a, tevs_ag es h.2 a]
theorem tevo_ag : ∀ (o : Exo) {r r' : TEv}, noO i o = true → Ag i r r' → ∀ S, tevo G F o r S = tevo G F o r' S
  | .none, r, r', h, a, S => by rw [tevo, tevo]
  | .some e, r, r', h, a, S => by
    rw [noO] at h
    simp only [tevo, tev_ag e h a]
theorem tevc_ag : ∀ (o : Exo) {r r' : TEv}, noO i o = true → Ag i r r' → ∀ S, tevc G F o r S = tevc G F o r' S
  | .none, r, r', h, a, S => by rw [tevc, tevc]
  | .some e, r, r', h, a, S => by
    rw [noO] at h
    simp only [tevc, tev_ag e h a]
theorem tevi_ag : ∀ (o : Itr) {r r' : TEv}, noI i o = true → Ag i r r' → ∀ S, tevi G F o r S = tevi G F o r' S
  | .seq e, r, r', h, a, S => by
    rw [noI] at h
    simp only [tevi, tev_ag e h a]
  | .range1 e, r, r', h, a, S => by
    rw [noI] at h
    simp only [tevi, tev_ag e h a]
  | .range2 x y, r, r', h, a, S => by
    rw [noI, Bool.and_eq_true] at h
    simp only [tevi, tev_ag x h.1 a, tev_ag y h.2 a]
  | .zip x y, r, r', h, a, S => by
    rw [noI, Bool.and_eq_true] at h
    simp only [tevi, tev_ag x h.1 a, tev_ag y h.2 a]
  | .enum e, r, r', h, a, S => by
    rw [noI] at h
    simp only [tevi, tev_ag e h a]
end
end
section
variable {V : Nat → Prop} {β : Nat} {S : Sto}
mutual
theorem den_det (nb : ¬ V β) : ∀ {v : Val} {t t' : Tr}, Den V β S v t → Den V β S v t' → t = t'
  | _, _, _, .non, h => by cases h; rfl
  | _, _, _, .bl b, h => by cases h; rfl
  | _, _, _, .int b, h => by cases h; rfl
  | _, _, _, .str b, h => by cases h; rfl
  | _, _, _, .tup q, h => by cases h with | tup q' => rw [dens_det nb q q']
  | _, _, _, .lst w e q, h => by
    cases h with
    | lst w' e' q' => rw [e] at e'; cases e'; rw [dens_det nb q q']
    | dct w' e' q' => rw [e] at e'; cases e'
    | bag => exact (nb w).elim
  | _, _, _, .dct w e q, h => by
    cases h with
    | lst w' e' q' => rw [e] at e'; cases e'
    | dct w' e' q' => rw [e] at e'; cases e'; rw [denk_det nb q q']
    | bag => exact (nb w).elim
  | _, _, _, .bag, h => by
    cases h with
    | lst w' e' q' => exact (nb w').elim
    | dct w' e' q' => exact (nb w').elim
    | bag => rfl
  | _, _, _, .ty n, h => by cases h; rfl
theorem dens_det (nb : ¬ V β) : ∀ {v : List Val} {t t' : List Tr}, Dens V β S v t → Dens V β S v t' → t = t'
  | _, _, _, .nil, h => by cases h; rfl
  | _, _, _, .cons p q, h => by cases h with | cons p' q' => rw [den_det nb p p', dens_det nb q q']
theorem denk_det (nb : ¬ V β) : ∀ {v : List (KeyV × Val)} {t t' : List (KeyV × Tr)}, Denk V β S v t → Denk V β S v t' → t = t'
  | _, _, _, .nil, h => by cases h; rfl
  | _, _, _, .cons p q, h => by cases h with | cons p' q' => rw [den_det nb p p', denk_det nb q q']
end
mutual
theorem den_avoid {k : Nat} : ∀ {v : Val} {t : Tr}, (∀ t', Den V β S (.ref k) t' → sizeOf t < sizeOf t') → Den V β S v t → Den (fun i => V i ∧ i ≠ k) β S v t
  | _, _, _, .non => .non
  | _, _, _, .bl b => .bl b
  | _, _, _, .int b => .int b
  | _, _, _, .str b => .str b
  | _, .tup ts, h, .tup q => .tup (dens_avoid (fun t' d => by have := h t' d; simp at this ⊢; omega) q)
  | _, .lst ts, h, .lst (i := i) w e q => by
    by_cases hi : i = k
    · subst hi
      have := h _ (.lst w e q)
      omega
    · exact .lst ⟨w, hi⟩ e (dens_avoid (fun t' d => by have := h t' d; simp at this ⊢; omega) q)
  | _, .dct us, h, .dct (i := i) w e q => by
    by_cases hi : i = k
    · subst hi
      have := h _ (.dct w e q)
      omega
    · exact .dct ⟨w, hi⟩ e (denk_avoid (fun t' d => by have := h t' d; simp at this ⊢; omega) q)
  | _, _, _, .bag => .bag
  | _, _, _, .ty n => .ty n
theorem dens_avoid {k : Nat} : ∀ {v : List Val} {t : List Tr}, (∀ t', Den V β S (.ref k) t' → sizeOf t < sizeOf t') → Dens V β S v t → Dens (fun i => V i ∧ i ≠ k) β S v t
  | _, _, _, .nil => .nil
  | _, _, h, .cons p q => .cons (den_avoid (fun t' d => by have := h t' d; simp at this ⊢; omega) p) (dens_avoid (fun t' d => by have := h t' d; simp at this ⊢; omega) q)
theorem denk_avoid {k : Nat} : ∀ {v : List (KeyV × Val)} {t : List (KeyV × Tr)}, (∀ t', Den V β S (.ref k) t' → sizeOf t < sizeOf t') → Denk V β S v t → Denk (fun i => V i ∧ i ≠ k) β S v t
  | _, _, _, .nil => .nil
  | _, _, h, .cons p q => .cons (den_avoid (fun t' d => by have := h t' d; simp at this ⊢; omega) p) (denk_avoid (fun t' d => by have := h t' d; simp at this ⊢; omega) q)
end
theorem den_items (nb : ¬ V β) {k : Nat} {ts : List Tr} (h : Den V β S (.ref k) (.lst ts)) : ∃ xs, S[k]? = some (.lst xs) ∧ Dens (fun i => V i ∧ i ≠ k) β S xs ts := by
  have h0 := h
  cases h with
  | lst w e q =>
    refine ⟨_, e, dens_avoid (fun t' d => ?_) q⟩
    rw [den_det nb d h0]
    simp
end
end A46
end
section
namespace A46
open PySem (Str PyData)
section
variable (β c : Nat) (O : List Nat) (W : Nat → Prop) (base : Nat)
def Pers (r : Ev) (S : Sto) (r' : Ev) (S' : Sto) : Prop := ∀ i, VV O W base r i → i < S.length → VV O W base r' i ∧ S'[i]? = S[i]?
def Fm (S S' : Sto) : Prop := S.length ≤ S'.length ∧ ∀ j, j < base → j ≠ β → S'[j]? = S[j]?
def PostS (fz : Bool) (S : Sto) (r : Ev) (fl : TFl) (ρ' : TEv) (g' : Bg) (q : Fl × Ev) (S' : Sto) : Prop :=
  Fm β base S S' ∧ BagR β c g' S' ∧ match fl, q.1 with
    | .nx, .nx => ER β c O W base S' q.2 ρ' ∧ Pers O W base r S q.2 S'
    | .rt t, .rt v => Den (V0 W base) β S' v t ∧ (fz = true → (∃ k, v = .ref k ∧ base ≤ k) ∧ ∃ us, t = .lst us)
    | _, _ => False
end
section
variable {β c : Nat} {FR : List Str} {O : List Nat} {W : Nat → Prop} {base : Nat}
section
variable {S S' S1 S2 : Sto} {r r1 r2 : Ev} {ρ : TEv} {g : Bg}
theorem Fm.refl : Fm β base S S := ⟨Nat.le_refl _, fun _ _ _ => rfl⟩
theorem Fm.trans (h : Fm β base S S1) (k : Fm β base S1 S2) : Fm β base S S2 := ⟨Nat.le_trans h.1 k.1, fun j a b => (k.2 j a b).trans (h.2 j a b)⟩
theorem Pers.refl : Pers O W base r S r S := fun _ h _ => ⟨h, rfl⟩
theorem Pers.trans (hl : S.length ≤ S1.length) (h : Pers O W base r S r1 S1) (k : Pers O W base r1 S1 r2 S2) : Pers O W base r S r2 S2 := fun i a b => by
  obtain ⟨h1, h2⟩ := h i a b
  obtain ⟨k1, k2⟩ := k i h1 (by omega)
  exact ⟨k1, k2.trans h2⟩
theorem fm_up (E : ER β c O W base S r ρ) (u : Up [β] S S1) : Fm β base S S1 := ⟨u.1, fun j hj hb => u.2 j (by have := E.bs; omega) fun z => hb (List.mem_singleton.mp z)⟩
theorem pers_up (E : ER β c O W base S r ρ) (u : Up [β] S S1) : Pers O W base r S r S1 := fun i hi hl => ⟨hi, u.2 i hl fun z => E.nV (by rw [List.mem_singleton] at z; exact z ▸ hi)⟩
theorem pers_eq (E : ER β c O W base S r ρ) (u : Up [β] S S1) (e : VV O W base r1 = VV O W base r) : Pers O W base r S r1 S1 := fun i hi hl => by
  rw [e]; exact pers_up E u i hi hl
theorem BagR.fm {b : Nat} (h : BagR β c g S) (hb : β ≠ b) (hc : c ≠ b) {o : Ob} : BagR β c g (S.set b o) := ⟨by rw [List.getElem?_set_ne (Ne.symm hb)]; exact h.1, by rw [List.getElem?_set_ne (Ne.symm hc)]; exact h.2.1, h.2.2⟩
/-- an owned name gets a new list -/
theorem ER.setO (E : ER β c O W base S r ρ) (u : Up [β] S S1) {i k : Nat} {xs : List Val} {ts : List Tr} (hi : inO O i = true) (hk : S.length ≤ k) (e : S1[k]? = some (.lst xs)) (d : Dens (fun j => VV O W base r j ∧ j ≠ k) β S1 xs ts) :
    ER β c O W base S1 (r.set i (some (.ref k))) (ρ.set i (some (.lst ts))) ∧ Pers O W base r S (r.set i (some (.ref k))) S1 := by
  have vk : ∀ j, VV O W base r j → j ≠ k → VV O W base (r.set i (some (.ref k))) j := fun j hj hne => ⟨hj.1, fun o ho z => by
    rw [List.getElem?_set] at z
    split at z
    · split at z
      · cases z; exact hne rfl
      · cases z
    · exact hj.2 o ho z⟩
  have ps : Pers O W base r S (r.set i (some (.ref k))) S1 := fun j hj hl => ⟨vk j hj (by omega), (pers_up E u j hj hl).2⟩
  have lt : ∀ {j b}, inO O j = true → r[j]? = some (some (.ref b)) → b < S.length := fun hj h => (E.ownlt hj h).2
  refine ⟨⟨by simp [E.len], Nat.le_trans E.bs u.1, E.hβ, E.hc, E.nW, fun j t hj h => ?_, fun j t hj h => ?_, fun j hj h => ?_, fun j j' b hj hj' h h' => ?_⟩, ps⟩
  · have ne : i ≠ j := fun z => by rw [← z, hi] at hj; cases hj
    rw [List.getElem?_set_ne ne] at h ⊢
    obtain ⟨v, h1, h2⟩ := E.free j t hj h
    exact ⟨v, h1, h2.mono ps⟩
  · by_cases ne : i = j
    · subst ne
      have hl : i < ρ.length := by have := (List.getElem?_eq_some_iff.mp h).1; simpa using this
      rw [List.getElem?_set_self hl] at h
      cases h
      refine ⟨k, xs, ts, List.getElem?_set_self (by rw [E.len]; exact hl), Nat.le_trans E.bs hk, e, rfl, d.mono fun j hj _ => ⟨vk j hj.1 hj.2, rfl⟩⟩
    · rw [List.getElem?_set_ne ne] at h ⊢
      obtain ⟨b, ys, us, h1, h2, h3, h4, h5⟩ := E.own j t hj h
      refine ⟨b, ys, us, h1, h2, u.at_ h3 fun z => ?_, h4, h5.mono ps⟩
      have := E.hβ
      rw [List.mem_singleton] at z
      omega
  · have ne : i ≠ j := fun z => by
      subst z
      have hl : i < ρ.length := by have := (List.getElem?_eq_some_iff.mp h).1; simpa using this
      rw [List.getElem?_set_self hl] at h
      cases h
    rw [List.getElem?_set_ne ne] at h ⊢
    exact E.own0 j hj h
  · rw [List.getElem?_set] at h h'
    split at h
    · split at h
      · cases h
        split at h'
        · omega
        · have := lt hj' h'; omega
      · cases h
    · split at h'
      · split at h'
        · cases h'
          have := lt hj h; omega
        · cases h'
      · exact E.inj j j' b hj hj' h h'
/-- an owned list is changed -/
theorem ER.mut (E : ER β c O W base S r ρ) {j k : Nat} {xs xs' : List Val} {ts' : List Tr} (hj : inO O j = true) (e : r[j]? = some (some (.ref k))) (h : S[k]? = some (.lst xs)) (d : Dens (VV O W base r) β S xs' ts') :
    ER β c O W base (S.set k (.lst xs')) r (ρ.set j (some (.lst ts'))) ∧ Pers O W base r S r (S.set k (.lst xs')) ∧ Fm β base S (S.set k (.lst xs')) ∧ (BagR β c g S → BagR β c g (S.set k (.lst xs'))) := by
  have lk := E.ownlt hj e
  have hb := E.hβ
  have hc := E.hc
  have ps : Pers O W base r S r (S.set k (.lst xs')) := fun i hi hl => ⟨hi, List.getElem?_set_ne fun z => hi.2 j hj (by rw [e, z])⟩
  refine ⟨⟨by simp [E.len], by simpa using E.bs, E.hβ, E.hc, E.nW, fun i t hi h => ?_, fun i t hi q => ?_, fun i hi q => ?_, E.inj⟩, ps, ⟨by simp, fun i hi _ => List.getElem?_set_ne (by omega)⟩, fun B => B.fm (by omega) (by omega)⟩
  · have ne : j ≠ i := fun z => by rw [← z, hj] at hi; cases hi
    rw [List.getElem?_set_ne ne] at h
    obtain ⟨v, h1, h2⟩ := E.free i t hi h
    exact ⟨v, h1, h2.mono ps⟩
  · by_cases ne : j = i
    · subst ne
      have hl : j < ρ.length := by have := (List.getElem?_eq_some_iff.mp q).1; simpa using this
      rw [List.getElem?_set_self hl] at q
      cases q
      exact ⟨k, xs', ts', e, lk.1, List.getElem?_set_self lk.2, rfl, d.mono ps⟩
    · rw [List.getElem?_set_ne ne] at q
      obtain ⟨b, ys, us, h1, h2, h3, h4, h5⟩ := E.own i t hi q
      refine ⟨b, ys, us, h1, h2, ?_, h4, h5.mono ps⟩
      rw [List.getElem?_set_ne]
      · exact h3
      · rintro rfl
        exact ne (E.inj j i k hj hi e h1)
  · have ne : j ≠ i := fun z => by
      subst z
      have hl : j < ρ.length := by have := (List.getElem?_eq_some_iff.mp q).1; simpa using this
      rw [List.getElem?_set_self hl] at q
      cases q
    rw [List.getElem?_set_ne ne] at q
    exact E.own0 i hi q
end
variable {G : Str → Option Val} {GT : Str → Option Tr} {F : Fns} {FT : TF} {fuel : Nat} {fz : Bool}
/-- one name -/
theorem asg1 (hG : GOk β G GT) (hF : FOk β c FR F FT) {i : Nat} {e : Ex} {S : Sto} {r : Ev} {ρ : TEv} {g g' : Bg} {t : Tr} (ok : okE O e = true) (l0 : lvE O e = 0) (fr : inO O i = true → frE FR O e = true) (E : ER β c O W base S r ρ) (B : BagR β c g S) (h : tev GT FT e ρ g = some (t, g')) :
    Sat (ev G F e r S) fun v S' => Up [β] S S' ∧ BagR β c g' S' ∧ ER β c O W base S' (r.set i (some v)) (ρ.set i (some t)) ∧ Pers O W base r S (r.set i (some v)) S' := by
  refine (tev_ok hG hF e ok E B h).mono fun v S1 ⟨u1, B1, d1, e1, f1, r1, l1⟩ => ⟨u1, B1, ?_⟩
  cases hi : inO O i with
  | false =>
    obtain ⟨E1, e1⟩ := (E.up u1).set hi (f1 l0)
    exact ⟨E1, pers_eq E u1 e1⟩
  | true =>
    obtain ⟨k, rfl, hk⟩ := r1 (fr hi)
    obtain ⟨ts, rfl⟩ := l1 (fr_isL (fr hi))
    obtain ⟨xs, q1, q2⟩ := den_items E.nV (f1 l0)
    exact E.setO u1 hi hk q1 q2
/-- some names at once -/
theorem asgs (hG : GOk β G GT) (hF : FOk β c FR F FT) : ∀ {is : List Nat} {es : Exs} {S : Sto} {r : Ev} {ρ ρ' : TEv} {g g' : Bg} {ts : List Tr}, okB FR O is es = true → ER β c O W base S r ρ → BagR β c g S → tevs GT FT es ρ g = some (ts, g') → tbindAll is ts ρ = some ρ' →
    Sat (evs G F es r S) fun vs S' => Up [β] S S' ∧ BagR β c g' S' ∧ vs.length = ts.length ∧ ∃ r', bindAll is vs r = some r' ∧ ER β c O W base S' r' ρ' ∧ Pers O W base r S r' S'
  | [], .nil, S, r, ρ, ρ', g, g', ts, ok, E, B, h, k => by
    rw [tevs] at h
    cases h
    cases k
    exact ⟨.refl, B, rfl, r, rfl, E, .refl⟩
  | [], .cons _ _, S, r, ρ, ρ', g, g', ts, ok, E, B, h, k => by cases ok
  | [], .star _ _, S, r, ρ, ρ', g, g', ts, ok, E, B, h, k => by cases ok
  | _ :: _, .nil, S, r, ρ, ρ', g, g', ts, ok, E, B, h, k => by cases ok
  | _ :: _, .star _ _, S, r, ρ, ρ', g, g', ts, ok, E, B, h, k => by cases ok
  | i :: is, .cons e es, S, r, ρ, ρ', g, g', ts, ok, E, B, h, k => by
    rw [okB] at ok
    simp only [Bool.and_eq_true, decide_eq_true_eq, Bool.or_eq_true, Bool.not_eq_true'] at ok
    obtain ⟨⟨⟨⟨o1, o2⟩, o3⟩, o4⟩, o5⟩ := ok
    rw [tevs] at h
    obtain ⟨x, g1, h1, h⟩ := tb_eq h
    obtain ⟨xs, g2, h2, h⟩ := tb_eq h
    cases h
    rw [evs, sat_bind]
    refine (asg1 hG hF (i := i) o1 o2 (fun z => by rcases o3 with o3 | o3; rw [z] at o3; cases o3; exact o3) E B h1).mono fun v S1 ⟨u1, B1, E1, p1⟩ => ?_
    have ag : Ag i (r.set i (some v)) r := ⟨by simp, fun j hj => List.getElem?_set_ne (Ne.symm hj)⟩
    have tag : Ag i (ρ.set i (some x)) ρ := ⟨by simp, fun j hj => List.getElem?_set_ne (Ne.symm hj)⟩
    rw [sat_bind, ← evs_ag es o4 ag]
    rw [← tevs_ag es o4 tag] at h2
    refine (asgs hG hF o5 E1 B1 h2 k).mono fun vs S2 ⟨u2, B2, hl, r', b1, E2, p2⟩ => ?_
    exact ⟨u1.trans u2, B2, by simp [hl], r', b1, E2, p1.trans u1.1 p2⟩
theorem isTup_eq {e : Ex} {es : Exs} (h : isTup e = some es) : e = .tup es := by
  cases e <;> first | (exfalso; cases h; done) | (cases h; rfl)
theorem isVar_eq {e : Ex} {j : Nat} (h : isVar e = some j) : e = .var j := by
  cases e <;> first | (exfalso; cases h; done) | (cases h; rfl)
theorem mutE_eq {e : Ex} {m : Me} {j : Nat} {es : Exs} (h : mutE e = some (m, j, es)) : e = .me m (.var j) es ∧ mutM m = true := by
  unfold mutE at h
  split at h
  · split at h
    · rename_i hm
      cases h
      exact ⟨rfl, hm⟩
    · cases h
  · cases h
theorem lvJ_I {it : Itr} (h : lvJ O it = 0) : lvI O it ≤ 1 := by
  cases it with
  | seq e => rw [lvJ] at h; rw [lvI]; omega
  | range1 a => rw [lvI]; omega
  | range2 a b => rw [lvI]; omega
  | zip a b => rw [lvJ] at h; rw [lvI, if_pos ⟨by omega, by omega⟩]; omega
  | enum a => rw [lvJ] at h; rw [lvI, if_pos (by omega)]; omega
/-- the turns of a for -/
theorem loop_ok {src : Src} {step : Val → Ev → Sto → Rs (Fl × Ev)} {tstep : Tr → TEv → Bg → Ts (TFl × TEv)} {xs : List Val}
    (hs : ∀ x tx S r ρ g fl ρ' g', ER β c O W base S r ρ → BagR β c g S → Den (VV O W base r) β S x tx → tstep tx ρ g = some ((fl, ρ'), g') → Sat (step x r S) (PostS β c O W base fz S r fl ρ' g')) :
    ∀ {ts : List Tr} {n k : Nat} {S : Sto} {r : Ev} {ρ ρ' : TEv} {g g' : Bg} {fl : TFl}, SrcAt S src xs → (∀ i ∈ src.pins, VV O W base r i) → Dens (VV O W base r) β S (xs.drop k) ts → k ≤ xs.length → xs.length ≤ n + k → ER β c O W base S r ρ → BagR β c g S →
      tloop tstep ts ρ g = some ((fl, ρ'), g') → Sat (loop src step n k r S) (PostS β c O W base fz S r fl ρ' g')
  | [], n, k, S, r, ρ, ρ', g, g', fl, sa, pv, hd, hk, hn, E, B, h => by
    cases h
    have hx : xs[k]? = none := by
      have := hd.len
      rw [List.length_drop] at this
      simp only [List.length_nil] at this
      rw [List.getElem?_eq_none_iff]
      omega
    rw [loop, sa.2 S (fun _ _ => rfl) k, hx]
    exact ⟨.refl, B, E, .refl⟩
  | t :: ts, n, k, S, r, ρ, ρ', g, g', fl, sa, pv, hd, hk, hn, E, B, h => by
    rw [tloop] at h
    obtain ⟨⟨fl1, ρ1⟩, g1, h1, h⟩ := tb_eq h
    have hl : k < xs.length := by
      have := hd.len
      rw [List.length_drop, List.length_cons] at this
      omega
    have hx : xs[k]? = some xs[k] := List.getElem?_eq_getElem hl
    rw [List.drop_eq_getElem_cons hl] at hd
    cases hd with | cons p q =>
    rw [loop, sa.2 S (fun _ _ => rfl) k, hx]
    cases n with
    | zero => omega
    | succ n =>
      simp only [sat_bind]
      refine (hs _ _ S r ρ g fl1 ρ1 g1 E B p h1).mono fun z S1 hz => ?_
      obtain ⟨f1, B1, hm⟩ := hz
      obtain ⟨fl2, r1⟩ := z
      cases fl1 with
      | rt u =>
        cases h
        cases fl2 with
        | rt v => exact ⟨f1, B1, hm⟩
        | nx => exact hm.elim
      | nx =>
        cases fl2 with
        | rt v => exact hm.elim
        | nx =>
          obtain ⟨E1, p1⟩ := hm
          have sa1 : SrcAt S1 src xs := sa.later f1.1 fun i hi => (p1 i (pv i hi) (sa.1.2 i hi)).2
          refine (loop_ok hs (n := n) (k := k + 1) sa1 (fun i hi => (p1 i (pv i hi) (sa.1.2 i hi)).1) (q.mono p1) (by omega) (by omega) E1 B1 h).mono fun z S2 ⟨f2, B2, hm2⟩ => ?_
          obtain ⟨fl3, r2⟩ := z
          refine ⟨f1.trans f2, B2, ?_⟩
          cases fl with
          | rt u => cases fl3 with
            | rt v => exact hm2
            | nx => exact hm2.elim
          | nx => cases fl3 with
            | rt v => exact hm2.elim
            | nx => exact ⟨hm2.1, p1.trans f1.1 hm2.2⟩
theorem while_ok {cd : Ev → Sto → Rs Bool} {tc : TEv → Bg → Ts Bool} {step : Ev → Sto → Rs (Fl × Ev)} {tstep : TEv → Bg → Ts (TFl × TEv)}
    (hc : ∀ S r ρ g b g', ER β c O W base S r ρ → BagR β c g S → tc ρ g = some (b, g') → Sat (cd r S) fun v S' => Up [β] S S' ∧ BagR β c g' S' ∧ v = b)
    (hs : ∀ S r ρ g fl ρ' g', ER β c O W base S r ρ → BagR β c g S → tstep ρ g = some ((fl, ρ'), g') → Sat (step r S) (PostS β c O W base fz S r fl ρ' g')) :
    ∀ {n : Nat} {S : Sto} {r : Ev} {ρ ρ' : TEv} {g g' : Bg} {fl : TFl}, ER β c O W base S r ρ → BagR β c g S → twhile tc tstep n ρ g = some ((fl, ρ'), g') → Sat (whileL cd step n r S) (PostS β c O W base fz S r fl ρ' g')
  | 0, S, r, ρ, ρ', g, g', fl, E, B, h => by cases h
  | n + 1, S, r, ρ, ρ', g, g', fl, E, B, h => by
    rw [twhile] at h
    obtain ⟨b, g1, h1, h⟩ := tb_eq h
    rw [whileL, sat_bind]
    refine (hc S r ρ g b g1 E B h1).mono fun v S1 ⟨u1, B1, hv⟩ => ?_
    subst hv
    have E1 := E.up u1
    have f1 := fm_up E u1
    have p1 := pers_up E u1
    cases v with
    | false =>
      cases h
      exact ⟨f1, B1, E1, p1⟩
    | true =>
      simp only [if_true] at h ⊢
      obtain ⟨⟨fl1, ρ1⟩, g2, h2, h⟩ := tb_eq h
      rw [sat_bind]
      refine (hs S1 r ρ g1 fl1 ρ1 g2 E1 B1 h2).mono fun z S2 ⟨f2, B2, hm⟩ => ?_
      obtain ⟨fl2, r1⟩ := z
      cases fl1 with
      | rt u =>
        cases h
        cases fl2 with
        | rt v => exact ⟨f1.trans f2, B2, hm⟩
        | nx => exact hm.elim
      | nx =>
        cases fl2 with
        | rt v => exact hm.elim
        | nx =>
          obtain ⟨E2, p2⟩ := hm
          refine (while_ok hc hs E2 B2 h).mono fun z S3 ⟨f3, B3, hm3⟩ => ?_
          obtain ⟨fl3, r2⟩ := z
          refine ⟨(f1.trans f2).trans f3, B3, ?_⟩
          cases fl with
          | rt u => cases fl3 with
            | rt v => exact hm3
            | nx => exact hm3.elim
          | nx => cases fl3 with
            | rt v => exact hm3.elim
            | nx => exact ⟨hm3.1, (p1.trans f1.1 p2).trans (f1.trans f2).1 hm3.2⟩
mutual
theorem tsm_ok (hG : GOk β G GT) (hF : FOk β c FR F FT) : ∀ (s : Sm) {S : Sto} {r : Ev} {ρ ρ' : TEv} {g g' : Bg} {fl : TFl}, okS FR O s = true → (fz = true → frS FR O s = true) → ER β c O W base S r ρ → BagR β c g S → tsm GT FT fuel s ρ g = some ((fl, ρ'), g') →
    Sat (sm G F fuel s r S) (PostS β c O W base fz S r fl ρ' g')
  | .asg (.tg (.nm i)) e, S, r, ρ, ρ', g, g', fl, ok, fr, E, B, h => by
    rw [okS] at ok
    simp only [Bool.and_eq_true, decide_eq_true_eq, Bool.or_eq_true, Bool.not_eq_true'] at ok
    rw [tsm] at h
    obtain ⟨v, g1, h1, h⟩ := tb_eq h
    cases h
    rw [sm, sat_bind]
    refine (asg1 hG hF (i := i) ok.1.1 ok.1.2 (fun z => by rcases ok.2 with o | o; rw [z] at o; cases o; exact o) E B h1).mono fun w S1 ⟨u1, B1, E1, p1⟩ => ?_
    exact ⟨fm_up E u1, B1, E1, p1⟩
  | .asg (.tg (.tp is)) e, S, r, ρ, ρ', g, g', fl, ok, fr, E, B, h => by
    rw [okS] at ok
    rw [Bool.and_eq_true] at ok
    rw [tsm] at h
    obtain ⟨v, g1, h1, h⟩ := tb_eq h
    obtain ⟨ρ1, g2, h2, h⟩ := tb_eq h
    cases h
    rw [tstore] at h2
    obtain ⟨h5, h6⟩ := tof_eq h2
    cases h6
    obtain ⟨ok1, ok2⟩ := ok
    rw [sm, sat_bind]
    split at ok2
    · rename_i hf
      refine (tev_ok hG hF e ok1 E B h1).mono fun w S1 ⟨u1, B1, d1, e1, f1, r1, l1⟩ => ?_
      obtain ⟨r', b1, E2, e2⟩ := (E.up u1).bind (t := .tp is) hf (f1 (by simpa using ok2)) h5
      rw [store, b1]
      exact ⟨fm_up E u1, B1, E2, pers_eq E u1 e2⟩
    · split at ok2
      · rename_i es he
        have he := isTup_eq he
        subst he
        rw [tev] at h1
        obtain ⟨ts, g3, h4, h1⟩ := tb_eq h1
        split at h1
        · rename_i hl
          cases h1
          rw [ev, sat_bind]
          refine (asgs hG hF ok2 E B h4 h5).mono fun vs S1 ⟨u1, B1, hl1, r', b1, E1, p1⟩ => ?_
          rw [if_pos (by rw [hl1]; exact hl)]
          show Sat ((store G F (.tg (.tp is)) (.tup vs) r S1).bind _) _
          rw [store]
          show Sat ((Rs.of (bindAll is vs r) S1).bind _) _
          rw [b1]
          exact ⟨fm_up E u1, B1, E1, p1⟩
        · cases h1
      · cases ok2
  | .asg (.sub o i) e, S, r, ρ, ρ', g, g', fl, ok, fr, E, B, h => by
    rw [okS] at ok
    split at ok
    · rename_i j hj
      have hj := isVar_eq hj
      subst hj
      simp only [Bool.and_eq_true, decide_eq_true_eq] at ok
      obtain ⟨⟨⟨o1, o2⟩, o3⟩, o4⟩ := ok
      rw [tsm] at h
      obtain ⟨v, g1, h1, h⟩ := tb_eq h
      obtain ⟨ρ1, g2, h2, h⟩ := tb_eq h
      cases h
      rw [tstore] at h2
      obtain ⟨y, g3, h3, h2⟩ := tb_eq h2
      rw [sm, sat_bind]
      refine (tev_ok hG hF e o3 E B h1).mono fun w S1 ⟨u1, B1, d1, e1, f1, r1, l1⟩ => ?_
      have E1 := E.up u1
      split at h2
      · rename_i ts k hρ
        obtain ⟨a, xs, us, q1, q2, q3, q4, q5⟩ := E1.own j _ o1 hρ
        cases q4
        split at h2
        · rename_i p hp
          cases h2
          rw [sat_bind, store, sat_bind, ev, q1, Sat.ok, sat_bind]
          refine (tev_ok hG hF i o2 E1 B1 h3).mono fun y' S2 ⟨u2, B2, d2, e2, f2, r2, l2⟩ => ?_
          cases d2
          have E2 := E1.up u2
          obtain ⟨a', xs', us', q1', q2', q3', q4', q5'⟩ := E2.own j _ o1 hρ
          cases q4'
          rw [q1] at q1'
          cases q1'
          have m := E2.mut (g := g') o1 q1 q3' (q5'.set ((f1 o4).up u2 E.nV) p)
          have hs : setItem (.ref a) (.int k) w S2 = some (S2.set a (.lst (xs'.set p w))) := by
            unfold setItem
            simp only [q3']
            rw [q5'.len, hp]
            rfl
          rw [hs]
          have u12 := u1.trans u2
          exact ⟨(fm_up E u12).trans m.2.2.1, m.2.2.2 B2, m.1, (pers_up E u12).trans u12.1 m.2.1⟩
        · cases h2
      · cases h2
    · cases ok
  | .aug _ _ _ _, S, r, ρ, ρ', g, g', fl, ok, fr, E, B, h => by rw [okS] at ok; cases ok
  | .augN i b e, S, r, ρ, ρ', g, g', fl, ok, fr, E, B, h => by
    rw [okS, Bool.and_eq_true, Bool.not_eq_true'] at ok
    rw [tsm] at h
    split at h
    · rename_i u hu
      obtain ⟨v, g1, h1, h⟩ := tb_eq h
      split at h
      · rename_i z hz
        cases h
        obtain ⟨x, q1, q2, q3, q4, q5⟩ := E.val hu
        rw [sm, q1]
        simp only
        rw [sat_bind]
        refine (tev_ok hG hF e ok.2 E B h1).mono fun w S1 ⟨u1, B1, d1, e1, f1, r1, l1⟩ => ?_
        have ha : ∃ y, augI b x w = some y ∧ ∀ W S, Den W β S y z := by
          unfold taugI at hz
          split at hz
          · cases q2; cases d1; cases hz; exact ⟨_, rfl, fun _ _ => .int _⟩
          · cases q2; cases d1; cases hz; exact ⟨_, rfl, fun _ _ => .int _⟩
          · cases hz
        obtain ⟨y, a1, a2⟩ := ha
        rw [a1]
        obtain ⟨E1, e1⟩ := (E.up u1).set (i := i) ok.1 (a2 _ _)
        exact ⟨fm_up E u1, B1, E1, pers_eq E u1 e1⟩
      · cases h
    · cases h
  | .ex e, S, r, ρ, ρ', g, g', fl, ok, fr, E, B, h => by
    rw [okS] at ok
    rw [tsm] at h
    split at h
    · rename_i m j es he
      rw [he] at ok
      simp only [Bool.and_eq_true] at ok
      obtain ⟨⟨o1, o2⟩, o3⟩ := ok
      obtain ⟨rfl, hm⟩ := mutE_eq he
      split at h
      · rename_i ts hρ
        obtain ⟨vs, g1, h1, h⟩ := tb_eq h
        split at h
        · rename_i ys hy
          cases h
          obtain ⟨a, xs, us, q1, q2, q3, q4, q5⟩ := E.own j _ o1 hρ
          cases q4
          rw [sm, sat_bind, ev, sat_bind, ev, q1, Sat.ok]
          have hr : recv m (.ref a) S = true := by
            cases m <;> first | (exfalso; cases hm; done) | (unfold recv; simp only [q3])
          rw [if_pos hr, sat_bind]
          refine (tevs_ok hG hF es o2 E B h1).mono fun ws S1 ⟨u1, B1, d1, e1, f1⟩ => ?_
          have E1 := E.up u1
          obtain ⟨a', xs', us', q1', q2', q3', q4', q5'⟩ := E1.own j _ o1 hρ
          cases q4'
          rw [q1] at q1'
          cases q1'
          have key : ∀ zs, meth m (.ref a) ws S1 = .ok .non (S1.set a (.lst zs)) → Dens (VV O W base r) β S1 zs ys → Sat (meth m (.ref a) ws S1) fun _ S' => PostS β c O W base fz S r .nx (ρ.set j (some (.lst ys))) g' (.nx, r) S' := fun zs hz dz => by
            have mm := E1.mut (g := g') o1 q1 q3' dz
            rw [hz]
            exact ⟨(fm_up E u1).trans mm.2.2.1, mm.2.2.2 B1, mm.1, (pers_up E u1).trans u1.1 mm.2.1⟩
          refine Sat.mono ?_ (P := fun _ S' => PostS β c O W base fz S r .nx (ρ.set j (some (.lst ys))) g' (.nx, r) S') fun _ _ z => z
          unfold tmut at hy
          split at hy
          · simp only [reduceCtorEq, if_false, decide_eq_true_eq] at o3
            split at hy
            · rename_i hl
              cases hy
              cases f1 o3 with | cons p q =>
              cases q
              refine key _ ?_ (q5'.app (.cons p .nil))
              unfold meth
              simp only [q3']
              rw [if_pos (by rw [q5'.len]; exact hl)]
            · cases hy
          · cases hy
            cases d1
            refine key [] ?_ .nil
            unfold meth
            simp only [q3']
          · simp only [if_true, decide_eq_true_eq] at o3
            split at hy
            · rename_i hl
              cases hy
              cases e1 o3 with | cons p q =>
              cases q
              cases p with | lst hb e2 p2 =>
              refine key _ ?_ (q5'.app p2)
              unfold meth
              simp only [q3', e2]
              rw [if_pos (by rw [q5'.len, p2.len]; exact hl)]
            · cases hy
          · simp only [reduceCtorEq, if_false, decide_eq_true_eq] at o3
            split at hy
            · rename_i hl
              cases hy
              cases f1 o3 with | cons p q =>
              cases p
              cases q with | cons p2 q =>
              cases q
              refine key _ ?_ (((q5'.take _).app (.cons p2 .nil)).app (q5'.drop _))
              unfold meth
              simp only [q3']
              rw [if_pos (by rw [q5'.len]; exact hl)]
            · cases hy
          · cases hy
        · cases h
      · cases h
    · rename_i he
      rw [he] at ok
      obtain ⟨v, g1, h1, h⟩ := tb_eq h
      cases h
      rw [sm, sat_bind]
      exact (tev_ok hG hF e ok E B h1).mono fun w S1 ⟨u1, B1, _⟩ => ⟨fm_up E u1, B1, E.up u1, pers_up E u1⟩
  | .ret e, S, r, ρ, ρ', g, g', fl, ok, fr, E, B, h => by
    rw [okS] at ok
    rw [tsm] at h
    obtain ⟨v, g1, h1, h⟩ := tb_eq h
    cases h
    obtain ⟨w, S1, eq, u1, B1, d1, e1, f1, r1, l1⟩ := (tev_ok hG hF e ok E B h1).get
    rw [sm, eq]
    refine ⟨fm_up E u1, B1, d1, fun hz => ?_⟩
    have hf := fr hz
    rw [frS, Bool.or_eq_true] at hf
    rcases hf with hf | hf
    · obtain ⟨k, rfl, hk⟩ := r1 hf
      exact ⟨⟨k, rfl, Nat.le_trans E.bs hk⟩, l1 (fr_isL hf)⟩
    · split at hf
      · rename_i j hj
        have hj := isVar_eq hj
        subst hj
        rw [tev] at h1
        split at h1
        · rename_i u hu
          cases h1
          obtain ⟨a, xs, us, q1, q2, q3, q4, q5⟩ := E.own j _ hf hu
          rw [ev, q1] at eq
          cases eq
          exact ⟨⟨a, rfl, q2⟩, _, q4⟩
        · cases h1
      · cases hf
  | .ite k a b, S, r, ρ, ρ', g, g', fl, ok, fr, E, B, h => by
    rw [okS, Bool.and_eq_true, Bool.and_eq_true] at ok
    have fr' : fz = true → frSs FR O a = true ∧ frSs FR O b = true := fun z => by
      have := fr z
      rw [frS, Bool.and_eq_true] at this
      exact this
    rw [tsm] at h
    obtain ⟨x, g1, h1, h⟩ := tb_eq h
    obtain ⟨bb, h3, h⟩ := tbof_eq h
    rw [sm, sat_bind]
    refine (tev_ok hG hF k ok.1.1 E B h1).mono fun v S1 ⟨u1, B1, d1, e1, f1, r1, l1⟩ => ?_
    unfold tst
    rw [ttruth_of (d1.els E.n0) h3]
    simp only [Rs.of_some, Rs.bind_ok]
    have E1 := E.up u1
    have fin : ∀ {m : Rs (Fl × Ev)}, Sat m (PostS β c O W base fz S1 r fl ρ' g') → Sat m (PostS β c O W base fz S r fl ρ' g') := fun hm => hm.mono fun q S2 ⟨f2, B2, m2⟩ => by
      obtain ⟨fl2, r2⟩ := q
      refine ⟨(fm_up E u1).trans f2, B2, ?_⟩
      cases fl with
      | rt u => cases fl2 with
        | rt v => exact m2
        | nx => exact m2.elim
      | nx => cases fl2 with
        | rt v => exact m2.elim
        | nx => exact ⟨m2.1, (pers_up E u1).trans u1.1 m2.2⟩
    split at h
    · rename_i hb
      rw [if_pos hb]
      exact fin (tsms_ok hG hF a ok.1.2 (fun z => (fr' z).1) E1 B1 h)
    · rename_i hb
      rw [if_neg hb]
      exact fin (tsms_ok hG hF b ok.2 (fun z => (fr' z).2) E1 B1 h)
  | .for_ it t b, S, r, ρ, ρ', g, g', fl, ok, fr, E, B, h => by
    rw [okS] at ok
    simp only [Bool.and_eq_true, decide_eq_true_eq] at ok
    obtain ⟨⟨⟨o1, o2⟩, o3⟩, o4⟩ := ok
    have fr' : fz = true → frSs FR O b = true := fun z => by
      have := fr z
      rw [frS] at this
      exact this
    rw [tsm] at h
    obtain ⟨xs, g1, h1, h⟩ := tb_eq h
    rw [sm, sat_bind]
    refine (tevi_ok hG hF it o1 E B h1).mono fun src S1 ⟨u1, B1, zs, sa, np, d1, e1, f1⟩ => ?_
    have E1 := E.up u1
    refine (loop_ok (fz := fz) (xs := zs) (fun x tx S2 r2 ρ2 g2 fl2 ρ3 g3 E2 B2 p hst => ?_) sa (f1 o2) (by rw [List.drop_zero]; exact e1 (lvJ_I o2)) (Nat.zero_le _) (by rw [sa.1.1]; omega) E1 B1 h).mono fun q S2 ⟨f2, B2, m2⟩ => ?_
    · (try dsimp only at hst)
      split at hst
      · cases hst
      · rename_i ρ4 hρ
        obtain ⟨r4, b1, E4, b3⟩ := E2.bind o3 p hρ
        rw [b1]
        refine (tsms_ok hG hF b o4 fr' E4 B2 hst).mono fun q S3 ⟨f3, B3, m3⟩ => ?_
        obtain ⟨fl5, r5⟩ := q
        refine ⟨f3, B3, ?_⟩
        cases fl2 with
        | rt u => cases fl5 with
          | rt v => exact m3
          | nx => exact m3.elim
        | nx => cases fl5 with
          | rt v => exact m3.elim
          | nx => exact ⟨m3.1, fun i hi hl => m3.2 i (by rw [b3]; exact hi) hl⟩
    · obtain ⟨fl2, r2⟩ := q
      refine ⟨(fm_up E u1).trans f2, B2, ?_⟩
      cases fl with
      | rt u => cases fl2 with
        | rt v => exact m2
        | nx => exact m2.elim
      | nx => cases fl2 with
        | rt v => exact m2.elim
        | nx => exact ⟨m2.1, (pers_up E u1).trans u1.1 m2.2⟩
  | .whl k b, S, r, ρ, ρ', g, g', fl, ok, fr, E, B, h => by
    rw [okS, Bool.and_eq_true] at ok
    have fr' : fz = true → frSs FR O b = true := fun z => by
      have := fr z
      rw [frS] at this
      exact this
    rw [tsm] at h
    rw [sm]
    refine while_ok (fun S1 r1 ρ1 g1 b1 g2 E1 B1 h1 => ?_) (fun S1 r1 ρ1 g1 fl1 ρ2 g2 E1 B1 h1 => tsms_ok hG hF b ok.2 fr' E1 B1 h1) E B h
    obtain ⟨x, g3, h2, h1⟩ := tb_eq h1
    obtain ⟨h3, h4⟩ := tof_eq h1
    cases h4
    rw [sat_bind]
    refine (tev_ok hG hF k ok.1 E1 B1 h2).mono fun v S1 ⟨u1, B1, d1, e1, f1, r1, l1⟩ => ?_
    unfold tst
    rw [ttruth_of (d1.els E1.n0) h3]
    exact ⟨u1, B1, rfl⟩
  | .pass, S, r, ρ, ρ', g, g', fl, ok, fr, E, B, h => by
    rw [tsm] at h
    cases h
    rw [sm]
    exact ⟨.refl, B, E, .refl⟩
theorem tsms_ok (hG : GOk β G GT) (hF : FOk β c FR F FT) : ∀ (s : Sms) {S : Sto} {r : Ev} {ρ ρ' : TEv} {g g' : Bg} {fl : TFl}, okSs FR O s = true → (fz = true → frSs FR O s = true) → ER β c O W base S r ρ → BagR β c g S → tsms GT FT fuel s ρ g = some ((fl, ρ'), g') →
    Sat (sms G F fuel s r S) (PostS β c O W base fz S r fl ρ' g')
  | .nil, S, r, ρ, ρ', g, g', fl, ok, fr, E, B, h => by
    rw [tsms] at h
    cases h
    rw [sms]
    exact ⟨.refl, B, E, .refl⟩
  | .cons s t, S, r, ρ, ρ', g, g', fl, ok, fr, E, B, h => by
    rw [okSs, Bool.and_eq_true] at ok
    have fr' : fz = true → frS FR O s = true ∧ frSs FR O t = true := fun z => by
      have := fr z
      rw [frSs, Bool.and_eq_true] at this
      exact this
    rw [tsms] at h
    obtain ⟨⟨fl1, ρ1⟩, g1, h1, h⟩ := tb_eq h
    rw [sms, sat_bind]
    refine (tsm_ok hG hF s ok.1 (fun z => (fr' z).1) E B h1).mono fun q S1 ⟨f1, B1, m1⟩ => ?_
    obtain ⟨fl2, r1⟩ := q
    cases fl1 with
    | rt u =>
      cases h
      cases fl2 with
      | rt v => exact ⟨f1, B1, m1⟩
      | nx => exact m1.elim
    | nx =>
      cases fl2 with
      | rt v => exact m1.elim
      | nx =>
        refine (tsms_ok hG hF t ok.2 (fun z => (fr' z).2) m1.1 B1 h).mono fun q S2 ⟨f2, B2, m2⟩ => ?_
        obtain ⟨fl3, r2⟩ := q
        refine ⟨f1.trans f2, B2, ?_⟩
        cases fl with
        | rt u => cases fl3 with
          | rt v => exact m2
          | nx => exact m2.elim
        | nx => cases fl3 with
          | rt v => exact m2.elim
          | nx => exact ⟨m2.1, m1.2.trans f1.1 m2.2⟩
end
end
end A46
end
section
namespace A46
open PySem (Str PyData)
section
variable {β c : Nat} {G : Str → Option Val} {T : List (Str × Fn)} {fuel d : Nat} {S : Sto} {g : Bg}
theorem getD_nonneg {l : List Int} (h : ∀ x ∈ l, 0 ≤ x) (i : Nat) : 0 ≤ l.getD i 0 := by
  rw [List.getD]
  cases e : l[i]? with
  | none => exact Int.le_refl _
  | some v => exact h v (List.mem_of_getElem? e)
theorem take_exact {fn : Fn} (hT : T.lookup ("_law_take" : Str) = some fn) (hf : fn.ps.length = 2 ∧ fn.nm.length = 7 ∧ fn.body = takeFn.body) {m : Int} (hbc : β ≠ c) (B : BagR β c g S) (h0 : 0 < m) (h1 : m.natAbs.log2 < 9000) :
    Sat (run G T fuel (d + 1) "_law_take" [.ref β, .int m] S) fun v S' => v = .int (g.take m).1 ∧ BagR β c (g.take m).2 S' ∧ Up [β] S S' := by
  have mem : β ∈ [β] := List.mem_cons_self
  have md : divOk m = true := by unfold divOk; simp only [Bool.and_eq_true, decide_eq_true_eq]; exact ⟨by omega, h1⟩
  rw [run_eq hT (by rw [hf.1]; rfl), hf.2.2, hf.2.1]
  unfold takeFn Bg.take
  refine seq_nx (P := fun r1 S1 => BagR β c g.fill S1 ∧ Up [β] S S1 ∧ ∃ x y, r1 = [some (.ref β), some (.int m), none, none, x, y, none]) ?_ ?_
  · obtain ⟨hb, hc, hn, hs, hi, hcs⟩ := B
    by_cases e : g.n = 0
    · have red : ∀ (c : Ex) (a b' : Sms) (r : Ev) (Q : Fl × Ev → Sto → Prop), Sat (ev G (run G T fuel d) c r S) (fun x S1 => x = .bl true ∧ S1 = S) → Sat (sms G (run G T fuel d) fuel a r S) Q → Sat (sm G (run G T fuel d) fuel (.ite c a b') r S) Q := fun c a b' r Q hc ha => by
        rw [sm, sat_bind]
        refine hc.mono fun x S1 ⟨e1, e2⟩ => ?_
        subst e1 e2
        exact ha
      unfold Bg.fill
      rw [if_pos e]
      rw [e] at hb
      refine red _ _ _ _ _ ?_ ?_
      · simp only [sms, sm, ev, evs, evc, evi, evo, store, sat_bind, Sat.ok, wipeE, srcOf, Tg.bind, bindAll, Rs.bind_ok, Rs.of_some, alloc, tst, List.map_cons, List.map_nil, List.length_cons, List.length_nil, List.replicate_succ, List.replicate_zero, List.cons_append, List.nil_append,
  Nat.add_sub_cancel, Nat.sub_self, Nat.zero_add, Nat.reduceAdd, Nat.reduceSub, List.set_cons_zero, List.set_cons_succ, List.getElem?_cons_zero, List.getElem?_cons_succ, List.append_nil, List.replicate, idx_bag hb pick4.1, eq_int]
        exact ⟨rfl, trivial⟩
      refine seq_nx (P := fun r1 S1 => S1 = S ∧ r1 = [some (.ref β), some (.int m), none, none, some (.int 0), none, none]) ?_ ?_
      · simp only [sms, sm, ev, evs, evc, evi, evo, store, sat_bind, Sat.ok, wipeE, srcOf, Tg.bind, bindAll, Rs.bind_ok, Rs.of_some, alloc, tst, List.map_cons, List.map_nil, List.length_cons, List.length_nil, List.replicate_succ, List.replicate_zero, List.cons_append, List.nil_append,
  Nat.add_sub_cancel, Nat.sub_self, Nat.zero_add, Nat.reduceAdd, Nat.reduceSub, List.set_cons_zero, List.set_cons_succ, List.getElem?_cons_zero, List.getElem?_cons_succ, List.append_nil, List.replicate]
        exact ⟨trivial, trivial, trivial⟩
      rintro r1 S1 ⟨rfl, rfl⟩
      generalize hcell : (if g.i < (g.cells.length : Int) then g.cells.getD g.i.toNat 0 else 0) = v
      have hv : 0 ≤ v := by
        rw [← hcell]
        split
        · exact getD_nonneg hcs _
        · exact Int.le_refl _
      refine seq_nx (P := fun r1 S2 => S2 = S1 ∧ r1 = [some (.ref β), some (.int m), none, none, some (.int v), none, none]) ?_ ?_
      · simp only [sms, sm, ev, evs, evc, evi, evo, store, sat_bind, Sat.ok, wipeE, srcOf, Tg.bind, bindAll, Rs.bind_ok, Rs.of_some, alloc, tst, List.map_cons, List.map_nil, List.length_cons, List.length_nil, List.replicate_succ, List.replicate_zero, List.cons_append, List.nil_append,
  Nat.add_sub_cancel, Nat.sub_self, Nat.zero_add, Nat.reduceAdd, Nat.reduceSub, List.set_cons_zero, List.set_cons_succ, List.getElem?_cons_zero, List.getElem?_cons_succ, List.append_nil, List.replicate, idx_bag hb pick4.2.2.1, idx_bag hb pick4.2.2.2, len_ref hc, cmp_lt, tru_bl, List.length_map]
        by_cases hl : g.i < (g.cells.length : Int)
        · obtain ⟨x, hx, hx'⟩ := pick_in (xs := g.cells.map Val.int) hi (by rw [List.length_map]; exact hl)
          rw [List.getElem?_map] at hx'
          cases hx2 : g.cells[g.i.toNat]? with
          | none => rw [hx2] at hx'; cases hx'
          | some w =>
            rw [hx2] at hx'
            cases hx'
            rw [if_pos hl, List.getD, hx2] at hcell
            have hcell : w = v := hcell
            subst hcell
            rw [decide_eq_true hl, if_pos rfl]
            simp only [sms, sm, ev, evs, evc, evi, evo, store, sat_bind, Sat.ok, wipeE, srcOf, Tg.bind, bindAll, Rs.bind_ok, Rs.of_some, alloc, tst, List.map_cons, List.map_nil, List.length_cons, List.length_nil, List.replicate_succ, List.replicate_zero, List.cons_append, List.nil_append,
  Nat.add_sub_cancel, Nat.sub_self, Nat.zero_add, Nat.reduceAdd, Nat.reduceSub, List.set_cons_zero, List.set_cons_succ, List.getElem?_cons_zero, List.getElem?_cons_succ, List.append_nil, List.replicate, idx_bag hb pick4.2.2.1, idx_bag hb pick4.2.2.2, idx_bag hc hx]
            exact ⟨trivial, trivial, trivial⟩
        · rw [if_neg hl] at hcell
          subst hcell
          rw [decide_eq_false hl, if_neg Bool.false_ne_true]
          exact ⟨rfl, rfl, rfl⟩
      rintro r2 S2 ⟨rfl, rfl⟩
      refine seq_nx (P := fun r1 S1 => S1 = S2.set β (.lst [.int 0, .int g.s, .int (g.i + 1), .ref c]) ∧ r1 = [some (.ref β), some (.int m), none, none, some (.int v), none, none]) ?_ ?_
      · simp only [sms, sm, ev, evs, evc, evi, evo, store, sat_bind, Sat.ok, wipeE, srcOf, Tg.bind, bindAll, Rs.bind_ok, Rs.of_some, alloc, tst, List.map_cons, List.map_nil, List.length_cons, List.length_nil, List.replicate_succ, List.replicate_zero, List.cons_append, List.nil_append,
  Nat.add_sub_cancel, Nat.sub_self, Nat.zero_add, Nat.reduceAdd, Nat.reduceSub, List.set_cons_zero, List.set_cons_succ, List.getElem?_cons_zero, List.getElem?_cons_succ, List.append_nil, List.replicate, get_bag hb (by decide : (0 : Int) ≤ 2) (by rfl : _ = some (Val.int g.i)), augI, set_bag hb (by rfl : place _ 2 = some 2)]
        exact ⟨trivial, trivial, trivial⟩
      rintro r1 S1 ⟨rfl, rfl⟩
      have hb1 : (S2.set β (.lst [.int 0, .int g.s, .int (g.i + 1), .ref c]))[β]? = some (.lst [.int 0, .int g.s, .int (g.i + 1), .ref c]) := set_at hb
      refine seq_nx (P := fun r1 S1 => S1 = S2.set β (.lst [.int (if 1000000000000000000 ≤ v then v else 0), .int g.s, .int (g.i + 1), .ref c]) ∧ r1 = [some (.ref β), some (.int m), none, none, some (.int v), none, none]) ?_ ?_
      · simp only [sms, sm, ev, evs, evc, evi, evo, store, sat_bind, Sat.ok, wipeE, srcOf, Tg.bind, bindAll, Rs.bind_ok, Rs.of_some, alloc, tst, List.map_cons, List.map_nil, List.length_cons, List.length_nil, List.replicate_succ, List.replicate_zero, List.cons_append, List.nil_append,
  Nat.add_sub_cancel, Nat.sub_self, Nat.zero_add, Nat.reduceAdd, Nat.reduceSub, List.set_cons_zero, List.set_cons_succ, List.getElem?_cons_zero, List.getElem?_cons_succ, List.append_nil, List.replicate, cmp_ge, tru_bl]
        by_cases hl : (1000000000000000000 : Int) ≤ v
        · rw [decide_eq_true hl, if_pos rfl, if_pos hl]
          simp only [sms, sm, ev, evs, evc, evi, evo, store, sat_bind, Sat.ok, wipeE, srcOf, Tg.bind, bindAll, Rs.bind_ok, Rs.of_some, alloc, tst, List.map_cons, List.map_nil, List.length_cons, List.length_nil, List.replicate_succ, List.replicate_zero, List.cons_append, List.nil_append,
  Nat.add_sub_cancel, Nat.sub_self, Nat.zero_add, Nat.reduceAdd, Nat.reduceSub, List.set_cons_zero, List.set_cons_succ, List.getElem?_cons_zero, List.getElem?_cons_succ, List.append_nil, List.replicate, set_bag hb1 (by rfl : place _ 0 = some 0), List.set_set]
          exact ⟨trivial, by trivial, by trivial⟩
        · rw [decide_eq_false hl, if_neg Bool.false_ne_true, if_neg hl]
          exact ⟨rfl, rfl, rfl⟩
      rintro r1 S1 ⟨rfl, rfl⟩
      generalize hnn : (if (1000000000000000000 : Int) ≤ v then v else 0) = n at *
      have hn : 0 ≤ n := by
        rw [← hnn]
        split <;> omega
      have hb2 : (S2.set β (.lst [.int n, .int g.s, .int (g.i + 1), .ref c]))[β]? = some (.lst [.int n, .int g.s, .int (g.i + 1), .ref c]) := set_at hb
      refine seq_nx (P := fun r1 S1 => S1 = S2.set β (.lst [.int n, .int g.s, .int (g.i + 1), .ref c]) ∧ r1 = [some (.ref β), some (.int m), none, none, some (.int v), some (.int (g.s * 48271 + v.fmod 2147483647 + 7919 * (g.i + 1))), none]) ?_ ?_
      · simp only [sms, sm, ev, evs, evc, evi, evo, store, sat_bind, Sat.ok, wipeE, srcOf, Tg.bind, bindAll, Rs.bind_ok, Rs.of_some, alloc, tst, List.map_cons, List.map_nil, List.length_cons, List.length_nil, List.replicate_succ, List.replicate_zero, List.cons_append, List.nil_append,
  Nat.add_sub_cancel, Nat.sub_self, Nat.zero_add, Nat.reduceAdd, Nat.reduceSub, List.set_cons_zero, List.set_cons_succ, List.getElem?_cons_zero, List.getElem?_cons_succ, List.append_nil, List.replicate, idx_bag hb2 pick4.2.1, idx_bag hb2 pick4.2.2.1, bin_mul (mulC (i := g.s) (j := 48271) (by decide)), bin_mul (mulD (i := 7919) (j := g.i + 1) (by decide)), bi_int, bin_mod (by decide : (2147483647 : Int) ≠ 0), bin_add]
        exact ⟨trivial, by trivial, by trivial⟩
      rintro r1 S1 ⟨rfl, rfl⟩
      simp only [sms, sm, ev, evs, evc, evi, evo, store, sat_bind, Sat.ok, wipeE, srcOf, Tg.bind, bindAll, Rs.bind_ok, Rs.of_some, alloc, tst, List.map_cons, List.map_nil, List.length_cons, List.length_nil, List.replicate_succ, List.replicate_zero, List.cons_append, List.nil_append,
  Nat.add_sub_cancel, Nat.sub_self, Nat.zero_add, Nat.reduceAdd, Nat.reduceSub, List.set_cons_zero, List.set_cons_succ, List.getElem?_cons_zero, List.getElem?_cons_succ, List.append_nil, List.replicate, bi_int, bin_mod (by decide : (2147483647 : Int) ≠ 0), set_bag hb2 (by rfl : place _ 1 = some 1), List.set_set]
      simp only [hnn]
      refine ⟨trivial, ⟨set_at hb, ?_, hn, Int.fmod_nonneg_of_pos _ (by decide), by show 0 ≤ g.i + 1; omega, hcs⟩, .set mem, _, _, rfl⟩
      rw [set_other hbc]; exact hc
    · have e' : (g.n == 0) = false := by simpa using e
      unfold Bg.fill
      rw [if_neg e]
      simp only [sms, sm, ev, evs, evc, evi, evo, store, sat_bind, Sat.ok, wipeE, srcOf, Tg.bind, bindAll, Rs.bind_ok, Rs.of_some, alloc, tst, List.map_cons, List.map_nil, List.length_cons, List.length_nil, List.replicate_succ, List.replicate_zero, List.cons_append, List.nil_append,
  Nat.add_sub_cancel, Nat.sub_self, Nat.zero_add, Nat.reduceAdd, Nat.reduceSub, List.set_cons_zero, List.set_cons_succ, List.getElem?_cons_zero, List.getElem?_cons_succ, List.append_nil, List.replicate, idx_bag hb pick4.1, eq_int, truth, e', if_false, Bool.false_eq_true]
      exact ⟨trivial, ⟨hb, hc, hn, hs, hi, hcs⟩, .refl, _, _, rfl⟩
  · rintro r1 S1 ⟨B1, u1, x, y, rfl⟩
    have B2 := B1
    generalize g.fill = g at *
    obtain ⟨hb, hc, hn, hs, hi, hcs⟩ := B1
    by_cases e : 0 < g.n
    · have hq : 0 ≤ g.n.fdiv m := Int.fdiv_nonneg hn (by omega)
      simp only
      rw [if_pos e]
      simp only [sms, sm, ev, evs, evc, evi, evo, store, sat_bind, Sat.ok, wipeE, srcOf, Tg.bind, bindAll, Rs.bind_ok, Rs.of_some, alloc, tst, List.map_cons, List.map_nil, List.length_cons, List.length_nil, List.replicate_succ, List.replicate_zero, List.cons_append, List.nil_append,
  Nat.add_sub_cancel, Nat.sub_self, Nat.zero_add, Nat.reduceAdd, Nat.reduceSub, List.set_cons_zero, List.set_cons_succ, List.getElem?_cons_zero, List.getElem?_cons_succ, List.append_nil, List.replicate, idx_bag hb pick4.1, cmp_gt, tru_bl, e, decide_true, if_true, bi_int, bin_mod (show m ≠ 0 by omega), bin_fdiv md, set_bag hb (by rfl : place _ 0 = some 0)]
      refine ⟨trivial, ⟨set_at hb, ?_, hq, hs, hi, hcs⟩, u1.trans (.set mem)⟩
      rw [set_other hbc]; exact hc
    · have q0 : ∀ z : Int, 0 ≤ z.fmod 1000000007 ∧ z.fmod 1000000007 < 1000000007 := fun z => ⟨Int.fmod_nonneg_of_pos _ (by decide), Int.fmod_lt_of_pos _ (by decide)⟩
      have q1 : ∀ z : Int, -(2 ^ 64) < z.fmod 1000000007 ∧ z.fmod 1000000007 < 2 ^ 64 := fun z => by
        have := q0 z
        omega
      simp only
      rw [if_neg e]
      simp only [sms, sm, ev, evs, evc, evi, evo, store, sat_bind, Sat.ok, wipeE, srcOf, Tg.bind, bindAll, Rs.bind_ok, Rs.of_some, alloc, tst, List.map_cons, List.map_nil, List.length_cons, List.length_nil, List.replicate_succ, List.replicate_zero, List.cons_append, List.nil_append,
  Nat.add_sub_cancel, Nat.sub_self, Nat.zero_add, Nat.reduceAdd, Nat.reduceSub, List.set_cons_zero, List.set_cons_succ, List.getElem?_cons_zero, List.getElem?_cons_succ, List.append_nil, List.replicate, idx_bag hb pick4.1, idx_bag hb pick4.2.1, cmp_gt, tru_bl, e, decide_false, if_false, Bool.false_eq_true, bi_int, bin_add, bin_mul (mulC (i := g.s + 1) (j := 39373) (by decide)), bin_mod (by decide : (1000000007 : Int) ≠ 0), bin_mul (mulD (q1 _)), bin_mod (by decide : (998244353 : Int) ≠ 0), bin_mul (mulC (j := 30011) (by decide)),
        bin_mul (mulC (j := 1000000007) (by decide)), bin_mod (show m ≠ 0 by omega), bin_fdiv (show divOk 7 = true by decide)]
      by_cases hl : (1000000 : Int) < m
      · rw [decide_eq_true hl, if_pos rfl, if_pos hl]
        exact ⟨rfl, B2, u1⟩
      · rw [decide_eq_false hl, if_neg Bool.false_ne_true, if_neg hl]
        simp only [sms, sm, ev, evs, evc, evi, evo, store, sat_bind, Sat.ok, wipeE, srcOf, Tg.bind, bindAll, Rs.bind_ok, Rs.of_some, alloc, tst, List.map_cons, List.map_nil, List.length_cons, List.length_nil, List.replicate_succ, List.replicate_zero, List.cons_append, List.nil_append,
  Nat.add_sub_cancel, Nat.sub_self, Nat.zero_add, Nat.reduceAdd, Nat.reduceSub, List.set_cons_zero, List.set_cons_succ, List.getElem?_cons_zero, List.getElem?_cons_succ, List.append_nil, List.replicate, bi_int, bin_mod (show m ≠ 0 by omega), bin_fdiv (show divOk 7 = true by decide)]
        exact ⟨trivial, B2, u1⟩
end
section
variable {G : Str → Option Tr} {F : TF} {fuel : Nat}
mutual
theorem ret_ok : ∀ (s : Sm) {ρ ρ' : TEv} {g g' : Bg} {fl : TFl}, retS s = true → tsm G F fuel s ρ g = some ((fl, ρ'), g') → ∃ v, fl = .rt v
  | .ret e, ρ, ρ', g, g', fl, h, k => by
    rw [tsm] at k
    obtain ⟨v, g1, h1, k⟩ := tb_eq k
    cases k
    exact ⟨_, rfl⟩
  | .ite c a b, ρ, ρ', g, g', fl, h, k => by
    rw [retS, Bool.and_eq_true] at h
    rw [tsm] at k
    obtain ⟨x, g1, h1, k⟩ := tb_eq k
    obtain ⟨bb, h3, k⟩ := tbof_eq k
    split at k
    · exact rets_ok a h.1 k
    · exact rets_ok b h.2 k
  | .asg _ _, _, _, _, _, _, h, _ => by cases h
  | .aug _ _ _ _, _, _, _, _, _, h, _ => by cases h
  | .augN _ _ _, _, _, _, _, _, h, _ => by cases h
  | .ex _, _, _, _, _, _, h, _ => by cases h
  | .for_ _ _ _, _, _, _, _, _, h, _ => by cases h
  | .whl _ _, _, _, _, _, _, h, _ => by cases h
  | .pass, _, _, _, _, _, h, _ => by cases h
theorem rets_ok : ∀ (s : Sms) {ρ ρ' : TEv} {g g' : Bg} {fl : TFl}, retS.retSs s = true → tsms G F fuel s ρ g = some ((fl, ρ'), g') → ∃ v, fl = .rt v
  | .nil, _, _, _, _, _, h, _ => by cases h
  | .cons s t, ρ, ρ', g, g', fl, h, k => by
    rw [retS.retSs, Bool.or_eq_true] at h
    rw [tsms] at k
    obtain ⟨⟨fl1, ρ1⟩, g1, h1, k⟩ := tb_eq k
    cases fl1 with
    | rt v => cases k; exact ⟨_, rfl⟩
    | nx =>
      rcases h with h | h
      · obtain ⟨v, e⟩ := ret_ok s h h1
        cases e
      · exact rets_ok t h k
end
end
section
variable {β c : Nat} {FR : List Str} {G : Str → Option Val} {GT : Str → Option Tr} {T : List (Str × Fn)} {fuel : Nat}
def isTake (fn : Fn) : Prop := fn.ps.length = 2 ∧ fn.nm.length = 7 ∧ fn.body = takeFn.body
theorem start_get {vs : List Val} {n i : Nat} : (vs.map some ++ List.replicate n none)[i]? = if i < vs.length then some (some (vs[i]?.getD .non)) else if i < vs.length + n then some none else none := by
  by_cases h : i < vs.length
  · rw [if_pos h, List.getElem?_append_left (by simpa using h), List.getElem?_map, List.getElem?_eq_getElem h]
    rfl
  · rw [if_neg h, List.getElem?_append_right (by simpa using h), List.getElem?_replicate]
    simp only [List.length_map]
    by_cases h2 : i < vs.length + n
    · rw [if_pos h2, if_pos (by omega)]
    · rw [if_neg h2, if_neg (by omega)]
theorem start_tget {vs : List Tr} {n i : Nat} : (vs.map some ++ List.replicate n none)[i]? = if i < vs.length then some (some (vs[i]?.getD .non)) else if i < vs.length + n then some none else none := by
  by_cases h : i < vs.length
  · rw [if_pos h, List.getElem?_append_left (by simpa using h), List.getElem?_map, List.getElem?_eq_getElem h]
    rfl
  · rw [if_neg h, List.getElem?_append_right (by simpa using h), List.getElem?_replicate]
    simp only [List.length_map]
    by_cases h2 : i < vs.length + n
    · rw [if_pos h2, if_pos (by omega)]
    · rw [if_neg h2, if_neg (by omega)]
theorem er_start {O : List Nat} {W : Nat → Prop} {S : Sto} {vs : List Val} {ts : List Tr} {n : Nat} (nW : ¬ W β) (hb : β < S.length) (hc : c < S.length) (d : Dens W β S vs ts) (ho : ∀ j, inO O j = true → ts.length ≤ j) :
    ER β c O W S.length S (vs.map some ++ List.replicate n none) (ts.map some ++ List.replicate n none) := by
  have hl := d.len
  have own : ∀ j, inO O j = true → ∀ v, (vs.map some ++ List.replicate n none)[j]? ≠ some (some v) := fun j hj v z => by
    have := ho j hj
    rw [start_get, if_neg (by omega)] at z
    split at z <;> cases z
  refine ⟨by simp [hl], Nat.le_refl _, hb, hc, nW, fun i t hi h => ?_, fun j t hj h => ?_, fun j hj h => ?_, fun j j' k hj hj' h h' => (own j hj _ h).elim⟩
  · rw [start_tget] at h
    split at h
    · rename_i hlt
      rw [List.getElem?_eq_getElem hlt] at h
      cases h
      obtain ⟨v, h1, h2⟩ := d.get (i := i) (x := ts[i]) (List.getElem?_eq_getElem hlt)
      refine ⟨v, ?_, h2.mono fun k hk _ => ⟨⟨.inl hk, fun j hj => own j hj _⟩, rfl⟩⟩
      rw [start_get, if_pos (by omega), h1]
      rfl
    · split at h <;> cases h
  · have := ho j hj
    rw [start_tget, if_neg (by omega)] at h
    split at h <;> cases h
  · have := ho j hj
    rw [start_tget, if_neg (by omega)] at h
    rw [start_get, if_neg (by omega), hl]
    split at h
    · rename_i z; rw [if_pos z]
    · cases h
theorem trun_ok (hbc : β ≠ c) (hG : GOk β G GT) {fk : Fn} (hk : T.lookup ("_law_take" : Str) = some fk) (hf : isTake fk) (nk : FR.contains ("_law_take" : Str) = false) : ∀ d, FOk β c FR (run G T fuel d) (trun FR GT T fuel d)
  | 0 => fun f ts g t g' h => by cases h
  | d + 1 => fun f ts g t g' h W vs S nW hb hc dn B => by
    rw [trun] at h
    split at h
    · rename_i e
      subst e
      unfold takeT at h
      split at h
      · rename_i m
        split at h
        · rename_i hm
          cases h
          cases dn with | cons a q =>
          cases q with | cons b q =>
          cases q
          cases a with | bag =>
          cases b
          exact (take_exact hk hf hbc B hm.1 hm.2).mono fun v S' ⟨h1, h2, h3⟩ => ⟨h3, h2, by rw [h1]; exact .int _, fun z => by rw [nk] at z; cases z⟩
        · cases h
      · cases h
    · split at h
      · rename_i fn hl
        split at h
        · rename_i ok
          unfold trunFn at h
          split at h
          · rename_i hlen
            obtain ⟨⟨fl, ρ'⟩, g1, h1, h⟩ := tb_eq h
            simp only [okFn, Bool.and_eq_true, Bool.or_eq_true, Bool.not_eq_true', List.all_eq_true, decide_eq_true_eq] at ok
            obtain ⟨⟨o1, o2⟩, o3⟩ := ok
            have hl2 := dn.len
            rw [run_eq hl (by omega), hl2]
            have ho : ∀ j, inO (ownF fn) j = true → ts.length ≤ j := fun j hj => by
              unfold inO at hj
              rw [List.any_eq_true] at hj
              obtain ⟨i, hi, e⟩ := hj
              rw [decide_eq_true_eq] at e
              subst e
              have := (o2 _ hi).1
              omega
            have E := er_start (O := ownF fn) (n := fn.nm.length - ts.length) nW hb hc dn ho
            refine (tsms_ok (fz := FR.contains f) hG (trun_ok hbc hG hk hf nk d) fn.body o1 (fun z => by
              rcases o3 with o3 | o3
              · rw [o3] at z; cases z
              · exact o3.1) E B h1).mono fun q S' ⟨f1, B1, m1⟩ => ?_
            obtain ⟨fl2, r2⟩ := q
            have u : Up [β] S S' := ⟨f1.1, fun j hj hb => f1.2 j hj fun z => hb (by rw [z]; exact List.mem_cons_self)⟩
            cases fl with
            | rt u0 =>
              cases h
              cases fl2 with
              | rt v => exact ⟨u, B1, m1⟩
              | nx => exact m1.elim
            | nx =>
              cases h
              cases fl2 with
              | rt v => exact m1.elim
              | nx =>
                refine ⟨u, B1, .non, fun z => ?_⟩
                rcases o3 with o3 | o3
                · rw [o3] at z; cases z
                · obtain ⟨v, e⟩ := rets_ok fn.body o3.2 h1
                  cases e
          · cases h
        · cases h
      · cases h
end
def bagFn : Fn :=
  ⟨["_law_script"], ["_law_script", "_law_cell"], (.cons (.ret (.lst (.cons (.con (.int 0)) (.cons (.con (.int 1234567891)) (.cons (.con (.int 0)) (.cons (.lc (.seq (.sl (.var 0) .none (.some (.con (.int 63))))) (.nm 1) .none (.bi .abs (.cons (.var 1) .nil)) [1]) .nil)))))) .nil)⟩
theorem cut_map {α β : Type} (f : α → β) (xs : List α) (lo hi : Option Int) : cut (xs.map f) lo hi = (cut xs lo hi).map f := by
  unfold cut
  rw [List.length_map, List.map_take, List.map_drop]
theorem size_lst {S : Sto} {i : Nat} {xs : List Val} (h : S[i]? = some (.lst xs)) : Src.size S (.lst i) = xs.length := by simp only [Src.size, h]
theorem cut_len {α : Type} {xs : List α} {lo hi : Option Int} : (cut xs lo hi).length ≤ xs.length := by
  unfold cut
  rw [List.length_take, List.length_drop]
  omega
section
variable {G : Str → Option Val} {T : List (Str × Fn)} {fuel d : Nat} {S : Sto}
theorem bag_ok {zs : List Int} (hl : zs.length ≤ 63) (hT : T.lookup ("_law_bag" : Str) = some bagFn) : Sat (run G T fuel (d + 1) "_law_bag" [.scr (zs.map .int)] S) fun v S' => ∃ b c g, v = .ref b ∧ b ≠ c ∧ BagR b c g S' ∧ b < S'.length ∧ c < S'.length := by
  rw [run_eq hT (by rfl)]
  unfold bagFn
  simp only [sms, sm, ev, evs, evc, evi, evo, store, sat_bind, Sat.ok, wipeE, srcOf, Tg.bind, bindAll, Rs.bind_ok, Rs.of_some, alloc, tst, List.map_cons, List.map_nil, List.length_cons, List.length_nil, List.replicate_succ, List.replicate_zero, List.cons_append, List.nil_append,
  Nat.add_sub_cancel, Nat.sub_self, Nat.zero_add, Nat.reduceAdd, Nat.reduceSub, List.set_cons_zero, List.set_cons_succ, List.getElem?_cons_zero, List.getElem?_cons_succ, List.append_nil, List.replicate, slice, cut_map]
  generalize hz : cut zs none (some 63) = ys
  have hy : ys.length ≤ 63 := by rw [← hz]; exact Nat.le_trans cut_len hl
  have new : (S ++ [Ob.lst (ys.map Val.int)])[S.length]? = some (.lst (ys.map .int)) := new_at
  rw [new]
  simp only [sms, sm, ev, evs, evc, evi, evo, store, sat_bind, Sat.ok, wipeE, srcOf, Tg.bind, bindAll, Rs.bind_ok, Rs.of_some, alloc, tst, List.map_cons, List.map_nil, List.length_cons, List.length_nil, List.replicate_succ, List.replicate_zero, List.cons_append, List.nil_append,
  Nat.add_sub_cancel, Nat.sub_self, Nat.zero_add, Nat.reduceAdd, Nat.reduceSub, List.set_cons_zero, List.set_cons_succ, List.getElem?_cons_zero, List.getElem?_cons_succ, List.append_nil, List.replicate, size_lst new]
  refine (turns_map (xs := ys.map Val.int) (Inv := Up [] (S ++ [Ob.lst (ys.map Val.int)])) (fun v => match v with | .int i => .int i.natAbs | v => v) (fun S1 k u => lst_get (u.at_ new (fun z => nomatch z))) (fun x hx S1 u => ?_) _ 0 _ .refl (by simp)).mono fun r S1 ⟨u, hr⟩ => ?_
  · obtain ⟨i, _, rfl⟩ := List.mem_map.mp hx
    simp only [sms, sm, ev, evs, evc, evi, evo, store, sat_bind, Sat.ok, wipeE, srcOf, Tg.bind, bindAll, Rs.bind_ok, Rs.of_some, alloc, tst, List.map_cons, List.map_nil, List.length_cons, List.length_nil, List.replicate_succ, List.replicate_zero, List.cons_append, List.nil_append,
  Nat.add_sub_cancel, Nat.sub_self, Nat.zero_add, Nat.reduceAdd, Nat.reduceSub, List.set_cons_zero, List.set_cons_succ, List.getElem?_cons_zero, List.getElem?_cons_succ, List.append_nil, List.replicate, bi]
    exact ⟨u, rfl⟩
  · have hr : r = (ys.map fun i : Int => ((i.natAbs : Nat) : Int)).map .int := by
      rw [hr, List.drop_zero, List.map_map, List.map_map]
      rfl
    have hrl : r.length ≤ lim := by
      rw [hr, List.length_map, List.length_map]
      unfold lim
      omega
    rw [if_pos hrl]
    simp only [sms, sm, ev, evs, evc, evi, evo, store, sat_bind, Sat.ok, wipeE, srcOf, Tg.bind, bindAll, Rs.bind_ok, Rs.of_some, alloc, tst, List.map_cons, List.map_nil, List.length_cons, List.length_nil, List.replicate_succ, List.replicate_zero, List.cons_append, List.nil_append,
  Nat.add_sub_cancel, Nat.sub_self, Nat.zero_add, Nat.reduceAdd, Nat.reduceSub, List.set_cons_zero, List.set_cons_succ, List.getElem?_cons_zero, List.getElem?_cons_succ, List.append_nil, List.replicate]
    rw [if_pos (by decide)]
    simp only [sms, sm, ev, evs, evc, evi, evo, store, sat_bind, Sat.ok, wipeE, srcOf, Tg.bind, bindAll, Rs.bind_ok, Rs.of_some, alloc, tst, List.map_cons, List.map_nil, List.length_cons, List.length_nil, List.replicate_succ, List.replicate_zero, List.cons_append, List.nil_append,
  Nat.add_sub_cancel, Nat.sub_self, Nat.zero_add, Nat.reduceAdd, Nat.reduceSub, List.set_cons_zero, List.set_cons_succ, List.getElem?_cons_zero, List.getElem?_cons_succ, List.append_nil, List.replicate]
    refine ⟨_, _, ⟨0, 1234567891, 0, ys.map fun i : Int => ((i.natAbs : Nat) : Int)⟩, rfl, ?_, ⟨new_at, ?_, by show (0 : Int) ≤ 0; decide, by show (0 : Int) ≤ 1234567891; decide, by show (0 : Int) ≤ 0; decide, ?_⟩, ?_, ?_⟩
    · simp
    · rw [List.getElem?_append_left (by simp), new_at, hr]
    · intro x hx
      obtain ⟨i, _, rfl⟩ := List.mem_map.mp hx
      omega
    · simp
    · simp
end
section
variable {FR : List Str} {G : Str → Option Val} {GT : Str → Option Tr} {T : List (Str × Fn)} {fuel : Nat}
/-- a law whose body behind the bag comes to True by trees -/
theorem law_by (hG : ∀ b, GOk b G GT) {fk fl : Fn} (hk : T.lookup ("_law_take" : Str) = some fk) (hf : isTake fk) (hb : T.lookup ("_law_bag" : Str) = some bagFn) (nk : FR.contains ("_law_take" : Str) = false) (hl : T.lookup ("law" : Str) = some fl) (hp : fl.ps.length = 1) (hn : 2 ≤ fl.nm.length) {body : Sms}
    (he : fl.body = .cons (.asg (.tg (.nm 1)) (.call "_law_bag" (.cons (.var 0) .nil))) body) (ok : okSs FR (mutsSs body) body = true) (ho : ((mutsSs body).all fun j => decide (2 ≤ j)) = true) {d : Nat}
    (plain : ∀ g : Bg, ∃ ρ g', tsms GT (trun FR GT T fuel (d + 1)) fuel body (none :: some .bag :: List.replicate (fl.nm.length - 2) none) g = some ((.rt (.bl true), ρ), g')) {zs : List Int} (hz : zs.length ≤ 63) :
    ∃ S, run G T fuel (d + 2) "law" [.scr (zs.map .int)] [] = .ok (.bl true) S := by
  have key : Sat (run G T fuel (d + 2) "law" [.scr (zs.map .int)] []) fun v _ => v = .bl true := by
    rw [run_eq hl (by rw [hp]; rfl), he, sms, sat_bind, sm, sat_bind, ev, sat_bind, evs, sat_bind, ev]
    simp only [List.map_cons, List.map_nil, List.cons_append, List.nil_append, List.getElem?_cons_zero, Sat.ok, evs, Rs.bind_ok]
    refine (bag_ok hz hb).mono fun v S1 ⟨b, c, g, hv, hbc, B, lb, lc⟩ => ?_
    subst hv
    rw [store]
    obtain ⟨n, hn⟩ : ∃ n, fl.nm.length = n + 2 := ⟨fl.nm.length - 2, by omega⟩
    rw [hn]
    have e1 : n + 2 - [Val.scr (zs.map Val.int)].length = n + 1 := rfl
    rw [e1, List.replicate_succ]
    simp only [Tg.bind, List.set_cons_succ, List.set_cons_zero, Rs.of_some, Rs.bind_ok, Sat.ok]
    obtain ⟨ρ, g', hpl⟩ := plain g
    rw [hn] at hpl
    have e2 : n + 2 - 2 = n := rfl
    rw [e2] at hpl
    have ho2 : ∀ j, inO (mutsSs body) j = true → 2 ≤ j := fun j hj => by
      unfold inO at hj
      rw [List.any_eq_true] at hj
      obtain ⟨i, hi, e⟩ := hj
      rw [decide_eq_true_eq] at e
      subst e
      simpa using List.all_eq_true.mp ho i hi
    have E : ER b c (mutsSs body) (fun _ => False) S1.length S1 (some (.scr (zs.map .int)) :: some (.ref b) :: List.replicate n none) (none :: some .bag :: List.replicate n none) := by
      have E0 := er_start (β := b) (c := c) (O := mutsSs body) (W := fun _ => False) (S := S1) (vs := [.non, .ref b]) (ts := [.non, .bag]) (n := n) (fun z => z) lb lc (.cons .non (.cons .bag .nil)) (fun j hj => ho2 j hj)
      refine ⟨by simp, E0.bs, E0.hβ, E0.hc, E0.nW, fun i t hi h => ?_, fun j t hj h => ?_, fun j hj h => ?_, fun j j' k hj hj' h h' => ?_⟩
      · cases i with
        | zero => simp at h
        | succ i =>
          obtain ⟨v, h1, h2⟩ := E0.free (i + 1) t hi (by simpa using h)
          refine ⟨v, by simpa using h1, h2.mono fun k hk hl => ⟨⟨hk.1, fun j hj => ?_⟩, rfl⟩⟩
          have := ho2 j hj
          have := hk.2 j hj
          obtain ⟨j, rfl⟩ : ∃ j', j = j' + 1 := ⟨j - 1, by omega⟩
          simpa using this
      · have := ho2 j hj
        obtain ⟨j, rfl⟩ : ∃ j', j = j' + 2 := ⟨j - 2, by omega⟩
        simp [List.getElem?_replicate] at h
      · have := ho2 j hj
        obtain ⟨j, rfl⟩ : ∃ j', j = j' + 2 := ⟨j - 2, by omega⟩
        simp only [List.getElem?_cons_succ, List.getElem?_replicate] at h ⊢
        split at h
        · rename_i z; rw [if_pos z]
        · cases h
      · have := ho2 j hj
        obtain ⟨j, rfl⟩ : ∃ j', j = j' + 2 := ⟨j - 2, by omega⟩
        simp [List.getElem?_replicate] at h
    refine (tsms_ok (fz := false) (hG b) (trun_ok hbc (hG b) hk hf nk (d + 1)) body ok (fun z => by cases z) E B hpl).mono fun q S2 ⟨f1, B1, m1⟩ => ?_
    obtain ⟨fl2, r2⟩ := q
    cases fl2 with
    | rt v =>
      have m1 := m1.1
      cases m1
      rfl
    | nx => exact m1.elim
  obtain ⟨v, S, h1, h2⟩ := key.get
  exact ⟨S, by rw [h1, h2]⟩
end
end A46
end
section
namespace A46
open PySem (Str PyData)
mutual
theorem eqv_refl : ∀ d : PyData, d.canLay0 = true → PyData.eqv d d = true
  | .none, _ => rfl
  | .bool b, _ => by rw [PyData.eqv]; simp
  | .int i, _ => by rw [PyData.eqv]; simp
  | .str x, _ => by rw [PyData.eqv]; simp
  | .list xs, h => by rw [PyData.eqv]; exact eqvAll_refl xs (by simpa [PyData.canLay0] using h)
  | .tuple xs, h => by rw [PyData.eqv]; exact eqvAll_refl xs (by simpa [PyData.canLay0] using h)
  | .dict kvs, h => by simp [PyData.canLay0] at h
theorem eqvAll_refl : ∀ ds : List PyData, PyData.canLayAll0 ds = true → PyData.eqvAll ds ds = true
  | [], _ => rfl
  | d :: ds, h => by
    rw [PyData.canLayAll0, Bool.and_eq_true] at h
    rw [PyData.eqvAll, eqv_refl d h.1, eqvAll_refl ds h.2]
    rfl
end
mutual
theorem short_of : ∀ d : PyData, d.showable = true → d.intsShort 1921 = true
  | .none, _ => rfl
  | .bool b, _ => rfl
  | .str x, _ => rfl
  | .int i, h => by
    rw [PyData.showable, decide_eq_true_eq] at h
    rw [PyData.intsShort, decide_eq_true_eq]
    have e := PySem.int_text_length_le (a := i) (k := 1920) (by decide) h
    show (PySem.Str.ofString (toString i)).length ≤ 1921
    rw [PySem.ofString_length]; exact e
  | .list xs, h => by rw [PyData.showable] at h; rw [PyData.intsShort]; exact shortAll_of xs h
  | .tuple xs, h => by rw [PyData.showable] at h; rw [PyData.intsShort]; exact shortAll_of xs h
  | .dict kvs, _ => rfl
theorem shortAll_of : ∀ ds : List PyData, PyData.showableAll ds = true → PyData.intsShortAll 1921 ds = true
  | [], _ => rfl
  | d :: ds, h => by
    rw [PyData.showableAll, Bool.and_eq_true] at h
    rw [PyData.intsShortAll, short_of d h.1, shortAll_of ds h.2]
    rfl
end
/-- small enough to be shown -/
def small (d : PyData) : Bool := d.canLay0 && d.showable && decide (d.depth ≤ 64) && decide (d.weight ≤ 8000)
theorem show_of {d : PyData} (h : small d = true) : showOk d = true := by
  simp only [small, Bool.and_eq_true, decide_eq_true_eq] at h
  obtain ⟨⟨⟨h1, h2⟩, h3⟩, h4⟩ := h
  have e := PyData.shown_le 1921 (by decide) d (PyData.leavesShort_of_canLay0 1921 d h1 (short_of d h2))
  simp only [showOk, Bool.and_eq_true, decide_eq_true_eq]
  refine ⟨⟨⟨h1, h2⟩, h3⟩, ?_⟩
  unfold lim
  omega
theorem data_of {d : PyData} (h : small d = true) : dataOk d = true := by
  simp only [small, Bool.and_eq_true, decide_eq_true_eq] at h
  simp only [dataOk, Bool.and_eq_true, decide_eq_true_eq]
  exact ⟨h.1.1.1, h.1.2⟩
theorem eq_same {S : Sto} {v w : Val} {D : PyData} (h1 : toD deepN S v = some D) (h2 : toD deepN S w = some D) (h : small D = true) : cmpop .eq v w S = .ok (.bl true) S := by
  have hl : D.canLay0 = true := by
    simp only [small, Bool.and_eq_true, decide_eq_true_eq] at h
    exact h.1.1.1
  unfold cmpop eqDeep
  simp only
  split
  · rename_i a b
    have e1 : some (PyData.str a) = some D := h1
    have e2 : some (PyData.str b) = some D := h2
    have e := e1.trans e2.symm
    cases e
    simp
  · unfold eqTree
    simp only [h1, h2, data_of h, Bool.and_self, if_true, eqv_refl D hl]
    rfl
theorem repr_of {S : Sto} {v : Val} {D : PyData} (h1 : toD deepN S v = some D) (h : small D = true) : bi .repr [v] S = .ok (.str D.shown) S := by
  unfold bi
  simp only [h1, show_of h, if_true]
theorem eq_str {S : Sto} {a b : Str} : cmpop .eq (.str a) (.str b) S = .ok (.bl (a == b)) S := rfl
end A46
end
section
namespace A46
open PySem (Str PyData)
theorem no_rfl {α : Sort _} {a b : α} (h : a = b) : a = b := h
section
variable (G : Str → Option Tr) (F : TF) (fuel : Nat)

def kBin (o : Bo) (b : Ex) (r : TEv) (m : Ts Tr) : Ts Tr := tb m fun x g1 => tb (tev G F b r g1) fun y g2 => tof (tbin o x y) g2
def kBin2 (o : Bo) (x : Tr) (m : Ts Tr) : Ts Tr := tb m fun y g2 => tof (tbin o x y) g2
def kCmp (o : Co) (b : Ex) (r : TEv) (m : Ts Tr) : Ts Tr := tb m fun x g1 => tb (tev G F b r g1) fun y g2 => tof (tcmp o x y) g2
def kCmp2 (o : Co) (x : Tr) (m : Ts Tr) : Ts Tr := tb m fun y g2 => tof (tcmp o x y) g2
def kNeg (m : Ts Tr) : Ts Tr := tb m fun x g1 => match x with
  | .int i => some (.int (-i), g1)
  | _ => none
def kNt (m : Ts Tr) : Ts Tr := tb m fun x g1 => tb (tof (ttruth x) g1) fun b g2 => some (.bl (!b), g2)
def kNt2 (g : Bg) (o : Option Bool) : Ts Tr := match o with
  | some b => some (.bl (!b), g)
  | none => none
def kAnd (b : Ex) (r : TEv) (m : Ts Tr) : Ts Tr := tb m fun x g1 => tb (tof (ttruth x) g1) fun c g2 => if c then tev G F b r g2 else some (x, g2)
def kAnd2 (b : Ex) (r : TEv) (x : Tr) (g : Bg) (o : Option Bool) : Ts Tr := tb (tof o g) fun c g2 => if c then tev G F b r g2 else some (x, g2)
def kOr (b : Ex) (r : TEv) (m : Ts Tr) : Ts Tr := tb m fun x g1 => tb (tof (ttruth x) g1) fun c g2 => if c then some (x, g2) else tev G F b r g2
def kOr2 (b : Ex) (r : TEv) (x : Tr) (g : Bg) (o : Option Bool) : Ts Tr := tb (tof o g) fun c g2 => if c then some (x, g2) else tev G F b r g2
def kIsn (ng : Bool) (m : Ts Tr) : Ts Tr := tb m fun x g1 => tof (tcmp (if ng then .notN else .isN) x .non) g1
def kCh (o p : Co) (b c : Ex) (r : TEv) (m : Ts Tr) : Ts Tr := tb m fun x g1 => tb (tev G F b r g1) fun y g2 => tb (tof (tcmp o x y) g2) fun z g3 => (match z with
    | .bl true => tb (tev G F c r g3) fun w g4 => tof (tcmp p y w) g4
    | .bl false => some (.bl false, g3)
    | _ => none)
def kCh2 (o p : Co) (c : Ex) (r : TEv) (x : Tr) (m : Ts Tr) : Ts Tr := tb m fun y g2 => tb (tof (tcmp o x y) g2) fun z g3 => (match z with
    | .bl true => tb (tev G F c r g3) fun w g4 => tof (tcmp p y w) g4
    | .bl false => some (.bl false, g3)
    | _ => none)
def kCh3 (p : Co) (c : Ex) (r : TEv) (y : Tr) (g : Bg) (o : Option Tr) : Ts Tr := tb (tof o g) fun z g3 => (match z with
    | .bl true => tb (tev G F c r g3) fun w g4 => tof (tcmp p y w) g4
    | .bl false => some (.bl false, g3)
    | _ => none)
def kIte (a b : Ex) (r : TEv) (m : Ts Tr) : Ts Tr := tb m fun x g1 => tb (tof (ttruth x) g1) fun t g2 => if t then tev G F a r g2 else tev G F b r g2
def kIte2 (a b : Ex) (r : TEv) (g : Bg) (o : Option Bool) : Ts Tr := tb (tof o g) fun t g2 => if t then tev G F a r g2 else tev G F b r g2
def kTup (m : Ts (List Tr)) : Ts Tr := tb m fun xs g1 => if xs.length ≤ lim then some (.tup xs, g1) else none
def kLst (m : Ts (List Tr)) : Ts Tr := tb m fun xs g1 => if xs.length ≤ lim then some (.lst xs, g1) else none
def kIdx (i : Ex) (r : TEv) (m : Ts Tr) : Ts Tr := tb m fun x g1 => tb (tev G F i r g1) fun y g2 => tof (tindex x y) g2
def kIdx2 (x : Tr) (m : Ts Tr) : Ts Tr := tb m fun y g2 => tof (tindex x y) g2
def kSl (lo hi : Exo) (r : TEv) (m : Ts Tr) : Ts Tr := tb m fun x g1 => tb (tevo G F lo r g1) fun l g2 => tb (tevo G F hi r g2) fun h g3 => tof (tslice x l h) g3
def kSl2 (hi : Exo) (r : TEv) (x : Tr) (m : Ts (Option Int)) : Ts Tr := tb m fun l g2 => tb (tevo G F hi r g2) fun h g3 => tof (tslice x l h) g3
def kSl3 (x : Tr) (lo : Option Int) (m : Ts (Option Int)) : Ts Tr := tb m fun h g3 => tof (tslice x lo h) g3
def kCall (f : Str) (m : Ts (List Tr)) : Ts Tr := tb m fun xs g1 => F f xs g1
def kBi (b : Bi) (m : Ts (List Tr)) : Ts Tr := tb m fun xs g1 => tof (tbi b xs) g1
def kMe (k : Me) (es : Exs) (r : TEv) (m : Ts Tr) : Ts Tr := tb m fun x g1 => if trecv k x then tb (tevs G F es r g1) fun xs g2 => tof (tmeth k x xs) g2 else none
def kMe2 (k : Me) (x : Tr) (m : Ts (List Tr)) : Ts Tr := tb m fun xs g2 => tof (tmeth k x xs) g2
/-- one turn of a comprehension -/
def turnOf (t : Tg) (c : Exo) (e : Ex) (vs : List Nat) (r : TEv) (x : Tr) (g2 : Bg) : Ts (Option Tr) := match t.tbind x (twipe r vs) with
      | none => none
      | some r2 => tb (tevc G F c r2 g2) fun b g3 => if b then tb (tev G F e r2 g3) fun y g4 => some (some y, g4) else some (none, g3)
def kTn (c : Exo) (e : Ex) (g : Bg) (o : Option TEv) : Ts (Option Tr) := match o with
      | none => none
      | some r2 => tb (tevc G F c r2 g) fun b g3 => if b then tb (tev G F e r2 g3) fun y g4 => some (some y, g4) else some (none, g3)
def kTn2 (e : Ex) (r2 : TEv) (m : Ts Bool) : Ts (Option Tr) := tb m fun b g3 => if b then tb (tev G F e r2 g3) fun y g4 => some (some y, g4) else some (none, g3)
def kTn3 (m : Ts Tr) : Ts (Option Tr) := tb m fun y g4 => some (some y, g4)
def kLc (t : Tg) (c : Exo) (e : Ex) (vs : List Nat) (r : TEv) (m : Ts (List Tr)) : Ts Tr := tb m fun xs g1 => tb (tturns (turnOf G F t c e vs r) xs g1) fun ys g2 => if ys.length ≤ lim then some (.lst ys, g2) else none
def kCons (es : Exs) (r : TEv) (m : Ts Tr) : Ts (List Tr) := tb m fun x g1 => tb (tevs G F es r g1) fun xs g2 => some (x :: xs, g2)
def kCons2 (x : Tr) (m : Ts (List Tr)) : Ts (List Tr) := tb m fun xs g2 => some (x :: xs, g2)
def kStar (es : Exs) (r : TEv) (m : Ts Tr) : Ts (List Tr) := tb m fun x g1 => match tseq x with
    | some ys => tb (tevs G F es r g1) fun xs g2 => some (ys ++ xs, g2)
    | none => none
def kStar2 (ys : List Tr) (m : Ts (List Tr)) : Ts (List Tr) := tb m fun xs g2 => some (ys ++ xs, g2)
def kO (m : Ts Tr) : Ts (Option Int) := tb m fun x g1 => match x with
    | .int i => some (some i, g1)
    | _ => none
def kC (m : Ts Tr) : Ts Bool := tb m fun x g1 => tof (ttruth x) g1
def kSrc (m : Ts Tr) : Ts (List Tr) := tb m fun x g1 => tof (tsrc x) g1
def kR1 (m : Ts Tr) : Ts (List Tr) := tb m fun x g1 => tof (trangeOf [x]) g1
def kR2 (b : Ex) (r : TEv) (m : Ts Tr) : Ts (List Tr) := tb m fun x g1 => tb (tev G F b r g1) fun y g2 => tof (trangeOf [x, y]) g2
def kR3 (x : Tr) (m : Ts Tr) : Ts (List Tr) := tb m fun y g2 => tof (trangeOf [x, y]) g2
def kZ (b : Ex) (r : TEv) (m : Ts Tr) : Ts (List Tr) := tb m fun x g1 => tb (tev G F b r g1) fun y g2 => tof (tzip x y) g2
def kZ2 (x : Tr) (m : Ts Tr) : Ts (List Tr) := tb m fun y g2 => tof (tzip x y) g2
def kEn (m : Ts Tr) : Ts (List Tr) := tb m fun x g1 => tof ((tlst x).map (tenum 0)) g1
def kVar (g : Bg) (o : Option (Option Tr)) : Ts Tr := match o with
    | some (some v) => some (v, g)
    | _ => none
def kSeq (t : Sms) (m : Ts (TFl × TEv)) : Ts (TFl × TEv) := tb m fun q g1 => match q.1 with
    | .rt v => some ((.rt v, q.2), g1)
    | .nx => tsms G F fuel t q.2 g1
def kAsg (t : Ta) (r : TEv) (m : Ts Tr) : Ts (TFl × TEv) := tb m fun v g1 => tb (tstore G F t v r g1) fun r2 g2 => some ((.nx, r2), g2)
def kAsg2 (m : Ts TEv) : Ts (TFl × TEv) := tb m fun r2 g2 => some ((.nx, r2), g2)
def kSub (j : Nat) (v : Tr) (r : TEv) (m : Ts Tr) : Ts TEv := tb m fun y g1 => match r[j]?, y with
    | some (some (.lst xs)), .int k => match place xs.length k with
      | some p => some (r.set j (some (.lst (xs.set p v))), g1)
      | none => none
    | _, _ => none
def kAug (i : Nat) (b : Bo) (u : Tr) (r : TEv) (m : Ts Tr) : Ts (TFl × TEv) := tb m fun w g1 => (match taugI b u w with
      | some z => some ((.nx, r.set i (some z)), g1)
      | none => none)
def kAug0 (i : Nat) (b : Bo) (e : Ex) (r : TEv) (g : Bg) (o : Option (Option Tr)) : Ts (TFl × TEv) := match o with
    | some (some u) => kAug i b u r (tev G F e r g)
    | _ => none
def kMu (k : Me) (j : Nat) (xs : List Tr) (r : TEv) (m : Ts (List Tr)) : Ts (TFl × TEv) := tb m fun vs g1 => (match tmut k xs vs with
        | some ys => some ((.nx, r.set j (some (.lst ys))), g1)
        | none => none)
def kMu0 (k : Me) (j : Nat) (es : Exs) (r : TEv) (g : Bg) (o : Option (Option Tr)) : Ts (TFl × TEv) := match o with
    | some (some (.lst xs)) => kMu k j xs r (tevs G F es r g)
    | _ => none
def kMu2 (j : Nat) (r : TEv) (g : Bg) (o : Option (List Tr)) : Ts (TFl × TEv) := match o with
        | some ys => some ((.nx, r.set j (some (.lst ys))), g)
        | none => none
def kEx (r : TEv) (m : Ts Tr) : Ts (TFl × TEv) := tb m fun _ g1 => some ((.nx, r), g1)
def kRet (r : TEv) (m : Ts Tr) : Ts (TFl × TEv) := tb m fun v g1 => some ((.rt v, r), g1)
def kIf (a b : Sms) (r : TEv) (m : Ts Tr) : Ts (TFl × TEv) := tb m fun x g1 => tb (tof (ttruth x) g1) fun t g2 => if t then tsms G F fuel a r g2 else tsms G F fuel b r g2
def kIf2 (a b : Sms) (r : TEv) (g : Bg) (o : Option Bool) : Ts (TFl × TEv) := tb (tof o g) fun t g2 => if t then tsms G F fuel a r g2 else tsms G F fuel b r g2
/-- one turn of a for -/
def bodyOf (t : Tg) (b : Sms) (x : Tr) (r2 : TEv) (g2 : Bg) : Ts (TFl × TEv) := match t.tbind x r2 with
      | none => none
      | some r3 => tsms G F fuel b r3 g2
def kBd (b : Sms) (g : Bg) (o : Option TEv) : Ts (TFl × TEv) := match o with
      | none => none
      | some r3 => tsms G F fuel b r3 g
def kFor (t : Tg) (b : Sms) (r : TEv) (m : Ts (List Tr)) : Ts (TFl × TEv) := tb m fun xs g1 => tloop (bodyOf G F fuel t b) xs r g1
def condOf (c : Ex) (r : TEv) (g : Bg) : Ts Bool := tb (tev G F c r g) fun x g1 => tof (ttruth x) g1
def kFn (m : Ts (TFl × TEv)) : Ts Tr := tb m fun q g1 => match q.1 with
      | .rt v => some (v, g1)
      | .nx => some (.non, g1)
end
section
variable {G : Str → Option Tr} {F : TF} {fuel : Nat}
theorem h_bin {o a b r g} : tev G F (.bin o a b) r g = kBin G F o b r (tev G F a r g) := by rw [tev]; rfl
theorem h_bin1 {o b r x g} : kBin G F o b r (some (x, g)) = kBin2 o x (tev G F b r g) := no_rfl rfl
theorem h_bin2 {o x y g} : kBin2 o x (some (y, g)) = tof (tbin o x y) g := no_rfl rfl
theorem h_cmp {o a b r g} : tev G F (.cmp o a b) r g = kCmp G F o b r (tev G F a r g) := by rw [tev]; rfl
theorem h_cmp1 {o b r x g} : kCmp G F o b r (some (x, g)) = kCmp2 o x (tev G F b r g) := no_rfl rfl
theorem h_cmp2 {o x y g} : kCmp2 o x (some (y, g)) = tof (tcmp o x y) g := no_rfl rfl
theorem h_neg {a r g} : tev G F (.neg a) r g = kNeg (tev G F a r g) := by rw [tev]; rfl
theorem h_neg1 {i g} : kNeg (some (.int i, g)) = some (.int (-i), g) := no_rfl rfl
theorem h_nt {a r g} : tev G F (.nt a) r g = kNt (tev G F a r g) := by rw [tev]; rfl
theorem h_nt1 {x g} : kNt (some (x, g)) = kNt2 g (ttruth x) := by unfold kNt kNt2; rw [tb_some]; cases ttruth x <;> rfl
theorem h_nt2 {b g} : kNt2 g (some b) = some (.bl (!b), g) := no_rfl rfl
theorem h_and {a b r g} : tev G F (.and a b) r g = kAnd G F b r (tev G F a r g) := by rw [tev]; rfl
theorem h_and1 {b r x g} : kAnd G F b r (some (x, g)) = kAnd2 G F b r x g (ttruth x) := no_rfl rfl
theorem h_andt {b r x g} : kAnd2 G F b r x g (some true) = tev G F b r g := no_rfl rfl
theorem h_andf {b r x g} : kAnd2 G F b r x g (some false) = some (x, g) := no_rfl rfl
theorem h_or {a b r g} : tev G F (.or a b) r g = kOr G F b r (tev G F a r g) := by rw [tev]; rfl
theorem h_or1 {b r x g} : kOr G F b r (some (x, g)) = kOr2 G F b r x g (ttruth x) := no_rfl rfl
theorem h_ort {b r x g} : kOr2 G F b r x g (some true) = some (x, g) := no_rfl rfl
theorem h_orf {b r x g} : kOr2 G F b r x g (some false) = tev G F b r g := no_rfl rfl
theorem h_isn {ng a r g} : tev G F (.isn ng a) r g = kIsn ng (tev G F a r g) := by rw [tev]; rfl
theorem h_isn1 {x g} : kIsn true (some (x, g)) = tof (tcmp .notN x .non) g := no_rfl rfl
theorem h_isn2 {x g} : kIsn false (some (x, g)) = tof (tcmp .isN x .non) g := no_rfl rfl
theorem h_ch {o p a b c r g} : tev G F (.chain o p a b c) r g = kCh G F o p b c r (tev G F a r g) := by rw [tev]; rfl
theorem h_ch1 {o p b c r x g} : kCh G F o p b c r (some (x, g)) = kCh2 G F o p c r x (tev G F b r g) := no_rfl rfl
theorem h_ch2 {o p c r x y g} : kCh2 G F o p c r x (some (y, g)) = kCh3 G F p c r y g (tcmp o x y) := no_rfl rfl
theorem h_ch3 {p c r y g} : kCh3 G F p c r y g (some (.bl true)) = kCmp2 p y (tev G F c r g) := no_rfl rfl
theorem h_ch4 {p c r y g} : kCh3 G F p c r y g (some (.bl false)) = some (.bl false, g) := no_rfl rfl
theorem h_ite {c a b r g} : tev G F (.ite c a b) r g = kIte G F a b r (tev G F c r g) := by rw [tev]; rfl
theorem h_ite1 {a b r x g} : kIte G F a b r (some (x, g)) = kIte2 G F a b r g (ttruth x) := no_rfl rfl
theorem h_itet {a b r g} : kIte2 G F a b r g (some true) = tev G F a r g := no_rfl rfl
theorem h_itef {a b r g} : kIte2 G F a b r g (some false) = tev G F b r g := no_rfl rfl
theorem h_tup {es r g} : tev G F (.tup es) r g = kTup (tevs G F es r g) := by rw [tev]; rfl
theorem h_tup1 {xs g} : kTup (some (xs, g)) = if xs.length ≤ lim then some (.tup xs, g) else none := no_rfl rfl
theorem h_lst {es r g} : tev G F (.lst es) r g = kLst (tevs G F es r g) := by rw [tev]; rfl
theorem h_lst1 {xs g} : kLst (some (xs, g)) = if xs.length ≤ lim then some (.lst xs, g) else none := no_rfl rfl
theorem h_idx {a i r g} : tev G F (.idx a i) r g = kIdx G F i r (tev G F a r g) := by rw [tev]; rfl
theorem h_idx1 {i r x g} : kIdx G F i r (some (x, g)) = kIdx2 x (tev G F i r g) := no_rfl rfl
theorem h_idx2 {x y g} : kIdx2 x (some (y, g)) = tof (tindex x y) g := no_rfl rfl
theorem h_sl {a lo hi r g} : tev G F (.sl a lo hi) r g = kSl G F lo hi r (tev G F a r g) := by rw [tev]; rfl
theorem h_sl1 {lo hi r x g} : kSl G F lo hi r (some (x, g)) = kSl2 G F hi r x (tevo G F lo r g) := no_rfl rfl
theorem h_sl2 {hi r x lo g} : kSl2 G F hi r x (some (lo, g)) = kSl3 x lo (tevo G F hi r g) := no_rfl rfl
theorem h_sl3 {x lo hi g} : kSl3 x lo (some (hi, g)) = tof (tslice x lo hi) g := no_rfl rfl
theorem h_call {f es r g} : tev G F (.call f es) r g = kCall F f (tevs G F es r g) := by rw [tev]; rfl
theorem h_call1 {f xs g} : kCall F f (some (xs, g)) = F f xs g := no_rfl rfl
theorem h_bi {b es r g} : tev G F (.bi b es) r g = kBi b (tevs G F es r g) := by rw [tev]; rfl
theorem h_bi1 {b xs g} : kBi b (some (xs, g)) = tof (tbi b xs) g := no_rfl rfl
theorem h_me {k o es r g} : tev G F (.me k o es) r g = kMe G F k es r (tev G F o r g) := by rw [tev]; rfl
theorem h_me1 {es r xs g} : kMe G F .count es r (some (.tup xs, g)) = kMe2 .count (.tup xs) (tevs G F es r g) := no_rfl rfl
theorem h_me2 {es r xs g} : kMe G F .split es r (some (.str xs, g)) = kMe2 .split (.str xs) (tevs G F es r g) := no_rfl rfl
theorem h_me3 {es r xs g} : kMe G F .index es r (some (.lst xs, g)) = kMe2 .index (.lst xs) (tevs G F es r g) := no_rfl rfl
theorem h_me4 {k x xs g} : kMe2 k x (some (xs, g)) = tof (tmeth k x xs) g := no_rfl rfl
theorem h_lc {it t c e vs r g} : tev G F (.lc it t c e vs) r g = kLc G F t c e vs r (tevi G F it r g) := by rw [tev]; rfl
theorem h_lc1 {t c e vs r xs g} : kLc G F t c e vs r (some (xs, g)) = kLst (tturns (turnOf G F t c e vs r) xs g) := no_rfl rfl
theorem h_tn {t c e vs r x g} : turnOf G F t c e vs r x g = kTn G F c e g (t.tbind x (twipe r vs)) := by unfold turnOf kTn; cases t.tbind x (twipe r vs) <;> rfl
theorem h_tn1 {c e r2 g} : kTn G F c e g (some r2) = kTn2 G F e r2 (tevc G F c r2 g) := no_rfl rfl
theorem h_tn2 {e r2 g} : kTn2 G F e r2 (some (true, g)) = kTn3 (tev G F e r2 g) := no_rfl rfl
theorem h_tn3 {e r2 g} : kTn2 G F e r2 (some (false, g)) = some (none, g) := no_rfl rfl
theorem h_tn4 {y g} : kTn3 (some (y, g)) = some (some y, g) := no_rfl rfl
theorem h_nil {r g} : tevs G F .nil r g = some ([], g) := by rw [tevs]
theorem h_cons {e es r g} : tevs G F (.cons e es) r g = kCons G F es r (tev G F e r g) := by rw [tevs]; rfl
theorem h_cons1 {es r x g} : kCons G F es r (some (x, g)) = kCons2 x (tevs G F es r g) := no_rfl rfl
theorem h_cons2 {x xs g} : kCons2 x (some (xs, g)) = some (x :: xs, g) := no_rfl rfl
theorem h_star {e es r g} : tevs G F (.star e es) r g = kStar G F es r (tev G F e r g) := by rw [tevs]; rfl
theorem h_star1 {es r xs g} : kStar G F es r (some (.tup xs, g)) = kStar2 xs (tevs G F es r g) := no_rfl rfl
theorem h_star2 {es r xs g} : kStar G F es r (some (.lst xs, g)) = kStar2 xs (tevs G F es r g) := no_rfl rfl
theorem h_star3 {ys xs g} : kStar2 ys (some (xs, g)) = some (ys ++ xs, g) := no_rfl rfl
theorem h_o0 {r g} : tevo G F .none r g = some (none, g) := by rw [tevo]
theorem h_o1 {e r g} : tevo G F (.some e) r g = kO (tev G F e r g) := by rw [tevo]; rfl
theorem h_o2 {i g} : kO (some (.int i, g)) = some (some i, g) := no_rfl rfl
theorem h_c0 {r g} : tevc G F .none r g = some (true, g) := by rw [tevc]
theorem h_c1 {e r g} : tevc G F (.some e) r g = kC (tev G F e r g) := by rw [tevc]; rfl
theorem h_c2 {x g} : kC (some (x, g)) = tof (ttruth x) g := no_rfl rfl
theorem h_seq {e r g} : tevi G F (.seq e) r g = kSrc (tev G F e r g) := by rw [tevi]; rfl
theorem h_seq1 {xs g} : kSrc (some (.tup xs, g)) = some (xs, g) := no_rfl rfl
theorem h_seq2 {xs g} : kSrc (some (.lst xs, g)) = some (xs, g) := no_rfl rfl
theorem h_seq3 {z g} : kSrc (some (.str z, g)) = some (z.cps.toList.map fun c => .str ⟨#[c]⟩, g) := no_rfl rfl
theorem h_r1 {a r g} : tevi G F (.range1 a) r g = kR1 (tev G F a r g) := by rw [tevi]; rfl
theorem h_r11 {x g} : kR1 (some (x, g)) = tof (trangeOf [x]) g := no_rfl rfl
theorem h_r2 {a b r g} : tevi G F (.range2 a b) r g = kR2 G F b r (tev G F a r g) := by rw [tevi]; rfl
theorem h_r21 {b r x g} : kR2 G F b r (some (x, g)) = kR3 x (tev G F b r g) := no_rfl rfl
theorem h_r22 {x y g} : kR3 x (some (y, g)) = tof (trangeOf [x, y]) g := no_rfl rfl
theorem h_zip {a b r g} : tevi G F (.zip a b) r g = kZ G F b r (tev G F a r g) := by rw [tevi]; rfl
theorem h_zip1 {b r x g} : kZ G F b r (some (x, g)) = kZ2 x (tev G F b r g) := no_rfl rfl
theorem h_zip2 {xs ys g} : kZ2 (.tup xs) (some (.tup ys, g)) = some (tpairs xs ys, g) := no_rfl rfl
theorem h_zip3 {xs ys g} : kZ2 (.lst xs) (some (.lst ys, g)) = some (tpairs xs ys, g) := no_rfl rfl
theorem h_enum {a r g} : tevi G F (.enum a) r g = kEn (tev G F a r g) := by rw [tevi]; rfl
theorem h_enum1 {xs g} : kEn (some (.lst xs, g)) = some (tenum 0 xs, g) := no_rfl rfl
theorem h_var {i r g} : tev G F (.var i) r g = kVar g r[i]? := by rw [tev]; rfl
theorem h_var1 {v g} : kVar g (some (some v)) = some (v, g) := no_rfl rfl
theorem h_int {i r g} : tev G F (.con (.int i)) r g = some (.int i, g) := by rw [tev]; rfl
theorem h_str {x r g} : tev G F (.con (.str x)) r g = some (.str x, g) := by rw [tev]; rfl
theorem h_bl {b r g} : tev G F (.con (.bl b)) r g = some (.bl b, g) := by rw [tev]; rfl
theorem h_non {r g} : tev G F (.con .non) r g = some (.non, g) := by rw [tev]; rfl
theorem h_glo {x r g} : tev G F (.glo x) r g = tof (G x) g := by rw [tev]
theorem h_done {r g} : tsms G F fuel .nil r g = some ((.nx, r), g) := by rw [tsms]
theorem h_then {s t r g} : tsms G F fuel (.cons s t) r g = kSeq G F fuel t (tsm G F fuel s r g) := by rw [tsms]; rfl
theorem h_then1 {t r g} : kSeq G F fuel t (some ((.nx, r), g)) = tsms G F fuel t r g := no_rfl rfl
theorem h_then2 {t v r g} : kSeq G F fuel t (some ((.rt v, r), g)) = some ((.rt v, r), g) := no_rfl rfl
theorem h_asg {t e r g} : tsm G F fuel (.asg t e) r g = kAsg G F t r (tev G F e r g) := by rw [tsm]; rfl
theorem h_asg1 {i r v g} : kAsg G F (.tg (.nm i)) r (some (v, g)) = some ((.nx, r.set i (some v)), g) := no_rfl rfl
theorem h_asg2 {is r xs g} : kAsg G F (.tg (.tp is)) r (some (.tup xs, g)) = kAsg2 (tof (tbindAll is xs r) g) := no_rfl rfl
theorem h_asg3 {r g} : kAsg2 (some (r, g)) = some ((.nx, r), g) := no_rfl rfl
theorem h_asg4 {j i r v g} : kAsg G F (.sub (.var j) i) r (some (v, g)) = kAsg2 (kSub j v r (tev G F i r g)) := by unfold kAsg kAsg2; rw [tb_some, tstore]; rfl
theorem h_sub {j v r xs k p g} (h : r[j]? = some (some (.lst xs))) (hp : place xs.length k = some p) : kSub j v r (some (.int k, g)) = some (r.set j (some (.lst (xs.set p v))), g) := by unfold kSub; rw [tb_some, h]; simp only [hp]
theorem h_augN {i b e r g} : tsm G F fuel (.augN i b e) r g = kAug0 G F i b e r g r[i]? := by rw [tsm]; rfl
theorem h_augN1 {i b e r g u} : kAug0 G F i b e r g (some (some u)) = kAug i b u r (tev G F e r g) := no_rfl rfl
theorem h_augN2 {i r g x y} : kAug i .add (.int x) r (some (.int y, g)) = some ((.nx, r.set i (some (.int (x + y)))), g) := no_rfl rfl
theorem h_augN3 {i r g x y} : kAug i .sub (.int x) r (some (.int y, g)) = some ((.nx, r.set i (some (.int (x - y)))), g) := no_rfl rfl
theorem h_mu_append {j es r g} : tsm G F fuel (.ex (.me .append (.var j) es)) r g = kMu0 G F .append j es r g r[j]? := by rw [tsm]; rfl
theorem h_mu_clear {j es r g} : tsm G F fuel (.ex (.me .clear (.var j) es)) r g = kMu0 G F .clear j es r g r[j]? := by rw [tsm]; rfl
theorem h_mu_extend {j es r g} : tsm G F fuel (.ex (.me .extend (.var j) es)) r g = kMu0 G F .extend j es r g r[j]? := by rw [tsm]; rfl
theorem h_mu_insert {j es r g} : tsm G F fuel (.ex (.me .insert (.var j) es)) r g = kMu0 G F .insert j es r g r[j]? := by rw [tsm]; rfl
theorem h_mu1 {k j es r g xs} : kMu0 G F k j es r g (some (some (.lst xs))) = kMu k j xs r (tevs G F es r g) := no_rfl rfl
theorem h_mu2 {k j xs r vs g} : kMu k j xs r (some (vs, g)) = kMu2 j r g (tmut k xs vs) := by unfold kMu kMu2; rw [tb_some]
theorem h_mu3 {j r g ys} : kMu2 j r g (some ys) = some ((.nx, r.set j (some (.lst ys))), g) := no_rfl rfl
theorem h_ex {e r g} (h : mutE e = none) : tsm G F fuel (.ex e) r g = kEx r (tev G F e r g) := by rw [tsm, h]; rfl
theorem h_ex1 {r v g} : kEx r (some (v, g)) = some ((.nx, r), g) := no_rfl rfl
theorem h_ret {e r g} : tsm G F fuel (.ret e) r g = kRet r (tev G F e r g) := by rw [tsm]; rfl
theorem h_ret1 {r v g} : kRet r (some (v, g)) = some ((.rt v, r), g) := no_rfl rfl
theorem h_if {c a b r g} : tsm G F fuel (.ite c a b) r g = kIf G F fuel a b r (tev G F c r g) := by rw [tsm]; rfl
theorem h_if1 {a b r x g} : kIf G F fuel a b r (some (x, g)) = kIf2 G F fuel a b r g (ttruth x) := no_rfl rfl
theorem h_ift {a b r g} : kIf2 G F fuel a b r g (some true) = tsms G F fuel a r g := no_rfl rfl
theorem h_iff {a b r g} : kIf2 G F fuel a b r g (some false) = tsms G F fuel b r g := no_rfl rfl
theorem h_for {it t b r g} : tsm G F fuel (.for_ it t b) r g = kFor G F fuel t b r (tevi G F it r g) := by rw [tsm]; rfl
theorem h_for1 {t b r xs g} : kFor G F fuel t b r (some (xs, g)) = tloop (bodyOf G F fuel t b) xs r g := no_rfl rfl
theorem h_body {t b x r g} : bodyOf G F fuel t b x r g = kBd G F fuel b g (t.tbind x r) := by unfold bodyOf kBd; cases t.tbind x r <;> rfl
theorem h_body1 {b r g} : kBd G F fuel b g (some r) = tsms G F fuel b r g := no_rfl rfl
theorem h_cond {c r g} : condOf G F c r g = kC (tev G F c r g) := no_rfl rfl
theorem h_whl {c b r g} : tsm G F fuel (.whl c b) r g = twhile (condOf G F c) (tsms G F fuel b) fuel r g := by rw [tsm]; rfl
theorem h_pass {r g} : tsm G F fuel .pass r g = some ((.nx, r), g) := by rw [tsm]
theorem h_fn1 {v r g} : kFn (some ((.rt v, r), g)) = some (v, g) := no_rfl rfl
theorem h_fn2 {r g} : kFn (some ((.nx, r), g)) = some (.non, g) := no_rfl rfl
theorem b_nm {i v r} : (Tg.nm i).tbind v r = some (r.set i (some v)) := no_rfl rfl
theorem b_tp {is xs r} : (Tg.tp is).tbind (.tup xs) r = tbindAll is xs r := no_rfl rfl
theorem b_all0 {r} : tbindAll [] [] r = some r := no_rfl rfl
theorem b_all {i is v vs r} : tbindAll (i :: is) (v :: vs) r = tbindAll is vs (r.set i (some v)) := no_rfl rfl
theorem w_0 {r} : twipe r [] = r := no_rfl rfl
theorem w_1 {r v vs} : twipe r (v :: vs) = (twipe r vs).set v none := no_rfl rfl
theorem tt_non : ttruth .non = some false := no_rfl rfl
theorem tt_bl {b} : ttruth (.bl b) = some b := no_rfl rfl
theorem tt_int {i} : ttruth (.int i) = some (i != 0) := no_rfl rfl
theorem tt_tup {xs} : ttruth (.tup xs) = some (!xs.isEmpty) := no_rfl rfl
theorem tt_lst {xs} : ttruth (.lst xs) = some (!xs.isEmpty) := no_rfl rfl
theorem tt_dct {xs} : ttruth (.dct xs) = some (!xs.isEmpty) := no_rfl rfl
theorem o_add {i j} : tbin .add (.int i) (.int j) = some (.int (i + j)) := no_rfl rfl
theorem o_adds {a b} : tbin .add (.str a) (.str b) = if a.length + b.length ≤ lim then some (.str (a ++ b)) else none := no_rfl rfl
theorem o_addt {a b} : tbin .add (.tup a) (.tup b) = if a.length + b.length ≤ lim then some (.tup (a ++ b)) else none := no_rfl rfl
theorem o_addl {a b} : tbin .add (.lst a) (.lst b) = if a.length + b.length ≤ lim then some (.lst (a ++ b)) else none := no_rfl rfl
theorem o_sub {i j} : tbin .sub (.int i) (.int j) = some (.int (i - j)) := no_rfl rfl
theorem o_mul {i j} : tbin .mul (.int i) (.int j) = if mulOk i j then some (.int (i * j)) else none := no_rfl rfl
theorem o_mull {xs k} : tbin .mul (.lst xs) (.int k) = if decide (-(2 ^ 63) ≤ k) && decide (k < 2 ^ 63) && decide (xs.length * k.toNat ≤ lim) then some (.lst (repT xs k.toNat)) else none := no_rfl rfl
theorem o_mult {xs k} : tbin .mul (.tup xs) (.int k) = if !xs.isEmpty && decide (-1000 ≤ k) && decide (k ≤ 1000) && decide (xs.length ≤ 1000) then some (.tup (repT xs k.toNat)) else none := no_rfl rfl
theorem o_fdiv {i j} : tbin .fdiv (.int i) (.int j) = if divOk j then some (.int (i.fdiv j)) else none := no_rfl rfl
theorem o_mod {i j} : tbin .mod (.int i) (.int j) = if decide (j ≠ 0) then some (.int (i.fmod j)) else none := no_rfl rfl
theorem o_pow {i j} : tbin .pow (.int i) (.int j) = if decide (0 ≤ j) && decide (j ≤ 1000000) && decide (i.natAbs < 2 ^ 64) then some (.int (i ^ j.toNat)) else none := no_rfl rfl
theorem i_tup {xs i} : tindex (.tup xs) (.int i) = pick xs i := no_rfl rfl
theorem i_lst {xs i} : tindex (.lst xs) (.int i) = pick xs i := no_rfl rfl
theorem i_str {z i} : tindex (.str z) (.int i) = if z.length ≤ lim then (pick z.cps.toList i).map fun c => .str ⟨#[c]⟩ else none := no_rfl rfl
theorem i_dct {kvs k} : tindex (.dct kvs) (.str k) = tlook (.inr k) kvs := no_rfl rfl
theorem i_dci {kvs k} : tindex (.dct kvs) (.int k) = tlook (.inl k) kvs := no_rfl rfl
theorem sl_tup {xs lo hi} : tslice (.tup xs) lo hi = some (.tup (cut xs lo hi)) := no_rfl rfl
theorem sl_lst' {xs lo hi} : tslice (.lst xs) lo hi = some (.lst (cut xs lo hi)) := no_rfl rfl
theorem sl_str {z lo hi} : tslice (.str z) lo hi = if z.length ≤ lim then some (.str ⟨(cut z.cps.toList lo hi).toArray⟩) else none := no_rfl rfl
theorem mu_app {xs v} : tmut .append xs [v] = if xs.length < lim then some (xs ++ [v]) else none := no_rfl rfl
theorem mu_clr {xs} : tmut .clear xs [] = some [] := no_rfl rfl
theorem mu_ext {xs ys} : tmut .extend xs [.lst ys] = if xs.length + ys.length ≤ lim then some (xs ++ ys) else none := no_rfl rfl
theorem mu_ins {xs i v} : tmut .insert xs [.int i, v] = if decide (xs.length < lim) && decide (0 ≤ i) && decide (i < 2 ^ 63) then some (xs.take i.toNat ++ [v] ++ xs.drop i.toNat) else none := no_rfl rfl
theorem isN_non {y} : tcmp .isN .non y = some (.bl true) := no_rfl rfl
theorem notN_non {y} : tcmp .notN .non y = some (.bl false) := no_rfl rfl
end
end A46
end
section
namespace A46
open PySem (Str PyData)
def Same (fn f0 : Fn) : Prop := fn.ps.length = f0.ps.length ∧ fn.nm.length = f0.nm.length ∧ fn.body = f0.body
class Has (FR : List Str) (T : List (Str × Fn)) (f : Str) (f0 : outParam Fn) : Prop where
  ex : ∃ fn, T.lookup f = some fn ∧ okFn FR f fn = true ∧ Same fn f0
  nk : f ≠ "_law_take"
theorem trun_eq {FR : List Str} {G : Str → Option Tr} {T : List (Str × Fn)} {fuel d : Nat} (f : Str) {fn : Fn} [h : Has FR T f fn] {vs : List Tr} {g : Bg} (hl : vs.length = fn.ps.length) :
    trun FR G T fuel (d + 1) f vs g = kFn (tsms G (trun FR G T fuel d) fuel fn.body (vs.map some ++ List.replicate (fn.nm.length - vs.length) none) g) := by
  obtain ⟨f1, lk, ok, s1, s2, s3⟩ := h.ex
  rw [trun, if_neg h.nk, lk]
  simp only [ok, if_true]
  unfold trunFn
  rw [if_pos (by rw [s1]; exact hl), s2, s3]
  rfl
theorem trun_take {FR : List Str} {G : Str → Option Tr} {T : List (Str × Fn)} {fuel d : Nat} {vs : List Tr} {g : Bg} : trun FR G T fuel (d + 1) "_law_take" vs g = takeT vs g := by
  rw [trun, if_pos rfl]
theorem log_lt {m : Int} {k : Nat} (h0 : 0 < m) (h : m < 2 ^ k) : m.natAbs.log2 < k := by
  have : m.natAbs ≠ 0 := by omega
  rw [Nat.log2_lt this]
  have : (m.natAbs : Int) < (2 : Int) ^ k := by rw [Int.natAbs_of_nonneg (by omega)]; exact h
  exact_mod_cast this
/-- a draw below m -/
theorem draw {FR : List Str} {G : Str → Option Tr} {T : List (Str × Fn)} {fuel d : Nat} (g : Bg) {m : Int} (h0 : 0 < m) (h1 : m < 1809251394333065553493296640760748560207343510400633813116524750123642650624) : ∃ (x : Nat) (g' : Bg), trun FR G T fuel (d + 1) "_law_take" [.bag, .int m] g = some (.int x, g') ∧ (x : Int) < m := by
  obtain ⟨x, g', h, h2, h3⟩ := take_spec g h0 (Nat.lt_of_lt_of_le (log_lt (k := 250) h0 (Int.lt_of_lt_of_le h1 (by decide))) (by decide))
  refine ⟨x.toNat, g', ?_, by omega⟩
  rw [trun_take, h, Int.toNat_of_nonneg h2]
theorem turns_pure {α : Type} {step : Tr → Bg → Ts (Option Tr)} {g : Bg} (enc : α → Tr) (o : α → Option Tr) : ∀ (l : List α), (∀ a ∈ l, ∀ g, step (enc a) g = some (o a, g)) → tturns step (l.map enc) g = some (l.filterMap o, g)
  | [], _ => rfl
  | a :: l, h => by
    rw [List.map_cons, tturns, h a List.mem_cons_self, tb_some, turns_pure enc o l fun b hb => h b (List.mem_cons_of_mem _ hb), tb_some]
    cases e : o a with
    | none => rw [List.filterMap_cons, e]
    | some v => rw [List.filterMap_cons, e]
theorem turns_each {α : Type} {step : Tr → Bg → Ts (Option Tr)} {g : Bg} (enc : α → Tr) (f : α → Tr) (l : List α) (h : ∀ a ∈ l, ∀ g, step (enc a) g = some (some (f a), g)) : tturns step (l.map enc) g = some (l.map f, g) := by
  rw [turns_pure enc (fun a => some (f a)) l h]
  congr 2
  induction l with
  | nil => rfl
  | cons a l ih => rw [List.filterMap_cons, List.map_cons, ih fun b hb => h b (List.mem_cons_of_mem _ hb)]
/-- turns that draw -/
theorem turns_draw {α β : Type} {step : Tr → Bg → Ts (Option Tr)} (enc : α → Tr) (dec : β → Tr) (P : α → β → Prop) : ∀ (l : List α) (g : Bg), (∀ a ∈ l, ∀ g, ∃ y g', step (enc a) g = some (some (dec y), g') ∧ P a y) →
    ∃ (ys : List β) (g' : Bg), tturns step (l.map enc) g = some (ys.map dec, g') ∧ ys.length = l.length ∧ ∀ (i : Nat) (a : α) (y : β), l[i]? = some a → ys[i]? = some y → P a y
  | [], g, _ => ⟨[], g, rfl, rfl, fun i a y h => by simp at h⟩
  | a :: l, g, h => by
    obtain ⟨y, g1, h1, h2⟩ := h a List.mem_cons_self g
    obtain ⟨ys, g2, h3, h4, h5⟩ := turns_draw enc dec P l g1 fun b hb => h b (List.mem_cons_of_mem _ hb)
    refine ⟨y :: ys, g2, ?_, by simp [h4], fun i b z hb hz => ?_⟩
    · rw [List.map_cons, tturns, h1, tb_some, h3, tb_some]
      rfl
    · cases i with
      | zero => simp at hb hz; subst hb hz; exact h2
      | succ i => exact h5 i b z (by simpa using hb) (by simpa using hz)
/-- the turns of a for that go on -/
theorem loop_inv {step : Tr → TEv → Bg → Ts (TFl × TEv)} (I : Nat → TEv → Prop) : ∀ (xs : List Tr) (k : Nat) (r : TEv) (g : Bg), I k r → (∀ i x r g, xs[i]? = some x → I (k + i) r → ∃ r' g', step x r g = some ((.nx, r'), g') ∧ I (k + i + 1) r') →
    ∃ r' g', tloop step xs r g = some ((.nx, r'), g') ∧ I (k + xs.length) r'
  | [], k, r, g, h, _ => ⟨r, g, rfl, h⟩
  | x :: xs, k, r, g, h, hs => by
    obtain ⟨r1, g1, h1, h2⟩ := hs 0 x r g rfl h
    obtain ⟨r2, g2, h3, h4⟩ := loop_inv I xs (k + 1) r1 g1 h2 fun i y r g hy hi => by
      have := hs (i + 1) y r g (by simpa using hy) (by rw [show k + (i + 1) = k + 1 + i by omega]; exact hi)
      rw [show k + (i + 1) + 1 = k + 1 + i + 1 by omega] at this
      exact this
    refine ⟨r2, g2, ?_, ?_⟩
    · rw [tloop, h1, tb_some]
      exact h3
    · rw [List.length_cons, show k + (xs.length + 1) = k + 1 + xs.length by omega]
      exact h4
/-- the same where nothing is drawn -/
theorem loop_pure {step : Tr → TEv → Bg → Ts (TFl × TEv)} {g : Bg} (I : Nat → TEv → Prop) : ∀ (xs : List Tr) (k : Nat) (r : TEv), I k r → (∀ i x r, xs[i]? = some x → I (k + i) r → ∃ r', step x r g = some ((.nx, r'), g) ∧ I (k + i + 1) r') →
    ∃ r', tloop step xs r g = some ((.nx, r'), g) ∧ I (k + xs.length) r'
  | [], k, r, h, _ => ⟨r, rfl, h⟩
  | x :: xs, k, r, h, hs => by
    obtain ⟨r1, h1, h2⟩ := hs 0 x r rfl h
    obtain ⟨r2, h3, h4⟩ := loop_pure I xs (k + 1) r1 h2 fun i y r hy hi => by
      have := hs (i + 1) y r (by simpa using hy) (by rw [show k + (i + 1) = k + 1 + i by omega]; exact hi)
      rw [show k + (i + 1) + 1 = k + 1 + i + 1 by omega] at this
      exact this
    refine ⟨r2, ?_, ?_⟩
    · rw [tloop, h1, tb_some]
      exact h3
    · rw [List.length_cons, show k + (xs.length + 1) = k + 1 + xs.length by omega]
      exact h4
/-- data that may be compared and shown: leaves of at most B signs, weight w, depth d -/
def Okt (B w d : Nat) (t : Tr) : Prop := ∃ D, pyOf t = some D ∧ D.canLay0 = true ∧ D.showable = true ∧ D.leavesShort B = true ∧ D.weight ≤ w ∧ D.depth ≤ d
mutual
theorem leaves_mono {B B' : Nat} (h : B ≤ B') : ∀ D : PyData, D.leavesShort B = true → D.leavesShort B' = true
  | .none, _ => rfl
  | .bool _, _ => rfl
  | .int i, k => by
    rw [PyData.leavesShort, decide_eq_true_eq] at k ⊢
    omega
  | .str x, k => by rw [PyData.leavesShort] at k ⊢; exact k
  | .list xs, k => by rw [PyData.leavesShort] at k ⊢; exact leavesAll_mono h xs k
  | .tuple xs, k => by rw [PyData.leavesShort] at k ⊢; exact leavesAll_mono h xs k
  | .dict kvs, k => by rw [PyData.leavesShort] at k ⊢; exact leavesKv_mono h kvs k
theorem leavesAll_mono {B B' : Nat} (h : B ≤ B') : ∀ D : List PyData, PyData.leavesShortAll B D = true → PyData.leavesShortAll B' D = true
  | [], _ => rfl
  | x :: xs, k => by
    rw [PyData.leavesShortAll, Bool.and_eq_true] at k ⊢
    exact ⟨leaves_mono h x k.1, leavesAll_mono h xs k.2⟩
theorem leavesKv_mono {B B' : Nat} (h : B ≤ B') : ∀ D : List (PyData × PyData), PyData.leavesShortKv B D = true → PyData.leavesShortKv B' D = true
  | [], _ => rfl
  | (a, b) :: r, k => by
    simp only [PyData.leavesShortKv, Bool.and_eq_true] at k ⊢
    exact ⟨⟨leaves_mono h a k.1.1, leaves_mono h b k.1.2⟩, leavesKv_mono h r k.2⟩
end
theorem Okt.mono {B w d B' w' d' : Nat} {t : Tr} (h : Okt B w d t) (h1 : B ≤ B') (h2 : w ≤ w') (h3 : d ≤ d') : Okt B' w' d' t := by
  obtain ⟨D, a, b, c, e, f, g⟩ := h
  exact ⟨D, a, b, c, leaves_mono h1 D e, Nat.le_trans f h2, Nat.le_trans g h3⟩
theorem okt_int {i : Int} {k : Nat} (h : i.natAbs.log2 < k) (h0 : 0 < k) (hk : k ≤ 1920) : Okt (k + 1) k 0 (.int i) := by
  refine ⟨.int i, rfl, rfl, ?_, ?_, ?_, Nat.le_refl _⟩
  · rw [PyData.showable, decide_eq_true_eq]; omega
  · rw [PyData.leavesShort, decide_eq_true_eq]
    have e := PySem.int_text_length_le (a := i) (k := k) h0 h
    show (PySem.Str.ofString (toString i)).length ≤ k + 1
    rw [PySem.ofString_length]; exact e
  · rw [PyData.weight]
    split <;> omega
theorem okt_bl {b : Bool} {B w d : Nat} : Okt B w d (.bl b) := ⟨.bool b, rfl, rfl, rfl, rfl, Nat.zero_le _, Nat.zero_le _⟩
theorem okt_non {B w d : Nat} : Okt B w d .non := ⟨.none, rfl, rfl, rfl, rfl, Nat.zero_le _, Nat.zero_le _⟩
theorem okt_str {x : Str} {B n : Nat} (h : (x.cps.all (· < 0x110000)) = true) (hn : x.length ≤ n) : Okt B n 0 (.str x) := by
  refine ⟨.str x, rfl, ?_, rfl, ?_, hn, Nat.le_refl _⟩
  · rw [PyData.canLay0]; exact h
  · rw [PyData.leavesShort, List.all_eq_true]
    intro c hc
    rw [Array.all_eq_true_iff_forall_mem] at h
    have := h c (by simpa using hc)
    rw [decide_eq_true_eq] at this ⊢
    omega
theorem okt_all {B w d : Nat} : ∀ {ts : List Tr}, (∀ t ∈ ts, Okt B w d t) → ∃ Ds, pyAll ts = some Ds ∧ PyData.canLayAll0 Ds = true ∧ PyData.showableAll Ds = true ∧ PyData.leavesShortAll B Ds = true ∧ PyData.weightAll Ds ≤ ts.length * (w + 1) ∧ PyData.depthAll Ds ≤ d
  | [], _ => ⟨[], rfl, rfl, rfl, rfl, by simp [PyData.weightAll], by simp [PyData.depthAll]⟩
  | t :: ts, h => by
    obtain ⟨D, a1, a2, a3, a4, a5, a6⟩ := h t List.mem_cons_self
    obtain ⟨Ds, b1, b2, b3, b4, b5, b6⟩ := okt_all fun u hu => h u (List.mem_cons_of_mem _ hu)
    refine ⟨D :: Ds, ?_, ?_, ?_, ?_, ?_, ?_⟩
    · rw [pyAll, a1, b1]
    · rw [PyData.canLayAll0, a2, b2]; rfl
    · rw [PyData.showableAll, a3, b3]; rfl
    · rw [PyData.leavesShortAll, a4, b4]; rfl
    · rw [PyData.weightAll, List.length_cons, Nat.add_mul]; omega
    · rw [PyData.depthAll]; omega
theorem okt_tup {B w d n : Nat} {ts : List Tr} (h : ∀ t ∈ ts, Okt B w d t) (hn : ts.length ≤ n) : Okt B (n * (w + 1)) (d + 1) (.tup ts) := by
  obtain ⟨Ds, b1, b2, b3, b4, b5, b6⟩ := okt_all h
  refine ⟨.tuple Ds, by rw [pyOf, b1]; rfl, by rw [PyData.canLay0]; exact b2, by rw [PyData.showable]; exact b3, by rw [PyData.leavesShort]; exact b4, ?_, by rw [PyData.depth]; omega⟩
  rw [PyData.weight]
  exact Nat.le_trans b5 (Nat.mul_le_mul_right _ hn)
theorem okt_lst {B w d n : Nat} {ts : List Tr} (h : ∀ t ∈ ts, Okt B w d t) (hn : ts.length ≤ n) : Okt B (n * (w + 1)) (d + 1) (.lst ts) := by
  obtain ⟨Ds, b1, b2, b3, b4, b5, b6⟩ := okt_all h
  refine ⟨.list Ds, by rw [pyOf, b1]; rfl, by rw [PyData.canLay0]; exact b2, by rw [PyData.showable]; exact b3, by rw [PyData.leavesShort]; exact b4, ?_, by rw [PyData.depth]; omega⟩
  rw [PyData.weight]
  exact Nat.le_trans b5 (Nat.mul_le_mul_right _ hn)
theorem okt_same {B w d : Nat} {t : Tr} (h : Okt B w d t) (hd : d ≤ 30) : teq t t = some true := by
  obtain ⟨D, a, b, c, e, f, g⟩ := h
  have key : teqTree t t = some true := by
    unfold teqTree
    simp only [a]
    rw [if_pos, eqv_refl D b]
    simp only [fitD, b, Bool.true_and, Bool.and_self, decide_eq_true_eq]
    omega
  unfold teq
  split
  · simp
  · exact key
theorem okt_show {B w d : Nat} {t : Tr} (h : Okt B w d t) (hB : 8 ≤ B) (hw : (B + 2) * w + B ≤ lim) (hd : d ≤ 30) : ∃ x, tbi .repr [t] = some (.str x) := by
  obtain ⟨D, a, b, c, e, f, g⟩ := h
  refine ⟨D.shown, ?_⟩
  unfold tbi
  simp only [a]
  rw [if_pos]
  have s := PyData.shown_le B hB D e
  have m : (B + 2) * D.weight ≤ (B + 2) * w := Nat.mul_le_mul_left _ f
  simp only [showD, showOk, b, c, Bool.true_and, Bool.and_eq_true, decide_eq_true_eq]
  omega
theorem teq_str {a b : Str} : teq (.str a) (.str b) = some (a == b) := rfl
theorem teq_int {a b : Int} : teq (.int a) (.int b) = some (a == b) := rfl
theorem teq_bl {a b : Bool} : teq (.bl a) (.bl b) = some (a == b) := rfl
theorem tcmp_eq {x y : Tr} {b : Bool} (h : teq x y = some b) : tcmp .eq x y = some (.bl b) := by unfold tcmp; simp only [h]; rfl
theorem tcmp_ne {x y : Tr} {b : Bool} (h : teq x y = some b) : tcmp .ne x y = some (.bl (!b)) := by unfold tcmp; simp only [h]; rfl
theorem ceq_int {a b : Int} : tcmp .eq (.int a) (.int b) = some (.bl (a == b)) := rfl
theorem cne_int {a b : Int} : tcmp .ne (.int a) (.int b) = some (.bl (!(a == b))) := rfl
theorem ceq_str {a b : Str} : tcmp .eq (.str a) (.str b) = some (.bl (a == b)) := rfl
theorem clt_int {a b : Int} : tcmp .lt (.int a) (.int b) = some (.bl (decide (a < b))) := rfl
theorem cle_int {a b : Int} : tcmp .le (.int a) (.int b) = some (.bl (decide (a ≤ b))) := rfl
theorem cgt_int {a b : Int} : tcmp .gt (.int a) (.int b) = some (.bl (decide (b < a))) := rfl
theorem cge_int {a b : Int} : tcmp .ge (.int a) (.int b) = some (.bl (decide (b ≤ a))) := rfl
theorem pick_nat {α : Type} {xs : List α} {i : Nat} : pick xs (i : Int) = xs[i]? := by
  unfold pick place
  rw [if_pos (by omega)]
  by_cases h : i < xs.length
  · rw [if_pos (by omega)]; rfl
  · rw [if_neg (by omega), List.getElem?_eq_none_iff.mpr (by omega)]
theorem trangeOf1 {n : Nat} (h : n < 2 ^ 62) : trangeOf [.int n] = some ((List.range n).map fun i : Nat => .int i) := by
  unfold trangeOf
  simp only
  rw [if_pos]
  · unfold trange
    simp
  · rw [Bool.and_eq_true, decide_eq_true_eq, decide_eq_true_eq]
    have : ((2 : Nat) ^ 62 : Nat) = 4611686018427387904 := by decide
    have : ((2 : Int) ^ 62) = 4611686018427387904 := by decide
    omega
theorem mem_lim {n : Nat} (h : n ≤ 16777216) : n ≤ lim := h
theorem tints_map : ∀ ns : List Int, tints (ns.map .int) = some ns
  | [] => rfl
  | n :: ns => by rw [List.map_cons, tints, tints_map ns]; rfl
theorem ttexts_map : ∀ ns : List Str, ttexts (ns.map .str) = some ns
  | [] => rfl
  | n :: ns => by rw [List.map_cons, ttexts, ttexts_map ns]; rfl
theorem tbools_map : ∀ ns : List Bool, tbools (ns.map .bl) = some ns
  | [] => rfl
  | n :: ns => by rw [List.map_cons, tbools, tbools_map ns]; rfl
theorem tsort_strs {l : List Str} (h : l.length < 64) : tsort (l.map .str) = some ((sortS l).map .str) := by
  unfold tsort
  cases l with
  | nil => rfl
  | cons a l =>
    rw [ttexts_map]
    have : tints ((a :: l).map Tr.str) = none := rfl
    rw [this]
    simp only [if_pos h]
theorem tsort_ints {l : List Int} : tsort (l.map .int) = some ((sortI l).map .int) := by
  unfold tsort
  rw [tints_map]
abbrev rowT (xs : List Int) : Tr := .tup (xs.map .int)
abbrev strsT (xs : List Str) : Tr := .tup (xs.map .str)
theorem tpairs_map {α β : Type} (f : α → Tr) (h : β → Tr) : ∀ (xs : List α) (ys : List β), tpairs (xs.map f) (ys.map h) = (xs.zip ys).map fun p => .tup [f p.1, h p.2]
  | [], _ => by simp [tpairs]
  | _ :: _, [] => by simp [tpairs]
  | x :: xs, y :: ys => by simp only [List.map_cons, tpairs, List.zip_cons_cons, tpairs_map f h xs ys]
/-- the defs that return new lists, by some rounds -/
def frRound (T : List (Str × Fn)) (l : List Str) : List Str := (T.filter fun p => l.contains p.1 && (frSs l (ownF p.2) p.2.body && retS.retSs p.2.body)).map (·.1)
def frN (T : List (Str × Fn)) : Nat → List Str → List Str
  | 0, l => l
  | n + 1, l => frN T n (frRound T l)
def frOf (T : List (Str × Fn)) : List Str := frN T 6 ((T.filter fun p => !decide (p.1 = ("_law_take" : Str))).map (·.1))
end A46
end
section
namespace A46
open PySem (Str PyData)
def f__law_take : Fn :=
  ⟨["_law_bag_here", "_law_many"], ["_law_bag_here", "_law_many", "_law_begin", "_law_second", "_law_cell", "_law_mixed", "_law_value"], (.cons (.ite (.cmp .eq (.idx (.var 0) (.con (.int 0))) (.con (.int 0))) (.cons (.asg (.tg (.nm 4)) (.con (.int 0)))
    (.cons (.ite (.cmp .lt (.idx (.var 0) (.con (.int 2))) (.bi .len (.cons (.idx (.var 0) (.con (.int 3))) .nil))) (.cons (.asg (.tg (.nm 4)) (.idx (.idx (.var 0) (.con (.int 3))) (.idx (.var 0) (.con (.int 2))))) .nil) (.nil))
    (.cons (.aug (.var 0) (.con (.int 2)) .add (.con (.int 1)))
    (.cons (.ite (.cmp .ge (.var 4) (.con (.int 1000000000000000000))) (.cons (.asg (.sub (.var 0) (.con (.int 0))) (.var 4)) .nil) (.nil))
    (.cons (.asg (.tg (.nm 5)) (.bin .add (.bin .add (.bin .mul (.idx (.var 0) (.con (.int 1))) (.con (.int 48271))) (.bin .mod (.bi .int (.cons (.var 4) .nil)) (.con (.int 2147483647)))) (.bin .mul (.con (.int 7919)) (.idx (.var 0) (.con (.int 2))))))
    (.cons (.asg (.sub (.var 0) (.con (.int 1))) (.bin .mod (.bi .int (.cons (.var 5) .nil)) (.con (.int 2147483647)))) .nil)))))) (.nil))
  (.cons (.ite (.cmp .gt (.idx (.var 0) (.con (.int 0))) (.con (.int 0))) (.cons (.asg (.tg (.nm 6)) (.bin .mod (.bi .int (.cons (.idx (.var 0) (.con (.int 0))) .nil)) (.var 1)))
    (.cons (.asg (.sub (.var 0) (.con (.int 0))) (.bin .fdiv (.idx (.var 0) (.con (.int 0))) (.var 1)))
    (.cons (.ret (.var 6)) .nil))) (.nil))
  (.cons (.asg (.tg (.nm 2)) (.bin .mod (.bi .int (.cons (.bin .mul (.bin .add (.idx (.var 0) (.con (.int 1))) (.con (.int 1))) (.con (.int 39373))) .nil)) (.con (.int 1000000007))))
  (.cons (.asg (.tg (.nm 3)) (.bin .mod (.bi .int (.cons (.bin .mul (.bin .mod (.bi .int (.cons (.bin .mul (.var 2) (.var 2)) .nil)) (.con (.int 998244353))) (.con (.int 30011))) .nil)) (.con (.int 998244353))))
  (.cons (.ite (.cmp .gt (.var 1) (.con (.int 1000000))) (.cons (.ret (.bin .mod (.bi .int (.cons (.bin .add (.bin .mul (.var 3) (.con (.int 1000000007))) (.var 2)) .nil)) (.var 1))) .nil) (.nil))
  (.cons (.ret (.bin .mod (.bi .int (.cons (.bin .fdiv (.var 3) (.con (.int 7))) .nil)) (.var 1))) .nil))))))⟩
def f__law_alike : Fn :=
  ⟨["_law_found", "_law_due"], ["_law_found", "_law_due"], (.cons (.ret (.and (.cmp .eq (.var 0) (.var 1)) (.cmp .eq (.bi .repr (.cons (.var 0) .nil)) (.bi .repr (.cons (.var 1) .nil))))) .nil)⟩
def f__law_one : Fn :=
  ⟨["_law_bag_here", "_law_things_here"], ["_law_bag_here", "_law_things_here"], (.cons (.ret (.idx (.var 1) (.call "_law_take" (.cons (.var 0) (.cons (.bi .len (.cons (.var 1) .nil)) .nil))))) .nil)⟩
def f__law_things : Fn :=
  ⟨["_law_bag_here", "_law_many"], ["_law_bag_here", "_law_many", "_law_menu", "_law_letters", "_law_stem", "_law_way", "_law_turn", "_law_k"], (.cons (.asg (.tg (.nm 2)) (.me .split (.con (.str "alike heavier unlike strike undo redo word why so ab abc a z zzzzzzzz things on")) (.cons (.con (.str " ")) .nil)))
  (.cons (.asg (.tg (.tp [5, 6])) (.tup (.cons (.call "_law_take" (.cons (.var 0) (.cons (.con (.int 5)) .nil))) (.cons (.call "_law_take" (.cons (.var 0) (.cons (.con (.int 16)) .nil))) .nil))))
  (.cons (.ite (.cmp .eq (.var 5) (.con (.int 0))) (.cons (.ret (.bi .tuple (.cons (.bi .sorted (.cons (.sl (.bin .add (.sl (.var 2) (.some (.var 6)) .none) (.sl (.var 2) .none (.some (.var 6)))) .none (.some (.var 1))) .nil)) .nil))) .nil) (.nil))
  (.cons (.ite (.cmp .eq (.var 5) (.con (.int 1))) (.cons (.ret (.bi .tuple (.cons (.lc (.range1 (.var 1)) (.nm 7) .none (.sl (.con (.str "aaaaaaaa")) .none (.some (.bin .add (.var 7) (.con (.int 1))))) [7]) .nil))) .nil) (.nil))
  (.cons (.asg (.tg (.nm 3)) (.con (.str "abcdefghijklmnopqrstuvwxyz")))
  (.cons (.asg (.tg (.nm 4)) (.idx (.lst (.cons (.con (.str "")) (.cons (.con (.str "")) (.cons (.idx (.var 3) (.var 6)) (.cons (.con (.str "zzzzzzz")) .nil))))) (.bin .sub (.var 5) (.con (.int 1)))))
  (.cons (.ret (.bi .tuple (.cons (.bi .sorted (.cons (.lc (.range1 (.var 1)) (.nm 7) .none (.bin .add (.var 4) (.idx (.var 3) (.bin .mod (.bi .int (.cons (.bin .add (.var 6) (.bin .mul (.con (.int 3)) (.var 7))) .nil)) (.con (.int 26))))) [7]) .nil)) .nil))) .nil)))))))⟩
def f__law_sum : Fn :=
  ⟨["_law_bag_here", "_law_things_here", "_law_many"], ["_law_bag_here", "_law_things_here", "_law_many", "_law_k"], (.cons (.ite (.cmp .eq (.var 1) (.tup .nil)) (.cons (.ret (.tup .nil)) .nil) (.nil))
  (.cons (.ret (.bi .tuple (.cons (.bi .sorted (.cons (.lc (.range1 (.var 2)) (.nm 3) .none (.call "_law_one" (.cons (.var 0) (.cons (.var 1) .nil))) [3]) .nil)) .nil))) .nil))⟩
def f__law_pair : Fn :=
  ⟨["_law_bag_here", "_law_things_here"], ["_law_bag_here", "_law_things_here", "_law_one_here", "_law_many", "_law_way"], (.cons (.asg (.tg (.tp [3, 4])) (.tup (.cons (.idx (.lst (.cons (.con (.int 2)) (.cons (.con (.int 1)) (.cons (.con (.int 2)) (.cons (.con (.int 3)) .nil))))) (.call "_law_take" (.cons (.var 0) (.cons (.con (.int 4)) .nil)))) (.cons (.call "_law_take" (.cons (.var 0) (.cons (.con (.int 8)) .nil))) .nil))))
  (.cons (.asg (.tg (.nm 2)) (.call "_law_sum" (.cons (.var 0) (.cons (.var 1) (.cons (.var 3) .nil)))))
  (.cons (.ite (.cmp .eq (.var 4) (.con (.int 0))) (.cons (.ret (.tup (.cons (.var 2) (.cons (.call "_law_sum" (.cons (.var 0) (.cons (.var 1) (.cons (.call "_law_take" (.cons (.var 0) (.cons (.con (.int 4)) .nil))) .nil)))) .nil)))) .nil) (.nil))
  (.cons (.ite (.cmp .eq (.var 4) (.con (.int 2))) (.cons (.ret (.tup (.cons (.call "_law_sum" (.cons (.var 0) (.cons (.var 1) (.cons (.call "_law_take" (.cons (.var 0) (.cons (.con (.int 4)) .nil))) .nil)))) (.cons (.var 2) .nil)))) .nil) (.nil))
  (.cons (.ret (.tup (.cons (.var 2) (.cons (.ite (.cmp .eq (.var 4) (.con (.int 1))) (.var 2) (.call "_law_sum" (.cons (.var 0) (.cons (.var 1) (.cons (.var 3) .nil))))) .nil)))) .nil)))))⟩
end A46
end
section
namespace A46
open PySem (Str PyData)
theorem len_tup {xs : List Tr} : tbi .len [.tup xs] = some (.int xs.length) := rfl
theorem len_lst {xs : List Tr} : tbi .len [.lst xs] = some (.int xs.length) := rfl
theorem len_dct {xs : List (KeyV × Tr)} : tbi .len [.dct xs] = some (.int xs.length) := rfl
theorem len_str {z : Str} (h : z.length ≤ lim) : tbi .len [.str z] = some (.int z.length) := by simp only [tbi, if_pos h]
theorem int_int {i : Int} : tbi .int [.int i] = some (.int i) := rfl
theorem int_bl {b : Bool} : tbi .int [.bl b] = some (.int (if b then 1 else 0)) := rfl
theorem abs_int {i : Int} : tbi .abs [.int i] = some (.int i.natAbs) := rfl
theorem tuple_lst {xs : List Tr} : tbi .tuple [.lst xs] = some (.tup xs) := rfl
theorem tuple_tup {xs : List Tr} : tbi .tuple [.tup xs] = some (.tup xs) := rfl
theorem list_lst {xs : List Tr} : tbi .list [.lst xs] = some (.lst xs) := rfl
theorem list_tup {xs : List Tr} : tbi .list [.tup xs] = some (.lst xs) := rfl
theorem sum_lst {xs : List Int} : tbi .sum [.lst (xs.map .int)] = some (.int xs.sum) := by simp only [tbi, tseq, tints_map]; rfl
theorem sum_tup {xs : List Int} : tbi .sum [.tup (xs.map .int)] = some (.int xs.sum) := by simp only [tbi, tseq, tints_map]; rfl
theorem sorted_strs {l : List Str} (h : l.length < 64) : tbi .sorted [.lst (l.map .str)] = some (.lst ((sortS l).map .str)) := by simp only [tbi, tlst, tsort_strs h]; rfl
theorem sorted_ints {l : List Int} : tbi .sorted [.lst (l.map .int)] = some (.lst ((sortI l).map .int)) := by simp only [tbi, tlst, tsort_ints]; rfl
theorem all_bls {l : List Bool} : tbi .all [.lst (l.map .bl)] = some (.bl (l.all id)) := by simp only [tbi, tlst, tbools_map]; rfl
theorem any_bls {l : List Bool} : tbi .any [.lst (l.map .bl)] = some (.bl (l.any id)) := by simp only [tbi, tlst, tbools_map]; rfl
section
variable {FR : List Str} {G : Str → Option Tr} {T : List (Str × Fn)} {fuel d : Nat} {g : Bg}
theorem alike_t [Has FR T ("_law_alike" : Str) f__law_alike] {t : Tr} {B w k : Nat} (h : Okt B w k t) (hB : 8 ≤ B) (hw : (B + 2) * w + B ≤ lim) (hk : k ≤ 30) : trun FR G T fuel (d + 1) "_law_alike" [t, t] g = some (.bl true, g) := by
  rw [trun_eq (f := "_law_alike") (by rfl)]
  unfold f__law_alike
  obtain ⟨x, hx⟩ := okt_show h hB hw hk
  simp only [h_bin, h_bin1, h_bin2, h_cmp, h_cmp1, h_cmp2, h_neg, h_neg1, h_nt, h_nt1, h_nt2, h_and, h_and1, h_andt, h_andf, h_or, h_or1, h_ort, h_orf, h_isn, h_isn1, h_isn2, h_ch, h_ch1, h_ch2, h_ch3, h_ch4, h_ite, h_ite1, h_itet, h_itef, h_tup, h_tup1, h_lst, h_lst1, h_idx, h_idx1, h_idx2, h_sl, h_sl1, h_sl2, h_sl3, h_call, h_call1, h_bi, h_bi1, h_me, h_me1, h_me2, h_me3, h_me4, h_lc, h_lc1, h_tn, h_tn1, h_tn2, h_tn3, h_tn4, h_nil, h_cons, h_cons1, h_cons2, h_star, h_star1, h_star2, h_star3, h_o0, h_o1, h_o2, h_c0, h_c1, h_c2, h_seq, h_seq1, h_seq2, h_seq3, h_r1, h_r11, h_r2, h_r21, h_r22, h_zip, h_zip1, h_zip2, h_zip3, h_enum, h_enum1, h_var, h_var1, h_int, h_str, h_bl, h_non, h_glo, h_done, h_then, h_then1, h_then2, h_asg, h_asg1, h_asg2, h_asg3, h_asg4, h_augN, h_augN1, h_augN2, h_augN3, h_mu_append, h_mu_clear, h_mu_extend, h_mu_insert, h_mu1, h_mu2, h_mu3, h_ex1, h_ret, h_ret1, h_if, h_if1, h_ift, h_iff, h_for, h_for1, h_body, h_body1, h_cond, h_whl, h_pass, h_fn1, h_fn2, b_nm, b_tp, b_all0, b_all, w_0, w_1, tt_non, tt_bl, tt_int, tt_tup, tt_lst, tt_dct, o_add, o_adds, o_addt, o_addl, o_sub, o_mul, o_mull, o_mult, o_fdiv, o_mod, o_pow, i_tup, i_lst, i_str, i_dct, i_dci, sl_tup, sl_lst', sl_str, mu_app, mu_clr, mu_ext, mu_ins, isN_non, notN_non, tb_some, tof_some, Option.map_some, Option.map_none, List.map_cons, List.map_nil, List.length_cons, List.length_nil, List.replicate_succ, List.replicate_zero, List.cons_append, List.nil_append, Nat.add_sub_cancel, Nat.sub_self, Nat.zero_add, Nat.reduceAdd, Nat.reduceSub, List.set_cons_zero, List.set_cons_succ, List.getElem?_cons_zero, List.getElem?_cons_succ, List.append_nil, if_true, if_false, Bool.false_eq_true, reduceIte, Bool.not_true, Bool.not_false, len_tup, len_lst, len_dct, int_int, int_bl, abs_int, tuple_lst, tuple_tup, list_lst, list_tup, sum_lst, sum_tup, all_bls, any_bls, ceq_int, cne_int, ceq_str, clt_int, cle_int, cgt_int, cge_int, List.length_map, tcmp_eq (okt_same h hk), hx, beq_self_eq_true]
theorem one_t [Has FR T ("_law_one" : Str) f__law_one] {α : Type} (enc : α → Tr) {l : List α} (h0 : l ≠ []) (h1 : l.length < 1000) (g : Bg) : ∃ x g', trun FR G T fuel (d + 2) "_law_one" [.bag, .tup (l.map enc)] g = some (enc x, g') ∧ x ∈ l := by
  rw [trun_eq (f := "_law_one") (by rfl)]
  unfold f__law_one
  have hp : 0 < l.length := List.length_pos_iff.mpr h0
  obtain ⟨x, g', h, hx⟩ := draw (FR := FR) (G := G) (T := T) (fuel := fuel) (d := d) g (m := (l.length : Int)) (by omega) (Int.lt_trans (show (l.length : Int) < 1000 by omega) (by decide))
  have hx : x < l.length := by omega
  simp only [h_bin, h_bin1, h_bin2, h_cmp, h_cmp1, h_cmp2, h_neg, h_neg1, h_nt, h_nt1, h_nt2, h_and, h_and1, h_andt, h_andf, h_or, h_or1, h_ort, h_orf, h_isn, h_isn1, h_isn2, h_ch, h_ch1, h_ch2, h_ch3, h_ch4, h_ite, h_ite1, h_itet, h_itef, h_tup, h_tup1, h_lst, h_lst1, h_idx, h_idx1, h_idx2, h_sl, h_sl1, h_sl2, h_sl3, h_call, h_call1, h_bi, h_bi1, h_me, h_me1, h_me2, h_me3, h_me4, h_lc, h_lc1, h_tn, h_tn1, h_tn2, h_tn3, h_tn4, h_nil, h_cons, h_cons1, h_cons2, h_star, h_star1, h_star2, h_star3, h_o0, h_o1, h_o2, h_c0, h_c1, h_c2, h_seq, h_seq1, h_seq2, h_seq3, h_r1, h_r11, h_r2, h_r21, h_r22, h_zip, h_zip1, h_zip2, h_zip3, h_enum, h_enum1, h_var, h_var1, h_int, h_str, h_bl, h_non, h_glo, h_done, h_then, h_then1, h_then2, h_asg, h_asg1, h_asg2, h_asg3, h_asg4, h_augN, h_augN1, h_augN2, h_augN3, h_mu_append, h_mu_clear, h_mu_extend, h_mu_insert, h_mu1, h_mu2, h_mu3, h_ex1, h_ret, h_ret1, h_if, h_if1, h_ift, h_iff, h_for, h_for1, h_body, h_body1, h_cond, h_whl, h_pass, h_fn1, h_fn2, b_nm, b_tp, b_all0, b_all, w_0, w_1, tt_non, tt_bl, tt_int, tt_tup, tt_lst, tt_dct, o_add, o_adds, o_addt, o_addl, o_sub, o_mul, o_mull, o_mult, o_fdiv, o_mod, o_pow, i_tup, i_lst, i_str, i_dct, i_dci, sl_tup, sl_lst', sl_str, mu_app, mu_clr, mu_ext, mu_ins, isN_non, notN_non, tb_some, tof_some, Option.map_some, Option.map_none, List.map_cons, List.map_nil, List.length_cons, List.length_nil, List.replicate_succ, List.replicate_zero, List.cons_append, List.nil_append, Nat.add_sub_cancel, Nat.sub_self, Nat.zero_add, Nat.reduceAdd, Nat.reduceSub, List.set_cons_zero, List.set_cons_succ, List.getElem?_cons_zero, List.getElem?_cons_succ, List.append_nil, if_true, if_false, Bool.false_eq_true, reduceIte, Bool.not_true, Bool.not_false, len_tup, len_lst, len_dct, int_int, int_bl, abs_int, tuple_lst, tuple_tup, list_lst, list_tup, sum_lst, sum_tup, all_bls, any_bls, ceq_int, cne_int, ceq_str, clt_int, cle_int, cgt_int, cge_int, List.length_map, h, pick_nat, List.getElem?_map, List.getElem?_eq_getElem hx]
  exact ⟨_, _, rfl, List.getElem_mem hx⟩
theorem one_l [Has FR T ("_law_one" : Str) f__law_one] {α : Type} (enc : α → Tr) {l : List α} (h0 : l ≠ []) (h1 : l.length < 1000) (g : Bg) : ∃ x g', trun FR G T fuel (d + 2) "_law_one" [.bag, .lst (l.map enc)] g = some (enc x, g') ∧ x ∈ l := by
  rw [trun_eq (f := "_law_one") (by rfl)]
  unfold f__law_one
  have hp : 0 < l.length := List.length_pos_iff.mpr h0
  obtain ⟨x, g', h, hx⟩ := draw (FR := FR) (G := G) (T := T) (fuel := fuel) (d := d) g (m := (l.length : Int)) (by omega) (Int.lt_trans (show (l.length : Int) < 1000 by omega) (by decide))
  have hx : x < l.length := by omega
  simp only [h_bin, h_bin1, h_bin2, h_cmp, h_cmp1, h_cmp2, h_neg, h_neg1, h_nt, h_nt1, h_nt2, h_and, h_and1, h_andt, h_andf, h_or, h_or1, h_ort, h_orf, h_isn, h_isn1, h_isn2, h_ch, h_ch1, h_ch2, h_ch3, h_ch4, h_ite, h_ite1, h_itet, h_itef, h_tup, h_tup1, h_lst, h_lst1, h_idx, h_idx1, h_idx2, h_sl, h_sl1, h_sl2, h_sl3, h_call, h_call1, h_bi, h_bi1, h_me, h_me1, h_me2, h_me3, h_me4, h_lc, h_lc1, h_tn, h_tn1, h_tn2, h_tn3, h_tn4, h_nil, h_cons, h_cons1, h_cons2, h_star, h_star1, h_star2, h_star3, h_o0, h_o1, h_o2, h_c0, h_c1, h_c2, h_seq, h_seq1, h_seq2, h_seq3, h_r1, h_r11, h_r2, h_r21, h_r22, h_zip, h_zip1, h_zip2, h_zip3, h_enum, h_enum1, h_var, h_var1, h_int, h_str, h_bl, h_non, h_glo, h_done, h_then, h_then1, h_then2, h_asg, h_asg1, h_asg2, h_asg3, h_asg4, h_augN, h_augN1, h_augN2, h_augN3, h_mu_append, h_mu_clear, h_mu_extend, h_mu_insert, h_mu1, h_mu2, h_mu3, h_ex1, h_ret, h_ret1, h_if, h_if1, h_ift, h_iff, h_for, h_for1, h_body, h_body1, h_cond, h_whl, h_pass, h_fn1, h_fn2, b_nm, b_tp, b_all0, b_all, w_0, w_1, tt_non, tt_bl, tt_int, tt_tup, tt_lst, tt_dct, o_add, o_adds, o_addt, o_addl, o_sub, o_mul, o_mull, o_mult, o_fdiv, o_mod, o_pow, i_tup, i_lst, i_str, i_dct, i_dci, sl_tup, sl_lst', sl_str, mu_app, mu_clr, mu_ext, mu_ins, isN_non, notN_non, tb_some, tof_some, Option.map_some, Option.map_none, List.map_cons, List.map_nil, List.length_cons, List.length_nil, List.replicate_succ, List.replicate_zero, List.cons_append, List.nil_append, Nat.add_sub_cancel, Nat.sub_self, Nat.zero_add, Nat.reduceAdd, Nat.reduceSub, List.set_cons_zero, List.set_cons_succ, List.getElem?_cons_zero, List.getElem?_cons_succ, List.append_nil, if_true, if_false, Bool.false_eq_true, reduceIte, Bool.not_true, Bool.not_false, len_tup, len_lst, len_dct, int_int, int_bl, abs_int, tuple_lst, tuple_tup, list_lst, list_tup, sum_lst, sum_tup, all_bls, any_bls, ceq_int, cne_int, ceq_str, clt_int, cle_int, cgt_int, cge_int, List.length_map, h, pick_nat, List.getElem?_map, List.getElem?_eq_getElem hx]
  exact ⟨_, _, rfl, List.getElem_mem hx⟩
end
def menuT : Str := "alike heavier unlike strike undo redo word why so ab abc a z zzzzzzzz things on"
def menu : List Str := PySem.Txt.split menuT " "
def letters : Str := "abcdefghijklmnopqrstuvwxyz"
def stemP (way turn : Nat) : Str := if way = 2 then "" else if way = 3 then ⟨#[letters.cps.toList.getD turn 0]⟩ else "zzzzzzz"
def thingsP (way turn many : Nat) : List Str :=
  if way = 0 then sortS (cut (cut menu (some (turn : Int)) none ++ cut menu none (some (turn : Int))) none (some (many : Int)))
  else if way = 1 then (List.range many).map fun k : Nat => ⟨(cut ("aaaaaaaa" : Str).cps.toList none (some ((k : Int) + 1))).toArray⟩
  else sortS ((List.range many).map fun k : Nat => stemP way turn ++ ⟨#[letters.cps.toList.getD ((turn + 3 * k) % 26) 0]⟩)
/-- lower letters alone, one to eight of them -/
def nameB (x : Str) : Bool := decide (1 ≤ x.length) && decide (x.length ≤ 8) && x.cps.toList.all fun c => decide (97 ≤ c) && decide (c ≤ 122)
def incB : List Str → Bool
  | [] => true
  | [_] => true
  | x :: y :: r => strLt x y && incB (y :: r)
def goodB (many : Nat) (l : List Str) : Bool := decide (l.length = many) && l.all nameB && incB l
theorem good_all : ((List.range 5).all fun w => (List.range 16).all fun t => (List.range 7).all fun m => goodB m (thingsP w t m)) = true := by decide +kernel
theorem menu_len : menu.length = 16 := by decide +kernel
theorem split_menu : PySem.Txt.split ("alike heavier unlike strike undo redo word why so ab abc a z zzzzzzzz things on" : Str) " " = menu := by unfold menu menuT; rfl
theorem stem_len {w t : Nat} : (stemP w t).length ≤ 8 := by
  unfold stemP
  split
  · decide +kernel
  · split
    · show 1 ≤ 8
      decide
    · decide +kernel
theorem good_of {w t m : Nat} (hw : w < 5) (ht : t < 16) (hm : m < 7) : goodB m (thingsP w t m) = true := by
  have h := good_all
  rw [List.all_eq_true] at h
  have h := h w (List.mem_range.mpr hw)
  rw [List.all_eq_true] at h
  have h := h t (List.mem_range.mpr ht)
  rw [List.all_eq_true] at h
  exact h m (List.mem_range.mpr hm)
theorem inc_pw : ∀ {l : List Str}, incB l = true → l.Pairwise fun a b => strLt a b = true
  | [], _ => .nil
  | [_], _ => .cons (fun _ h => nomatch h) .nil
  | x :: y :: r, h => by
    rw [incB, Bool.and_eq_true] at h
    have ih := inc_pw h.2
    refine .cons (fun z hz => ?_) ih
    rcases List.mem_cons.mp hz with rfl | hz
    · exact h.1
    · have h1 := (List.pairwise_cons.mp ih).1 z hz
      have h2 := h.1
      unfold strLt at h1 h2 ⊢
      rw [decide_eq_true_eq] at h1 h2 ⊢
      exact List.lt_trans h2 h1
/-- things as they are drawn -/
structure Things (l : List Str) : Prop where
  len : l.length ≤ 6
  nm : ∀ x ∈ l, nameB x = true
  inc : l.Pairwise fun a b => strLt a b = true
theorem Things.nd {l : List Str} (h : Things l) : l.Nodup := h.inc.imp fun {a b} z e => by
  subst e
  unfold strLt at z
  rw [decide_eq_true_eq] at z
  exact List.lt_irrefl _ z
theorem Things.of {m : Nat} {l : List Str} (hm : m ≤ 6) (h : goodB m l = true) : Things l ∧ l.length = m := by
  simp only [goodB, Bool.and_eq_true, decide_eq_true_eq, List.all_eq_true] at h
  exact ⟨⟨by omega, h.1.2, inc_pw h.2⟩, h.1.1⟩
theorem split_t : tmeth .split (.str "alike heavier unlike strike undo redo word why so ab abc a z zzzzzzzz things on") [.str " "] = some (.lst (menu.map .str)) := by
  unfold tmeth
  simp only
  rw [if_pos (by decide +kernel), split_menu]
theorem lit_lim {z : Str} (h : z.length ≤ 1000) : z.length ≤ lim := Nat.le_trans h (by decide)
section
variable {FR : List Str} {G : Str → Option Tr} {T : List (Str × Fn)} {fuel d : Nat}
theorem things_w0 [Has FR T ("_law_things" : Str) f__law_things] {m t : Nat} {g g1 g2 : Bg} (h1 : trun FR G T fuel (d + 1) "_law_take" [.bag, .int 5] g = some (.int 0, g1)) (h2 : trun FR G T fuel (d + 1) "_law_take" [.bag, .int 16] g1 = some (.int t, g2)) :
   trun FR G T fuel (d + 2) "_law_things" [.bag, .int m] g = some (.tup ((sortS (cut (cut menu (some (t : Int)) none ++ cut menu none (some (t : Int))) none (some (m : Int)))).map .str), g2) := by
  obtain ⟨mn, hmn⟩ : ∃ mn, mn = menu := ⟨_, rfl⟩
  have ml : mn.length = 16 := by rw [hmn]; exact menu_len
  have hM := split_t
  rw [← hmn] at hM ⊢
  clear hmn
  rw [trun_eq (f := "_law_things") (by rfl)]
  unfold f__law_things
  simp only [h_bin, h_bin1, h_bin2, h_cmp, h_cmp1, h_cmp2, h_neg, h_neg1, h_nt, h_nt1, h_nt2, h_and, h_and1, h_andt, h_andf, h_or, h_or1, h_ort, h_orf, h_isn, h_isn1, h_isn2, h_ch, h_ch1, h_ch2, h_ch3, h_ch4, h_ite, h_ite1, h_itet, h_itef, h_tup, h_tup1, h_lst, h_lst1, h_idx, h_idx1, h_idx2, h_sl, h_sl1, h_sl2, h_sl3, h_call, h_call1, h_bi, h_bi1, h_me, h_me1, h_me2, h_me3, h_me4, h_lc, h_lc1, h_tn, h_tn1, h_tn2, h_tn3, h_tn4, h_nil, h_cons, h_cons1, h_cons2, h_star, h_star1, h_star2, h_star3, h_o0, h_o1, h_o2, h_c0, h_c1, h_c2, h_seq, h_seq1, h_seq2, h_seq3, h_r1, h_r11, h_r2, h_r21, h_r22, h_zip, h_zip1, h_zip2, h_zip3, h_enum, h_enum1, h_var, h_var1, h_int, h_str, h_bl, h_non, h_glo, h_done, h_then, h_then1, h_then2, h_asg, h_asg1, h_asg2, h_asg3, h_asg4, h_augN, h_augN1, h_augN2, h_augN3, h_mu_append, h_mu_clear, h_mu_extend, h_mu_insert, h_mu1, h_mu2, h_mu3, h_ex1, h_ret, h_ret1, h_if, h_if1, h_ift, h_iff, h_for, h_for1, h_body, h_body1, h_cond, h_whl, h_pass, h_fn1, h_fn2, b_nm, b_tp, b_all0, b_all, w_0, w_1, tt_non, tt_bl, tt_int, tt_tup, tt_lst, tt_dct, o_add, o_adds, o_addt, o_addl, o_sub, o_mul, o_mull, o_mult, o_fdiv, o_mod, o_pow, i_tup, i_lst, i_str, i_dct, i_dci, sl_tup, sl_lst', sl_str, mu_app, mu_clr, mu_ext, mu_ins, isN_non, notN_non, tb_some, tof_some, Option.map_some, Option.map_none, List.map_cons, List.map_nil, List.length_cons, List.length_nil, List.replicate_succ, List.replicate_zero, List.cons_append, List.nil_append, Nat.add_sub_cancel, Nat.sub_self, Nat.zero_add, Nat.reduceAdd, Nat.reduceSub, List.set_cons_zero, List.set_cons_succ, List.getElem?_cons_zero, List.getElem?_cons_succ, List.append_nil, if_true, if_false, Bool.false_eq_true, reduceIte, Bool.not_true, Bool.not_false, len_tup, len_lst, len_dct, int_int, int_bl, abs_int, tuple_lst, tuple_tup, list_lst, list_tup, sum_lst, sum_tup, all_bls, any_bls, ceq_int, cne_int, ceq_str, clt_int, cle_int, cgt_int, cge_int, List.length_map, hM, h1, h2]
  rw [if_pos (show 2 ≤ lim by decide)]
  simp only [h_bin, h_bin1, h_bin2, h_cmp, h_cmp1, h_cmp2, h_neg, h_neg1, h_nt, h_nt1, h_nt2, h_and, h_and1, h_andt, h_andf, h_or, h_or1, h_ort, h_orf, h_isn, h_isn1, h_isn2, h_ch, h_ch1, h_ch2, h_ch3, h_ch4, h_ite, h_ite1, h_itet, h_itef, h_tup, h_tup1, h_lst, h_lst1, h_idx, h_idx1, h_idx2, h_sl, h_sl1, h_sl2, h_sl3, h_call, h_call1, h_bi, h_bi1, h_me, h_me1, h_me2, h_me3, h_me4, h_lc, h_lc1, h_tn, h_tn1, h_tn2, h_tn3, h_tn4, h_nil, h_cons, h_cons1, h_cons2, h_star, h_star1, h_star2, h_star3, h_o0, h_o1, h_o2, h_c0, h_c1, h_c2, h_seq, h_seq1, h_seq2, h_seq3, h_r1, h_r11, h_r2, h_r21, h_r22, h_zip, h_zip1, h_zip2, h_zip3, h_enum, h_enum1, h_var, h_var1, h_int, h_str, h_bl, h_non, h_glo, h_done, h_then, h_then1, h_then2, h_asg, h_asg1, h_asg2, h_asg3, h_asg4, h_augN, h_augN1, h_augN2, h_augN3, h_mu_append, h_mu_clear, h_mu_extend, h_mu_insert, h_mu1, h_mu2, h_mu3, h_ex1, h_ret, h_ret1, h_if, h_if1, h_ift, h_iff, h_for, h_for1, h_body, h_body1, h_cond, h_whl, h_pass, h_fn1, h_fn2, b_nm, b_tp, b_all0, b_all, w_0, w_1, tt_non, tt_bl, tt_int, tt_tup, tt_lst, tt_dct, o_add, o_adds, o_addt, o_addl, o_sub, o_mul, o_mull, o_mult, o_fdiv, o_mod, o_pow, i_tup, i_lst, i_str, i_dct, i_dci, sl_tup, sl_lst', sl_str, mu_app, mu_clr, mu_ext, mu_ins, isN_non, notN_non, tb_some, tof_some, Option.map_some, Option.map_none, List.map_cons, List.map_nil, List.length_cons, List.length_nil, List.replicate_succ, List.replicate_zero, List.cons_append, List.nil_append, Nat.add_sub_cancel, Nat.sub_self, Nat.zero_add, Nat.reduceAdd, Nat.reduceSub, List.set_cons_zero, List.set_cons_succ, List.getElem?_cons_zero, List.getElem?_cons_succ, List.append_nil, if_true, if_false, Bool.false_eq_true, reduceIte, Bool.not_true, Bool.not_false, len_tup, len_lst, len_dct, int_int, int_bl, abs_int, tuple_lst, tuple_tup, list_lst, list_tup, sum_lst, sum_tup, all_bls, any_bls, ceq_int, cne_int, ceq_str, clt_int, cle_int, cgt_int, cge_int, List.length_map]
  have e0 : ((0 : Int) == 0) = true := by rfl
  simp only [h_bin, h_bin1, h_bin2, h_cmp, h_cmp1, h_cmp2, h_neg, h_neg1, h_nt, h_nt1, h_nt2, h_and, h_and1, h_andt, h_andf, h_or, h_or1, h_ort, h_orf, h_isn, h_isn1, h_isn2, h_ch, h_ch1, h_ch2, h_ch3, h_ch4, h_ite, h_ite1, h_itet, h_itef, h_tup, h_tup1, h_lst, h_lst1, h_idx, h_idx1, h_idx2, h_sl, h_sl1, h_sl2, h_sl3, h_call, h_call1, h_bi, h_bi1, h_me, h_me1, h_me2, h_me3, h_me4, h_lc, h_lc1, h_tn, h_tn1, h_tn2, h_tn3, h_tn4, h_nil, h_cons, h_cons1, h_cons2, h_star, h_star1, h_star2, h_star3, h_o0, h_o1, h_o2, h_c0, h_c1, h_c2, h_seq, h_seq1, h_seq2, h_seq3, h_r1, h_r11, h_r2, h_r21, h_r22, h_zip, h_zip1, h_zip2, h_zip3, h_enum, h_enum1, h_var, h_var1, h_int, h_str, h_bl, h_non, h_glo, h_done, h_then, h_then1, h_then2, h_asg, h_asg1, h_asg2, h_asg3, h_asg4, h_augN, h_augN1, h_augN2, h_augN3, h_mu_append, h_mu_clear, h_mu_extend, h_mu_insert, h_mu1, h_mu2, h_mu3, h_ex1, h_ret, h_ret1, h_if, h_if1, h_ift, h_iff, h_for, h_for1, h_body, h_body1, h_cond, h_whl, h_pass, h_fn1, h_fn2, b_nm, b_tp, b_all0, b_all, w_0, w_1, tt_non, tt_bl, tt_int, tt_tup, tt_lst, tt_dct, o_add, o_adds, o_addt, o_addl, o_sub, o_mul, o_mull, o_mult, o_fdiv, o_mod, o_pow, i_tup, i_lst, i_str, i_dct, i_dci, sl_tup, sl_lst', sl_str, mu_app, mu_clr, mu_ext, mu_ins, isN_non, notN_non, tb_some, tof_some, Option.map_some, Option.map_none, List.map_cons, List.map_nil, List.length_cons, List.length_nil, List.replicate_succ, List.replicate_zero, List.cons_append, List.nil_append, Nat.add_sub_cancel, Nat.sub_self, Nat.zero_add, Nat.reduceAdd, Nat.reduceSub, List.set_cons_zero, List.set_cons_succ, List.getElem?_cons_zero, List.getElem?_cons_succ, List.append_nil, if_true, if_false, Bool.false_eq_true, reduceIte, Bool.not_true, Bool.not_false, len_tup, len_lst, len_dct, int_int, int_bl, abs_int, tuple_lst, tuple_tup, list_lst, list_tup, sum_lst, sum_tup, all_bls, any_bls, ceq_int, cne_int, ceq_str, clt_int, cle_int, cgt_int, cge_int, List.length_map, e0, cut_map]
  have l1 := cut_len (xs := mn) (lo := some (t : Int)) (hi := none)
  have l2 := cut_len (xs := mn) (lo := none) (hi := some (t : Int))
  rw [if_pos (mem_lim (by omega))]
  simp only [h_bin, h_bin1, h_bin2, h_cmp, h_cmp1, h_cmp2, h_neg, h_neg1, h_nt, h_nt1, h_nt2, h_and, h_and1, h_andt, h_andf, h_or, h_or1, h_ort, h_orf, h_isn, h_isn1, h_isn2, h_ch, h_ch1, h_ch2, h_ch3, h_ch4, h_ite, h_ite1, h_itet, h_itef, h_tup, h_tup1, h_lst, h_lst1, h_idx, h_idx1, h_idx2, h_sl, h_sl1, h_sl2, h_sl3, h_call, h_call1, h_bi, h_bi1, h_me, h_me1, h_me2, h_me3, h_me4, h_lc, h_lc1, h_tn, h_tn1, h_tn2, h_tn3, h_tn4, h_nil, h_cons, h_cons1, h_cons2, h_star, h_star1, h_star2, h_star3, h_o0, h_o1, h_o2, h_c0, h_c1, h_c2, h_seq, h_seq1, h_seq2, h_seq3, h_r1, h_r11, h_r2, h_r21, h_r22, h_zip, h_zip1, h_zip2, h_zip3, h_enum, h_enum1, h_var, h_var1, h_int, h_str, h_bl, h_non, h_glo, h_done, h_then, h_then1, h_then2, h_asg, h_asg1, h_asg2, h_asg3, h_asg4, h_augN, h_augN1, h_augN2, h_augN3, h_mu_append, h_mu_clear, h_mu_extend, h_mu_insert, h_mu1, h_mu2, h_mu3, h_ex1, h_ret, h_ret1, h_if, h_if1, h_ift, h_iff, h_for, h_for1, h_body, h_body1, h_cond, h_whl, h_pass, h_fn1, h_fn2, b_nm, b_tp, b_all0, b_all, w_0, w_1, tt_non, tt_bl, tt_int, tt_tup, tt_lst, tt_dct, o_add, o_adds, o_addt, o_addl, o_sub, o_mul, o_mull, o_mult, o_fdiv, o_mod, o_pow, i_tup, i_lst, i_str, i_dct, i_dci, sl_tup, sl_lst', sl_str, mu_app, mu_clr, mu_ext, mu_ins, isN_non, notN_non, tb_some, tof_some, Option.map_some, Option.map_none, List.map_cons, List.map_nil, List.length_cons, List.length_nil, List.replicate_succ, List.replicate_zero, List.cons_append, List.nil_append, Nat.add_sub_cancel, Nat.sub_self, Nat.zero_add, Nat.reduceAdd, Nat.reduceSub, List.set_cons_zero, List.set_cons_succ, List.getElem?_cons_zero, List.getElem?_cons_succ, List.append_nil, if_true, if_false, Bool.false_eq_true, reduceIte, Bool.not_true, Bool.not_false, len_tup, len_lst, len_dct, int_int, int_bl, abs_int, tuple_lst, tuple_tup, list_lst, list_tup, sum_lst, sum_tup, all_bls, any_bls, ceq_int, cne_int, ceq_str, clt_int, cle_int, cgt_int, cge_int, List.length_map, ← List.map_append, cut_map]
  rw [sorted_strs (by
      have h3 := cut_len (xs := cut mn (some (t : Int)) none ++ cut mn none (some (t : Int))) (lo := none) (hi := some (m : Int))
      rw [List.length_append] at h3
      omega)]
  simp only [h_bin, h_bin1, h_bin2, h_cmp, h_cmp1, h_cmp2, h_neg, h_neg1, h_nt, h_nt1, h_nt2, h_and, h_and1, h_andt, h_andf, h_or, h_or1, h_ort, h_orf, h_isn, h_isn1, h_isn2, h_ch, h_ch1, h_ch2, h_ch3, h_ch4, h_ite, h_ite1, h_itet, h_itef, h_tup, h_tup1, h_lst, h_lst1, h_idx, h_idx1, h_idx2, h_sl, h_sl1, h_sl2, h_sl3, h_call, h_call1, h_bi, h_bi1, h_me, h_me1, h_me2, h_me3, h_me4, h_lc, h_lc1, h_tn, h_tn1, h_tn2, h_tn3, h_tn4, h_nil, h_cons, h_cons1, h_cons2, h_star, h_star1, h_star2, h_star3, h_o0, h_o1, h_o2, h_c0, h_c1, h_c2, h_seq, h_seq1, h_seq2, h_seq3, h_r1, h_r11, h_r2, h_r21, h_r22, h_zip, h_zip1, h_zip2, h_zip3, h_enum, h_enum1, h_var, h_var1, h_int, h_str, h_bl, h_non, h_glo, h_done, h_then, h_then1, h_then2, h_asg, h_asg1, h_asg2, h_asg3, h_asg4, h_augN, h_augN1, h_augN2, h_augN3, h_mu_append, h_mu_clear, h_mu_extend, h_mu_insert, h_mu1, h_mu2, h_mu3, h_ex1, h_ret, h_ret1, h_if, h_if1, h_ift, h_iff, h_for, h_for1, h_body, h_body1, h_cond, h_whl, h_pass, h_fn1, h_fn2, b_nm, b_tp, b_all0, b_all, w_0, w_1, tt_non, tt_bl, tt_int, tt_tup, tt_lst, tt_dct, o_add, o_adds, o_addt, o_addl, o_sub, o_mul, o_mull, o_mult, o_fdiv, o_mod, o_pow, i_tup, i_lst, i_str, i_dct, i_dci, sl_tup, sl_lst', sl_str, mu_app, mu_clr, mu_ext, mu_ins, isN_non, notN_non, tb_some, tof_some, Option.map_some, Option.map_none, List.map_cons, List.map_nil, List.length_cons, List.length_nil, List.replicate_succ, List.replicate_zero, List.cons_append, List.nil_append, Nat.add_sub_cancel, Nat.sub_self, Nat.zero_add, Nat.reduceAdd, Nat.reduceSub, List.set_cons_zero, List.set_cons_succ, List.getElem?_cons_zero, List.getElem?_cons_succ, List.append_nil, if_true, if_false, Bool.false_eq_true, reduceIte, Bool.not_true, Bool.not_false, len_tup, len_lst, len_dct, int_int, int_bl, abs_int, tuple_lst, tuple_tup, list_lst, list_tup, sum_lst, sum_tup, all_bls, any_bls, ceq_int, cne_int, ceq_str, clt_int, cle_int, cgt_int, cge_int, List.length_map]
theorem things_w1 [Has FR T ("_law_things" : Str) f__law_things] {m t : Nat} (hm : m ≤ 6) {g g1 g2 : Bg} (h1 : trun FR G T fuel (d + 1) "_law_take" [.bag, .int 5] g = some (.int 1, g1)) (h2 : trun FR G T fuel (d + 1) "_law_take" [.bag, .int 16] g1 = some (.int t, g2)) :
   trun FR G T fuel (d + 2) "_law_things" [.bag, .int m] g = some (.tup ((List.range m).map fun i : Nat => .str ⟨(cut ("aaaaaaaa" : Str).cps.toList none (some ((i : Int) + 1))).toArray⟩), g2) := by
  obtain ⟨M, hM⟩ : ∃ M, tmeth .split (.str "alike heavier unlike strike undo redo word why so ab abc a z zzzzzzzz things on") [.str " "] = some (.lst M) := ⟨_, split_t⟩
  rw [trun_eq (f := "_law_things") (by rfl)]
  unfold f__law_things
  simp only [h_bin, h_bin1, h_bin2, h_cmp, h_cmp1, h_cmp2, h_neg, h_neg1, h_nt, h_nt1, h_nt2, h_and, h_and1, h_andt, h_andf, h_or, h_or1, h_ort, h_orf, h_isn, h_isn1, h_isn2, h_ch, h_ch1, h_ch2, h_ch3, h_ch4, h_ite, h_ite1, h_itet, h_itef, h_tup, h_tup1, h_lst, h_lst1, h_idx, h_idx1, h_idx2, h_sl, h_sl1, h_sl2, h_sl3, h_call, h_call1, h_bi, h_bi1, h_me, h_me1, h_me2, h_me3, h_me4, h_lc, h_lc1, h_tn, h_tn1, h_tn2, h_tn3, h_tn4, h_nil, h_cons, h_cons1, h_cons2, h_star, h_star1, h_star2, h_star3, h_o0, h_o1, h_o2, h_c0, h_c1, h_c2, h_seq, h_seq1, h_seq2, h_seq3, h_r1, h_r11, h_r2, h_r21, h_r22, h_zip, h_zip1, h_zip2, h_zip3, h_enum, h_enum1, h_var, h_var1, h_int, h_str, h_bl, h_non, h_glo, h_done, h_then, h_then1, h_then2, h_asg, h_asg1, h_asg2, h_asg3, h_asg4, h_augN, h_augN1, h_augN2, h_augN3, h_mu_append, h_mu_clear, h_mu_extend, h_mu_insert, h_mu1, h_mu2, h_mu3, h_ex1, h_ret, h_ret1, h_if, h_if1, h_ift, h_iff, h_for, h_for1, h_body, h_body1, h_cond, h_whl, h_pass, h_fn1, h_fn2, b_nm, b_tp, b_all0, b_all, w_0, w_1, tt_non, tt_bl, tt_int, tt_tup, tt_lst, tt_dct, o_add, o_adds, o_addt, o_addl, o_sub, o_mul, o_mull, o_mult, o_fdiv, o_mod, o_pow, i_tup, i_lst, i_str, i_dct, i_dci, sl_tup, sl_lst', sl_str, mu_app, mu_clr, mu_ext, mu_ins, isN_non, notN_non, tb_some, tof_some, Option.map_some, Option.map_none, List.map_cons, List.map_nil, List.length_cons, List.length_nil, List.replicate_succ, List.replicate_zero, List.cons_append, List.nil_append, Nat.add_sub_cancel, Nat.sub_self, Nat.zero_add, Nat.reduceAdd, Nat.reduceSub, List.set_cons_zero, List.set_cons_succ, List.getElem?_cons_zero, List.getElem?_cons_succ, List.append_nil, if_true, if_false, Bool.false_eq_true, reduceIte, Bool.not_true, Bool.not_false, len_tup, len_lst, len_dct, int_int, int_bl, abs_int, tuple_lst, tuple_tup, list_lst, list_tup, sum_lst, sum_tup, all_bls, any_bls, ceq_int, cne_int, ceq_str, clt_int, cle_int, cgt_int, cge_int, List.length_map, hM, h1, h2]
  rw [if_pos (show 2 ≤ lim by decide)]
  simp only [h_bin, h_bin1, h_bin2, h_cmp, h_cmp1, h_cmp2, h_neg, h_neg1, h_nt, h_nt1, h_nt2, h_and, h_and1, h_andt, h_andf, h_or, h_or1, h_ort, h_orf, h_isn, h_isn1, h_isn2, h_ch, h_ch1, h_ch2, h_ch3, h_ch4, h_ite, h_ite1, h_itet, h_itef, h_tup, h_tup1, h_lst, h_lst1, h_idx, h_idx1, h_idx2, h_sl, h_sl1, h_sl2, h_sl3, h_call, h_call1, h_bi, h_bi1, h_me, h_me1, h_me2, h_me3, h_me4, h_lc, h_lc1, h_tn, h_tn1, h_tn2, h_tn3, h_tn4, h_nil, h_cons, h_cons1, h_cons2, h_star, h_star1, h_star2, h_star3, h_o0, h_o1, h_o2, h_c0, h_c1, h_c2, h_seq, h_seq1, h_seq2, h_seq3, h_r1, h_r11, h_r2, h_r21, h_r22, h_zip, h_zip1, h_zip2, h_zip3, h_enum, h_enum1, h_var, h_var1, h_int, h_str, h_bl, h_non, h_glo, h_done, h_then, h_then1, h_then2, h_asg, h_asg1, h_asg2, h_asg3, h_asg4, h_augN, h_augN1, h_augN2, h_augN3, h_mu_append, h_mu_clear, h_mu_extend, h_mu_insert, h_mu1, h_mu2, h_mu3, h_ex1, h_ret, h_ret1, h_if, h_if1, h_ift, h_iff, h_for, h_for1, h_body, h_body1, h_cond, h_whl, h_pass, h_fn1, h_fn2, b_nm, b_tp, b_all0, b_all, w_0, w_1, tt_non, tt_bl, tt_int, tt_tup, tt_lst, tt_dct, o_add, o_adds, o_addt, o_addl, o_sub, o_mul, o_mull, o_mult, o_fdiv, o_mod, o_pow, i_tup, i_lst, i_str, i_dct, i_dci, sl_tup, sl_lst', sl_str, mu_app, mu_clr, mu_ext, mu_ins, isN_non, notN_non, tb_some, tof_some, Option.map_some, Option.map_none, List.map_cons, List.map_nil, List.length_cons, List.length_nil, List.replicate_succ, List.replicate_zero, List.cons_append, List.nil_append, Nat.add_sub_cancel, Nat.sub_self, Nat.zero_add, Nat.reduceAdd, Nat.reduceSub, List.set_cons_zero, List.set_cons_succ, List.getElem?_cons_zero, List.getElem?_cons_succ, List.append_nil, if_true, if_false, Bool.false_eq_true, reduceIte, Bool.not_true, Bool.not_false, len_tup, len_lst, len_dct, int_int, int_bl, abs_int, tuple_lst, tuple_tup, list_lst, list_tup, sum_lst, sum_tup, all_bls, any_bls, ceq_int, cne_int, ceq_str, clt_int, cle_int, cgt_int, cge_int, List.length_map]
  have e0 : ((1 : Int) == 0) = false := by rfl
  have e1 : ((1 : Int) == 1) = true := by rfl
  simp only [h_bin, h_bin1, h_bin2, h_cmp, h_cmp1, h_cmp2, h_neg, h_neg1, h_nt, h_nt1, h_nt2, h_and, h_and1, h_andt, h_andf, h_or, h_or1, h_ort, h_orf, h_isn, h_isn1, h_isn2, h_ch, h_ch1, h_ch2, h_ch3, h_ch4, h_ite, h_ite1, h_itet, h_itef, h_tup, h_tup1, h_lst, h_lst1, h_idx, h_idx1, h_idx2, h_sl, h_sl1, h_sl2, h_sl3, h_call, h_call1, h_bi, h_bi1, h_me, h_me1, h_me2, h_me3, h_me4, h_lc, h_lc1, h_tn, h_tn1, h_tn2, h_tn3, h_tn4, h_nil, h_cons, h_cons1, h_cons2, h_star, h_star1, h_star2, h_star3, h_o0, h_o1, h_o2, h_c0, h_c1, h_c2, h_seq, h_seq1, h_seq2, h_seq3, h_r1, h_r11, h_r2, h_r21, h_r22, h_zip, h_zip1, h_zip2, h_zip3, h_enum, h_enum1, h_var, h_var1, h_int, h_str, h_bl, h_non, h_glo, h_done, h_then, h_then1, h_then2, h_asg, h_asg1, h_asg2, h_asg3, h_asg4, h_augN, h_augN1, h_augN2, h_augN3, h_mu_append, h_mu_clear, h_mu_extend, h_mu_insert, h_mu1, h_mu2, h_mu3, h_ex1, h_ret, h_ret1, h_if, h_if1, h_ift, h_iff, h_for, h_for1, h_body, h_body1, h_cond, h_whl, h_pass, h_fn1, h_fn2, b_nm, b_tp, b_all0, b_all, w_0, w_1, tt_non, tt_bl, tt_int, tt_tup, tt_lst, tt_dct, o_add, o_adds, o_addt, o_addl, o_sub, o_mul, o_mull, o_mult, o_fdiv, o_mod, o_pow, i_tup, i_lst, i_str, i_dct, i_dci, sl_tup, sl_lst', sl_str, mu_app, mu_clr, mu_ext, mu_ins, isN_non, notN_non, tb_some, tof_some, Option.map_some, Option.map_none, List.map_cons, List.map_nil, List.length_cons, List.length_nil, List.replicate_succ, List.replicate_zero, List.cons_append, List.nil_append, Nat.add_sub_cancel, Nat.sub_self, Nat.zero_add, Nat.reduceAdd, Nat.reduceSub, List.set_cons_zero, List.set_cons_succ, List.getElem?_cons_zero, List.getElem?_cons_succ, List.append_nil, if_true, if_false, Bool.false_eq_true, reduceIte, Bool.not_true, Bool.not_false, len_tup, len_lst, len_dct, int_int, int_bl, abs_int, tuple_lst, tuple_tup, list_lst, list_tup, sum_lst, sum_tup, all_bls, any_bls, ceq_int, cne_int, ceq_str, clt_int, cle_int, cgt_int, cge_int, List.length_map, e0, e1, trangeOf1 (show m < 2 ^ 62 by omega)]
  rw [turns_each (fun i : Nat => Tr.int i) (fun i : Nat => .str ⟨(cut ("aaaaaaaa" : Str).cps.toList none (some ((i : Int) + 1))).toArray⟩) (List.range m) (fun a _ g => by
    simp only [h_bin, h_bin1, h_bin2, h_cmp, h_cmp1, h_cmp2, h_neg, h_neg1, h_nt, h_nt1, h_nt2, h_and, h_and1, h_andt, h_andf, h_or, h_or1, h_ort, h_orf, h_isn, h_isn1, h_isn2, h_ch, h_ch1, h_ch2, h_ch3, h_ch4, h_ite, h_ite1, h_itet, h_itef, h_tup, h_tup1, h_lst, h_lst1, h_idx, h_idx1, h_idx2, h_sl, h_sl1, h_sl2, h_sl3, h_call, h_call1, h_bi, h_bi1, h_me, h_me1, h_me2, h_me3, h_me4, h_lc, h_lc1, h_tn, h_tn1, h_tn2, h_tn3, h_tn4, h_nil, h_cons, h_cons1, h_cons2, h_star, h_star1, h_star2, h_star3, h_o0, h_o1, h_o2, h_c0, h_c1, h_c2, h_seq, h_seq1, h_seq2, h_seq3, h_r1, h_r11, h_r2, h_r21, h_r22, h_zip, h_zip1, h_zip2, h_zip3, h_enum, h_enum1, h_var, h_var1, h_int, h_str, h_bl, h_non, h_glo, h_done, h_then, h_then1, h_then2, h_asg, h_asg1, h_asg2, h_asg3, h_asg4, h_augN, h_augN1, h_augN2, h_augN3, h_mu_append, h_mu_clear, h_mu_extend, h_mu_insert, h_mu1, h_mu2, h_mu3, h_ex1, h_ret, h_ret1, h_if, h_if1, h_ift, h_iff, h_for, h_for1, h_body, h_body1, h_cond, h_whl, h_pass, h_fn1, h_fn2, b_nm, b_tp, b_all0, b_all, w_0, w_1, tt_non, tt_bl, tt_int, tt_tup, tt_lst, tt_dct, o_add, o_adds, o_addt, o_addl, o_sub, o_mul, o_mull, o_mult, o_fdiv, o_mod, o_pow, i_tup, i_lst, i_str, i_dct, i_dci, sl_tup, sl_lst', sl_str, mu_app, mu_clr, mu_ext, mu_ins, isN_non, notN_non, tb_some, tof_some, Option.map_some, Option.map_none, List.map_cons, List.map_nil, List.length_cons, List.length_nil, List.replicate_succ, List.replicate_zero, List.cons_append, List.nil_append, Nat.add_sub_cancel, Nat.sub_self, Nat.zero_add, Nat.reduceAdd, Nat.reduceSub, List.set_cons_zero, List.set_cons_succ, List.getElem?_cons_zero, List.getElem?_cons_succ, List.append_nil, if_true, if_false, Bool.false_eq_true, reduceIte, Bool.not_true, Bool.not_false, len_tup, len_lst, len_dct, int_int, int_bl, abs_int, tuple_lst, tuple_tup, list_lst, list_tup, sum_lst, sum_tup, all_bls, any_bls, ceq_int, cne_int, ceq_str, clt_int, cle_int, cgt_int, cge_int, List.length_map]
    rw [if_pos (by decide +kernel)]
    simp only [h_bin, h_bin1, h_bin2, h_cmp, h_cmp1, h_cmp2, h_neg, h_neg1, h_nt, h_nt1, h_nt2, h_and, h_and1, h_andt, h_andf, h_or, h_or1, h_ort, h_orf, h_isn, h_isn1, h_isn2, h_ch, h_ch1, h_ch2, h_ch3, h_ch4, h_ite, h_ite1, h_itet, h_itef, h_tup, h_tup1, h_lst, h_lst1, h_idx, h_idx1, h_idx2, h_sl, h_sl1, h_sl2, h_sl3, h_call, h_call1, h_bi, h_bi1, h_me, h_me1, h_me2, h_me3, h_me4, h_lc, h_lc1, h_tn, h_tn1, h_tn2, h_tn3, h_tn4, h_nil, h_cons, h_cons1, h_cons2, h_star, h_star1, h_star2, h_star3, h_o0, h_o1, h_o2, h_c0, h_c1, h_c2, h_seq, h_seq1, h_seq2, h_seq3, h_r1, h_r11, h_r2, h_r21, h_r22, h_zip, h_zip1, h_zip2, h_zip3, h_enum, h_enum1, h_var, h_var1, h_int, h_str, h_bl, h_non, h_glo, h_done, h_then, h_then1, h_then2, h_asg, h_asg1, h_asg2, h_asg3, h_asg4, h_augN, h_augN1, h_augN2, h_augN3, h_mu_append, h_mu_clear, h_mu_extend, h_mu_insert, h_mu1, h_mu2, h_mu3, h_ex1, h_ret, h_ret1, h_if, h_if1, h_ift, h_iff, h_for, h_for1, h_body, h_body1, h_cond, h_whl, h_pass, h_fn1, h_fn2, b_nm, b_tp, b_all0, b_all, w_0, w_1, tt_non, tt_bl, tt_int, tt_tup, tt_lst, tt_dct, o_add, o_adds, o_addt, o_addl, o_sub, o_mul, o_mull, o_mult, o_fdiv, o_mod, o_pow, i_tup, i_lst, i_str, i_dct, i_dci, sl_tup, sl_lst', sl_str, mu_app, mu_clr, mu_ext, mu_ins, isN_non, notN_non, tb_some, tof_some, Option.map_some, Option.map_none, List.map_cons, List.map_nil, List.length_cons, List.length_nil, List.replicate_succ, List.replicate_zero, List.cons_append, List.nil_append, Nat.add_sub_cancel, Nat.sub_self, Nat.zero_add, Nat.reduceAdd, Nat.reduceSub, List.set_cons_zero, List.set_cons_succ, List.getElem?_cons_zero, List.getElem?_cons_succ, List.append_nil, if_true, if_false, Bool.false_eq_true, reduceIte, Bool.not_true, Bool.not_false, len_tup, len_lst, len_dct, int_int, int_bl, abs_int, tuple_lst, tuple_tup, list_lst, list_tup, sum_lst, sum_tup, all_bls, any_bls, ceq_int, cne_int, ceq_str, clt_int, cle_int, cgt_int, cge_int, List.length_map])]
  simp only [h_bin, h_bin1, h_bin2, h_cmp, h_cmp1, h_cmp2, h_neg, h_neg1, h_nt, h_nt1, h_nt2, h_and, h_and1, h_andt, h_andf, h_or, h_or1, h_ort, h_orf, h_isn, h_isn1, h_isn2, h_ch, h_ch1, h_ch2, h_ch3, h_ch4, h_ite, h_ite1, h_itet, h_itef, h_tup, h_tup1, h_lst, h_lst1, h_idx, h_idx1, h_idx2, h_sl, h_sl1, h_sl2, h_sl3, h_call, h_call1, h_bi, h_bi1, h_me, h_me1, h_me2, h_me3, h_me4, h_lc, h_lc1, h_tn, h_tn1, h_tn2, h_tn3, h_tn4, h_nil, h_cons, h_cons1, h_cons2, h_star, h_star1, h_star2, h_star3, h_o0, h_o1, h_o2, h_c0, h_c1, h_c2, h_seq, h_seq1, h_seq2, h_seq3, h_r1, h_r11, h_r2, h_r21, h_r22, h_zip, h_zip1, h_zip2, h_zip3, h_enum, h_enum1, h_var, h_var1, h_int, h_str, h_bl, h_non, h_glo, h_done, h_then, h_then1, h_then2, h_asg, h_asg1, h_asg2, h_asg3, h_asg4, h_augN, h_augN1, h_augN2, h_augN3, h_mu_append, h_mu_clear, h_mu_extend, h_mu_insert, h_mu1, h_mu2, h_mu3, h_ex1, h_ret, h_ret1, h_if, h_if1, h_ift, h_iff, h_for, h_for1, h_body, h_body1, h_cond, h_whl, h_pass, h_fn1, h_fn2, b_nm, b_tp, b_all0, b_all, w_0, w_1, tt_non, tt_bl, tt_int, tt_tup, tt_lst, tt_dct, o_add, o_adds, o_addt, o_addl, o_sub, o_mul, o_mull, o_mult, o_fdiv, o_mod, o_pow, i_tup, i_lst, i_str, i_dct, i_dci, sl_tup, sl_lst', sl_str, mu_app, mu_clr, mu_ext, mu_ins, isN_non, notN_non, tb_some, tof_some, Option.map_some, Option.map_none, List.map_cons, List.map_nil, List.length_cons, List.length_nil, List.replicate_succ, List.replicate_zero, List.cons_append, List.nil_append, Nat.add_sub_cancel, Nat.sub_self, Nat.zero_add, Nat.reduceAdd, Nat.reduceSub, List.set_cons_zero, List.set_cons_succ, List.getElem?_cons_zero, List.getElem?_cons_succ, List.append_nil, if_true, if_false, Bool.false_eq_true, reduceIte, Bool.not_true, Bool.not_false, len_tup, len_lst, len_dct, int_int, int_bl, abs_int, tuple_lst, tuple_tup, list_lst, list_tup, sum_lst, sum_tup, all_bls, any_bls, ceq_int, cne_int, ceq_str, clt_int, cle_int, cgt_int, cge_int, List.length_map, List.length_range]
  rw [if_pos (mem_lim (by omega))]
  simp only [h_bin, h_bin1, h_bin2, h_cmp, h_cmp1, h_cmp2, h_neg, h_neg1, h_nt, h_nt1, h_nt2, h_and, h_and1, h_andt, h_andf, h_or, h_or1, h_ort, h_orf, h_isn, h_isn1, h_isn2, h_ch, h_ch1, h_ch2, h_ch3, h_ch4, h_ite, h_ite1, h_itet, h_itef, h_tup, h_tup1, h_lst, h_lst1, h_idx, h_idx1, h_idx2, h_sl, h_sl1, h_sl2, h_sl3, h_call, h_call1, h_bi, h_bi1, h_me, h_me1, h_me2, h_me3, h_me4, h_lc, h_lc1, h_tn, h_tn1, h_tn2, h_tn3, h_tn4, h_nil, h_cons, h_cons1, h_cons2, h_star, h_star1, h_star2, h_star3, h_o0, h_o1, h_o2, h_c0, h_c1, h_c2, h_seq, h_seq1, h_seq2, h_seq3, h_r1, h_r11, h_r2, h_r21, h_r22, h_zip, h_zip1, h_zip2, h_zip3, h_enum, h_enum1, h_var, h_var1, h_int, h_str, h_bl, h_non, h_glo, h_done, h_then, h_then1, h_then2, h_asg, h_asg1, h_asg2, h_asg3, h_asg4, h_augN, h_augN1, h_augN2, h_augN3, h_mu_append, h_mu_clear, h_mu_extend, h_mu_insert, h_mu1, h_mu2, h_mu3, h_ex1, h_ret, h_ret1, h_if, h_if1, h_ift, h_iff, h_for, h_for1, h_body, h_body1, h_cond, h_whl, h_pass, h_fn1, h_fn2, b_nm, b_tp, b_all0, b_all, w_0, w_1, tt_non, tt_bl, tt_int, tt_tup, tt_lst, tt_dct, o_add, o_adds, o_addt, o_addl, o_sub, o_mul, o_mull, o_mult, o_fdiv, o_mod, o_pow, i_tup, i_lst, i_str, i_dct, i_dci, sl_tup, sl_lst', sl_str, mu_app, mu_clr, mu_ext, mu_ins, isN_non, notN_non, tb_some, tof_some, Option.map_some, Option.map_none, List.map_cons, List.map_nil, List.length_cons, List.length_nil, List.replicate_succ, List.replicate_zero, List.cons_append, List.nil_append, Nat.add_sub_cancel, Nat.sub_self, Nat.zero_add, Nat.reduceAdd, Nat.reduceSub, List.set_cons_zero, List.set_cons_succ, List.getElem?_cons_zero, List.getElem?_cons_succ, List.append_nil, if_true, if_false, Bool.false_eq_true, reduceIte, Bool.not_true, Bool.not_false, len_tup, len_lst, len_dct, int_int, int_bl, abs_int, tuple_lst, tuple_tup, list_lst, list_tup, sum_lst, sum_tup, all_bls, any_bls, ceq_int, cne_int, ceq_str, clt_int, cle_int, cgt_int, cge_int, List.length_map]
theorem things_w2 [Has FR T ("_law_things" : Str) f__law_things] {m t w : Nat} (hm : m ≤ 6) (ht : t < 16) (hw : w < 5) (w0 : w ≠ 0) (w1 : w ≠ 1) {g g1 g2 : Bg} (h1 : trun FR G T fuel (d + 1) "_law_take" [.bag, .int 5] g = some (.int w, g1)) (h2 : trun FR G T fuel (d + 1) "_law_take" [.bag, .int 16] g1 = some (.int t, g2)) :
   trun FR G T fuel (d + 2) "_law_things" [.bag, .int m] g = some (.tup ((sortS ((List.range m).map fun k : Nat => stemP w t ++ ⟨#[letters.cps.toList.getD ((t + 3 * k) % 26) 0]⟩)).map .str), g2) := by
  obtain ⟨M, hM⟩ : ∃ M, tmeth .split (.str "alike heavier unlike strike undo redo word why so ab abc a z zzzzzzzz things on") [.str " "] = some (.lst M) := ⟨_, split_t⟩
  rw [trun_eq (f := "_law_things") (by rfl)]
  unfold f__law_things
  simp only [h_bin, h_bin1, h_bin2, h_cmp, h_cmp1, h_cmp2, h_neg, h_neg1, h_nt, h_nt1, h_nt2, h_and, h_and1, h_andt, h_andf, h_or, h_or1, h_ort, h_orf, h_isn, h_isn1, h_isn2, h_ch, h_ch1, h_ch2, h_ch3, h_ch4, h_ite, h_ite1, h_itet, h_itef, h_tup, h_tup1, h_lst, h_lst1, h_idx, h_idx1, h_idx2, h_sl, h_sl1, h_sl2, h_sl3, h_call, h_call1, h_bi, h_bi1, h_me, h_me1, h_me2, h_me3, h_me4, h_lc, h_lc1, h_tn, h_tn1, h_tn2, h_tn3, h_tn4, h_nil, h_cons, h_cons1, h_cons2, h_star, h_star1, h_star2, h_star3, h_o0, h_o1, h_o2, h_c0, h_c1, h_c2, h_seq, h_seq1, h_seq2, h_seq3, h_r1, h_r11, h_r2, h_r21, h_r22, h_zip, h_zip1, h_zip2, h_zip3, h_enum, h_enum1, h_var, h_var1, h_int, h_str, h_bl, h_non, h_glo, h_done, h_then, h_then1, h_then2, h_asg, h_asg1, h_asg2, h_asg3, h_asg4, h_augN, h_augN1, h_augN2, h_augN3, h_mu_append, h_mu_clear, h_mu_extend, h_mu_insert, h_mu1, h_mu2, h_mu3, h_ex1, h_ret, h_ret1, h_if, h_if1, h_ift, h_iff, h_for, h_for1, h_body, h_body1, h_cond, h_whl, h_pass, h_fn1, h_fn2, b_nm, b_tp, b_all0, b_all, w_0, w_1, tt_non, tt_bl, tt_int, tt_tup, tt_lst, tt_dct, o_add, o_adds, o_addt, o_addl, o_sub, o_mul, o_mull, o_mult, o_fdiv, o_mod, o_pow, i_tup, i_lst, i_str, i_dct, i_dci, sl_tup, sl_lst', sl_str, mu_app, mu_clr, mu_ext, mu_ins, isN_non, notN_non, tb_some, tof_some, Option.map_some, Option.map_none, List.map_cons, List.map_nil, List.length_cons, List.length_nil, List.replicate_succ, List.replicate_zero, List.cons_append, List.nil_append, Nat.add_sub_cancel, Nat.sub_self, Nat.zero_add, Nat.reduceAdd, Nat.reduceSub, List.set_cons_zero, List.set_cons_succ, List.getElem?_cons_zero, List.getElem?_cons_succ, List.append_nil, if_true, if_false, Bool.false_eq_true, reduceIte, Bool.not_true, Bool.not_false, len_tup, len_lst, len_dct, int_int, int_bl, abs_int, tuple_lst, tuple_tup, list_lst, list_tup, sum_lst, sum_tup, all_bls, any_bls, ceq_int, cne_int, ceq_str, clt_int, cle_int, cgt_int, cge_int, List.length_map, hM, h1, h2]
  rw [if_pos (show 2 ≤ lim by decide)]
  simp only [h_bin, h_bin1, h_bin2, h_cmp, h_cmp1, h_cmp2, h_neg, h_neg1, h_nt, h_nt1, h_nt2, h_and, h_and1, h_andt, h_andf, h_or, h_or1, h_ort, h_orf, h_isn, h_isn1, h_isn2, h_ch, h_ch1, h_ch2, h_ch3, h_ch4, h_ite, h_ite1, h_itet, h_itef, h_tup, h_tup1, h_lst, h_lst1, h_idx, h_idx1, h_idx2, h_sl, h_sl1, h_sl2, h_sl3, h_call, h_call1, h_bi, h_bi1, h_me, h_me1, h_me2, h_me3, h_me4, h_lc, h_lc1, h_tn, h_tn1, h_tn2, h_tn3, h_tn4, h_nil, h_cons, h_cons1, h_cons2, h_star, h_star1, h_star2, h_star3, h_o0, h_o1, h_o2, h_c0, h_c1, h_c2, h_seq, h_seq1, h_seq2, h_seq3, h_r1, h_r11, h_r2, h_r21, h_r22, h_zip, h_zip1, h_zip2, h_zip3, h_enum, h_enum1, h_var, h_var1, h_int, h_str, h_bl, h_non, h_glo, h_done, h_then, h_then1, h_then2, h_asg, h_asg1, h_asg2, h_asg3, h_asg4, h_augN, h_augN1, h_augN2, h_augN3, h_mu_append, h_mu_clear, h_mu_extend, h_mu_insert, h_mu1, h_mu2, h_mu3, h_ex1, h_ret, h_ret1, h_if, h_if1, h_ift, h_iff, h_for, h_for1, h_body, h_body1, h_cond, h_whl, h_pass, h_fn1, h_fn2, b_nm, b_tp, b_all0, b_all, w_0, w_1, tt_non, tt_bl, tt_int, tt_tup, tt_lst, tt_dct, o_add, o_adds, o_addt, o_addl, o_sub, o_mul, o_mull, o_mult, o_fdiv, o_mod, o_pow, i_tup, i_lst, i_str, i_dct, i_dci, sl_tup, sl_lst', sl_str, mu_app, mu_clr, mu_ext, mu_ins, isN_non, notN_non, tb_some, tof_some, Option.map_some, Option.map_none, List.map_cons, List.map_nil, List.length_cons, List.length_nil, List.replicate_succ, List.replicate_zero, List.cons_append, List.nil_append, Nat.add_sub_cancel, Nat.sub_self, Nat.zero_add, Nat.reduceAdd, Nat.reduceSub, List.set_cons_zero, List.set_cons_succ, List.getElem?_cons_zero, List.getElem?_cons_succ, List.append_nil, if_true, if_false, Bool.false_eq_true, reduceIte, Bool.not_true, Bool.not_false, len_tup, len_lst, len_dct, int_int, int_bl, abs_int, tuple_lst, tuple_tup, list_lst, list_tup, sum_lst, sum_tup, all_bls, any_bls, ceq_int, cne_int, ceq_str, clt_int, cle_int, cgt_int, cge_int, List.length_map]
  have e0 : ((w : Int) == 0) = false := by
    rw [beq_eq_false_iff_ne]
    omega
  have e1 : ((w : Int) == 1) = false := by
    rw [beq_eq_false_iff_ne]
    omega
  have lt26 : letters.cps.toList.length = 26 := by decide +kernel
  have pickL : ∀ i : Nat, i < 26 → pick ("abcdefghijklmnopqrstuvwxyz" : Str).cps.toList (i : Int) = some (letters.cps.toList.getD i 0) := fun i hi => by
    have hi : i < letters.cps.toList.length := by rw [lt26]; exact hi
    rw [pick_nat, List.getD]
    show letters.cps.toList[i]? = some (letters.cps.toList[i]?.getD 0)
    rw [List.getElem?_eq_getElem hi]
    rfl
  simp only [h_bin, h_bin1, h_bin2, h_cmp, h_cmp1, h_cmp2, h_neg, h_neg1, h_nt, h_nt1, h_nt2, h_and, h_and1, h_andt, h_andf, h_or, h_or1, h_ort, h_orf, h_isn, h_isn1, h_isn2, h_ch, h_ch1, h_ch2, h_ch3, h_ch4, h_ite, h_ite1, h_itet, h_itef, h_tup, h_tup1, h_lst, h_lst1, h_idx, h_idx1, h_idx2, h_sl, h_sl1, h_sl2, h_sl3, h_call, h_call1, h_bi, h_bi1, h_me, h_me1, h_me2, h_me3, h_me4, h_lc, h_lc1, h_tn, h_tn1, h_tn2, h_tn3, h_tn4, h_nil, h_cons, h_cons1, h_cons2, h_star, h_star1, h_star2, h_star3, h_o0, h_o1, h_o2, h_c0, h_c1, h_c2, h_seq, h_seq1, h_seq2, h_seq3, h_r1, h_r11, h_r2, h_r21, h_r22, h_zip, h_zip1, h_zip2, h_zip3, h_enum, h_enum1, h_var, h_var1, h_int, h_str, h_bl, h_non, h_glo, h_done, h_then, h_then1, h_then2, h_asg, h_asg1, h_asg2, h_asg3, h_asg4, h_augN, h_augN1, h_augN2, h_augN3, h_mu_append, h_mu_clear, h_mu_extend, h_mu_insert, h_mu1, h_mu2, h_mu3, h_ex1, h_ret, h_ret1, h_if, h_if1, h_ift, h_iff, h_for, h_for1, h_body, h_body1, h_cond, h_whl, h_pass, h_fn1, h_fn2, b_nm, b_tp, b_all0, b_all, w_0, w_1, tt_non, tt_bl, tt_int, tt_tup, tt_lst, tt_dct, o_add, o_adds, o_addt, o_addl, o_sub, o_mul, o_mull, o_mult, o_fdiv, o_mod, o_pow, i_tup, i_lst, i_str, i_dct, i_dci, sl_tup, sl_lst', sl_str, mu_app, mu_clr, mu_ext, mu_ins, isN_non, notN_non, tb_some, tof_some, Option.map_some, Option.map_none, List.map_cons, List.map_nil, List.length_cons, List.length_nil, List.replicate_succ, List.replicate_zero, List.cons_append, List.nil_append, Nat.add_sub_cancel, Nat.sub_self, Nat.zero_add, Nat.reduceAdd, Nat.reduceSub, List.set_cons_zero, List.set_cons_succ, List.getElem?_cons_zero, List.getElem?_cons_succ, List.append_nil, if_true, if_false, Bool.false_eq_true, reduceIte, Bool.not_true, Bool.not_false, len_tup, len_lst, len_dct, int_int, int_bl, abs_int, tuple_lst, tuple_tup, list_lst, list_tup, sum_lst, sum_tup, all_bls, any_bls, ceq_int, cne_int, ceq_str, clt_int, cle_int, cgt_int, cge_int, List.length_map, e0, e1, if_pos (lit_lim (show ("abcdefghijklmnopqrstuvwxyz" : Str).length ≤ 1000 by decide +kernel)), pickL t (by omega)]
  rw [if_pos (show 4 ≤ lim by decide)]
  have hp : pick [Tr.str "", Tr.str "", Tr.str ⟨#[letters.cps.toList.getD t 0]⟩, Tr.str "zzzzzzz"] ((w : Int) - 1) = some (.str (stemP w t)) := by
    have : w = 2 ∨ w = 3 ∨ w = 4 := by omega
    rcases this with rfl | rfl | rfl <;> simp [pick, place, stemP]
  simp only [h_bin, h_bin1, h_bin2, h_cmp, h_cmp1, h_cmp2, h_neg, h_neg1, h_nt, h_nt1, h_nt2, h_and, h_and1, h_andt, h_andf, h_or, h_or1, h_ort, h_orf, h_isn, h_isn1, h_isn2, h_ch, h_ch1, h_ch2, h_ch3, h_ch4, h_ite, h_ite1, h_itet, h_itef, h_tup, h_tup1, h_lst, h_lst1, h_idx, h_idx1, h_idx2, h_sl, h_sl1, h_sl2, h_sl3, h_call, h_call1, h_bi, h_bi1, h_me, h_me1, h_me2, h_me3, h_me4, h_lc, h_lc1, h_tn, h_tn1, h_tn2, h_tn3, h_tn4, h_nil, h_cons, h_cons1, h_cons2, h_star, h_star1, h_star2, h_star3, h_o0, h_o1, h_o2, h_c0, h_c1, h_c2, h_seq, h_seq1, h_seq2, h_seq3, h_r1, h_r11, h_r2, h_r21, h_r22, h_zip, h_zip1, h_zip2, h_zip3, h_enum, h_enum1, h_var, h_var1, h_int, h_str, h_bl, h_non, h_glo, h_done, h_then, h_then1, h_then2, h_asg, h_asg1, h_asg2, h_asg3, h_asg4, h_augN, h_augN1, h_augN2, h_augN3, h_mu_append, h_mu_clear, h_mu_extend, h_mu_insert, h_mu1, h_mu2, h_mu3, h_ex1, h_ret, h_ret1, h_if, h_if1, h_ift, h_iff, h_for, h_for1, h_body, h_body1, h_cond, h_whl, h_pass, h_fn1, h_fn2, b_nm, b_tp, b_all0, b_all, w_0, w_1, tt_non, tt_bl, tt_int, tt_tup, tt_lst, tt_dct, o_add, o_adds, o_addt, o_addl, o_sub, o_mul, o_mull, o_mult, o_fdiv, o_mod, o_pow, i_tup, i_lst, i_str, i_dct, i_dci, sl_tup, sl_lst', sl_str, mu_app, mu_clr, mu_ext, mu_ins, isN_non, notN_non, tb_some, tof_some, Option.map_some, Option.map_none, List.map_cons, List.map_nil, List.length_cons, List.length_nil, List.replicate_succ, List.replicate_zero, List.cons_append, List.nil_append, Nat.add_sub_cancel, Nat.sub_self, Nat.zero_add, Nat.reduceAdd, Nat.reduceSub, List.set_cons_zero, List.set_cons_succ, List.getElem?_cons_zero, List.getElem?_cons_succ, List.append_nil, if_true, if_false, Bool.false_eq_true, reduceIte, Bool.not_true, Bool.not_false, len_tup, len_lst, len_dct, int_int, int_bl, abs_int, tuple_lst, tuple_tup, list_lst, list_tup, sum_lst, sum_tup, all_bls, any_bls, ceq_int, cne_int, ceq_str, clt_int, cle_int, cgt_int, cge_int, List.length_map, hp, trangeOf1 (show m < 2 ^ 62 by omega)]
  rw [turns_each (fun i : Nat => Tr.int i) (fun k : Nat => .str (stemP w t ++ ⟨#[letters.cps.toList.getD ((t + 3 * k) % 26) 0]⟩)) (List.range m) (fun k _ g => by
    have em : ((t : Int) + 3 * (k : Int)).fmod 26 = (((t + 3 * k) % 26 : Nat) : Int) := by
      rw [Int.fmod_eq_emod_of_nonneg _ (by decide)]
      omega
    simp only [h_bin, h_bin1, h_bin2, h_cmp, h_cmp1, h_cmp2, h_neg, h_neg1, h_nt, h_nt1, h_nt2, h_and, h_and1, h_andt, h_andf, h_or, h_or1, h_ort, h_orf, h_isn, h_isn1, h_isn2, h_ch, h_ch1, h_ch2, h_ch3, h_ch4, h_ite, h_ite1, h_itet, h_itef, h_tup, h_tup1, h_lst, h_lst1, h_idx, h_idx1, h_idx2, h_sl, h_sl1, h_sl2, h_sl3, h_call, h_call1, h_bi, h_bi1, h_me, h_me1, h_me2, h_me3, h_me4, h_lc, h_lc1, h_tn, h_tn1, h_tn2, h_tn3, h_tn4, h_nil, h_cons, h_cons1, h_cons2, h_star, h_star1, h_star2, h_star3, h_o0, h_o1, h_o2, h_c0, h_c1, h_c2, h_seq, h_seq1, h_seq2, h_seq3, h_r1, h_r11, h_r2, h_r21, h_r22, h_zip, h_zip1, h_zip2, h_zip3, h_enum, h_enum1, h_var, h_var1, h_int, h_str, h_bl, h_non, h_glo, h_done, h_then, h_then1, h_then2, h_asg, h_asg1, h_asg2, h_asg3, h_asg4, h_augN, h_augN1, h_augN2, h_augN3, h_mu_append, h_mu_clear, h_mu_extend, h_mu_insert, h_mu1, h_mu2, h_mu3, h_ex1, h_ret, h_ret1, h_if, h_if1, h_ift, h_iff, h_for, h_for1, h_body, h_body1, h_cond, h_whl, h_pass, h_fn1, h_fn2, b_nm, b_tp, b_all0, b_all, w_0, w_1, tt_non, tt_bl, tt_int, tt_tup, tt_lst, tt_dct, o_add, o_adds, o_addt, o_addl, o_sub, o_mul, o_mull, o_mult, o_fdiv, o_mod, o_pow, i_tup, i_lst, i_str, i_dct, i_dci, sl_tup, sl_lst', sl_str, mu_app, mu_clr, mu_ext, mu_ins, isN_non, notN_non, tb_some, tof_some, Option.map_some, Option.map_none, List.map_cons, List.map_nil, List.length_cons, List.length_nil, List.replicate_succ, List.replicate_zero, List.cons_append, List.nil_append, Nat.add_sub_cancel, Nat.sub_self, Nat.zero_add, Nat.reduceAdd, Nat.reduceSub, List.set_cons_zero, List.set_cons_succ, List.getElem?_cons_zero, List.getElem?_cons_succ, List.append_nil, if_true, if_false, Bool.false_eq_true, reduceIte, Bool.not_true, Bool.not_false, len_tup, len_lst, len_dct, int_int, int_bl, abs_int, tuple_lst, tuple_tup, list_lst, list_tup, sum_lst, sum_tup, all_bls, any_bls, ceq_int, cne_int, ceq_str, clt_int, cle_int, cgt_int, cge_int, List.length_map, mulD (i := 3) (j := (k : Int)) (by decide), em, pickL _ (Nat.mod_lt _ (by decide : 26 > 0)), decide_true, show decide ((26 : Int) ≠ 0) = true from rfl]
    have h1 := stem_len (w := w) (t := t)
    have h2 : ∀ c, (⟨#[c]⟩ : Str).length = 1 := fun _ => rfl
    rw [if_pos (lit_lim (show ("abcdefghijklmnopqrstuvwxyz" : Str).length ≤ 1000 by decide +kernel))]
    simp only [h_bin, h_bin1, h_bin2, h_cmp, h_cmp1, h_cmp2, h_neg, h_neg1, h_nt, h_nt1, h_nt2, h_and, h_and1, h_andt, h_andf, h_or, h_or1, h_ort, h_orf, h_isn, h_isn1, h_isn2, h_ch, h_ch1, h_ch2, h_ch3, h_ch4, h_ite, h_ite1, h_itet, h_itef, h_tup, h_tup1, h_lst, h_lst1, h_idx, h_idx1, h_idx2, h_sl, h_sl1, h_sl2, h_sl3, h_call, h_call1, h_bi, h_bi1, h_me, h_me1, h_me2, h_me3, h_me4, h_lc, h_lc1, h_tn, h_tn1, h_tn2, h_tn3, h_tn4, h_nil, h_cons, h_cons1, h_cons2, h_star, h_star1, h_star2, h_star3, h_o0, h_o1, h_o2, h_c0, h_c1, h_c2, h_seq, h_seq1, h_seq2, h_seq3, h_r1, h_r11, h_r2, h_r21, h_r22, h_zip, h_zip1, h_zip2, h_zip3, h_enum, h_enum1, h_var, h_var1, h_int, h_str, h_bl, h_non, h_glo, h_done, h_then, h_then1, h_then2, h_asg, h_asg1, h_asg2, h_asg3, h_asg4, h_augN, h_augN1, h_augN2, h_augN3, h_mu_append, h_mu_clear, h_mu_extend, h_mu_insert, h_mu1, h_mu2, h_mu3, h_ex1, h_ret, h_ret1, h_if, h_if1, h_ift, h_iff, h_for, h_for1, h_body, h_body1, h_cond, h_whl, h_pass, h_fn1, h_fn2, b_nm, b_tp, b_all0, b_all, w_0, w_1, tt_non, tt_bl, tt_int, tt_tup, tt_lst, tt_dct, o_add, o_adds, o_addt, o_addl, o_sub, o_mul, o_mull, o_mult, o_fdiv, o_mod, o_pow, i_tup, i_lst, i_str, i_dct, i_dci, sl_tup, sl_lst', sl_str, mu_app, mu_clr, mu_ext, mu_ins, isN_non, notN_non, tb_some, tof_some, Option.map_some, Option.map_none, List.map_cons, List.map_nil, List.length_cons, List.length_nil, List.replicate_succ, List.replicate_zero, List.cons_append, List.nil_append, Nat.add_sub_cancel, Nat.sub_self, Nat.zero_add, Nat.reduceAdd, Nat.reduceSub, List.set_cons_zero, List.set_cons_succ, List.getElem?_cons_zero, List.getElem?_cons_succ, List.append_nil, if_true, if_false, Bool.false_eq_true, reduceIte, Bool.not_true, Bool.not_false, len_tup, len_lst, len_dct, int_int, int_bl, abs_int, tuple_lst, tuple_tup, list_lst, list_tup, sum_lst, sum_tup, all_bls, any_bls, ceq_int, cne_int, ceq_str, clt_int, cle_int, cgt_int, cge_int, List.length_map]
    rw [if_pos (mem_lim (by rw [h2]; omega))]
    simp only [h_bin, h_bin1, h_bin2, h_cmp, h_cmp1, h_cmp2, h_neg, h_neg1, h_nt, h_nt1, h_nt2, h_and, h_and1, h_andt, h_andf, h_or, h_or1, h_ort, h_orf, h_isn, h_isn1, h_isn2, h_ch, h_ch1, h_ch2, h_ch3, h_ch4, h_ite, h_ite1, h_itet, h_itef, h_tup, h_tup1, h_lst, h_lst1, h_idx, h_idx1, h_idx2, h_sl, h_sl1, h_sl2, h_sl3, h_call, h_call1, h_bi, h_bi1, h_me, h_me1, h_me2, h_me3, h_me4, h_lc, h_lc1, h_tn, h_tn1, h_tn2, h_tn3, h_tn4, h_nil, h_cons, h_cons1, h_cons2, h_star, h_star1, h_star2, h_star3, h_o0, h_o1, h_o2, h_c0, h_c1, h_c2, h_seq, h_seq1, h_seq2, h_seq3, h_r1, h_r11, h_r2, h_r21, h_r22, h_zip, h_zip1, h_zip2, h_zip3, h_enum, h_enum1, h_var, h_var1, h_int, h_str, h_bl, h_non, h_glo, h_done, h_then, h_then1, h_then2, h_asg, h_asg1, h_asg2, h_asg3, h_asg4, h_augN, h_augN1, h_augN2, h_augN3, h_mu_append, h_mu_clear, h_mu_extend, h_mu_insert, h_mu1, h_mu2, h_mu3, h_ex1, h_ret, h_ret1, h_if, h_if1, h_ift, h_iff, h_for, h_for1, h_body, h_body1, h_cond, h_whl, h_pass, h_fn1, h_fn2, b_nm, b_tp, b_all0, b_all, w_0, w_1, tt_non, tt_bl, tt_int, tt_tup, tt_lst, tt_dct, o_add, o_adds, o_addt, o_addl, o_sub, o_mul, o_mull, o_mult, o_fdiv, o_mod, o_pow, i_tup, i_lst, i_str, i_dct, i_dci, sl_tup, sl_lst', sl_str, mu_app, mu_clr, mu_ext, mu_ins, isN_non, notN_non, tb_some, tof_some, Option.map_some, Option.map_none, List.map_cons, List.map_nil, List.length_cons, List.length_nil, List.replicate_succ, List.replicate_zero, List.cons_append, List.nil_append, Nat.add_sub_cancel, Nat.sub_self, Nat.zero_add, Nat.reduceAdd, Nat.reduceSub, List.set_cons_zero, List.set_cons_succ, List.getElem?_cons_zero, List.getElem?_cons_succ, List.append_nil, if_true, if_false, Bool.false_eq_true, reduceIte, Bool.not_true, Bool.not_false, len_tup, len_lst, len_dct, int_int, int_bl, abs_int, tuple_lst, tuple_tup, list_lst, list_tup, sum_lst, sum_tup, all_bls, any_bls, ceq_int, cne_int, ceq_str, clt_int, cle_int, cgt_int, cge_int, List.length_map])]
  simp only [h_bin, h_bin1, h_bin2, h_cmp, h_cmp1, h_cmp2, h_neg, h_neg1, h_nt, h_nt1, h_nt2, h_and, h_and1, h_andt, h_andf, h_or, h_or1, h_ort, h_orf, h_isn, h_isn1, h_isn2, h_ch, h_ch1, h_ch2, h_ch3, h_ch4, h_ite, h_ite1, h_itet, h_itef, h_tup, h_tup1, h_lst, h_lst1, h_idx, h_idx1, h_idx2, h_sl, h_sl1, h_sl2, h_sl3, h_call, h_call1, h_bi, h_bi1, h_me, h_me1, h_me2, h_me3, h_me4, h_lc, h_lc1, h_tn, h_tn1, h_tn2, h_tn3, h_tn4, h_nil, h_cons, h_cons1, h_cons2, h_star, h_star1, h_star2, h_star3, h_o0, h_o1, h_o2, h_c0, h_c1, h_c2, h_seq, h_seq1, h_seq2, h_seq3, h_r1, h_r11, h_r2, h_r21, h_r22, h_zip, h_zip1, h_zip2, h_zip3, h_enum, h_enum1, h_var, h_var1, h_int, h_str, h_bl, h_non, h_glo, h_done, h_then, h_then1, h_then2, h_asg, h_asg1, h_asg2, h_asg3, h_asg4, h_augN, h_augN1, h_augN2, h_augN3, h_mu_append, h_mu_clear, h_mu_extend, h_mu_insert, h_mu1, h_mu2, h_mu3, h_ex1, h_ret, h_ret1, h_if, h_if1, h_ift, h_iff, h_for, h_for1, h_body, h_body1, h_cond, h_whl, h_pass, h_fn1, h_fn2, b_nm, b_tp, b_all0, b_all, w_0, w_1, tt_non, tt_bl, tt_int, tt_tup, tt_lst, tt_dct, o_add, o_adds, o_addt, o_addl, o_sub, o_mul, o_mull, o_mult, o_fdiv, o_mod, o_pow, i_tup, i_lst, i_str, i_dct, i_dci, sl_tup, sl_lst', sl_str, mu_app, mu_clr, mu_ext, mu_ins, isN_non, notN_non, tb_some, tof_some, Option.map_some, Option.map_none, List.map_cons, List.map_nil, List.length_cons, List.length_nil, List.replicate_succ, List.replicate_zero, List.cons_append, List.nil_append, Nat.add_sub_cancel, Nat.sub_self, Nat.zero_add, Nat.reduceAdd, Nat.reduceSub, List.set_cons_zero, List.set_cons_succ, List.getElem?_cons_zero, List.getElem?_cons_succ, List.append_nil, if_true, if_false, Bool.false_eq_true, reduceIte, Bool.not_true, Bool.not_false, len_tup, len_lst, len_dct, int_int, int_bl, abs_int, tuple_lst, tuple_tup, list_lst, list_tup, sum_lst, sum_tup, all_bls, any_bls, ceq_int, cne_int, ceq_str, clt_int, cle_int, cgt_int, cge_int, List.length_map, List.length_range]
  rw [if_pos (mem_lim (by omega))]
  have := sorted_strs (l := (List.range m).map fun k : Nat => stemP w t ++ ⟨#[letters.cps.toList.getD ((t + 3 * k) % 26) 0]⟩) (by rw [List.length_map, List.length_range]; omega)
  rw [List.map_map] at this
  simp only [h_bin, h_bin1, h_bin2, h_cmp, h_cmp1, h_cmp2, h_neg, h_neg1, h_nt, h_nt1, h_nt2, h_and, h_and1, h_andt, h_andf, h_or, h_or1, h_ort, h_orf, h_isn, h_isn1, h_isn2, h_ch, h_ch1, h_ch2, h_ch3, h_ch4, h_ite, h_ite1, h_itet, h_itef, h_tup, h_tup1, h_lst, h_lst1, h_idx, h_idx1, h_idx2, h_sl, h_sl1, h_sl2, h_sl3, h_call, h_call1, h_bi, h_bi1, h_me, h_me1, h_me2, h_me3, h_me4, h_lc, h_lc1, h_tn, h_tn1, h_tn2, h_tn3, h_tn4, h_nil, h_cons, h_cons1, h_cons2, h_star, h_star1, h_star2, h_star3, h_o0, h_o1, h_o2, h_c0, h_c1, h_c2, h_seq, h_seq1, h_seq2, h_seq3, h_r1, h_r11, h_r2, h_r21, h_r22, h_zip, h_zip1, h_zip2, h_zip3, h_enum, h_enum1, h_var, h_var1, h_int, h_str, h_bl, h_non, h_glo, h_done, h_then, h_then1, h_then2, h_asg, h_asg1, h_asg2, h_asg3, h_asg4, h_augN, h_augN1, h_augN2, h_augN3, h_mu_append, h_mu_clear, h_mu_extend, h_mu_insert, h_mu1, h_mu2, h_mu3, h_ex1, h_ret, h_ret1, h_if, h_if1, h_ift, h_iff, h_for, h_for1, h_body, h_body1, h_cond, h_whl, h_pass, h_fn1, h_fn2, b_nm, b_tp, b_all0, b_all, w_0, w_1, tt_non, tt_bl, tt_int, tt_tup, tt_lst, tt_dct, o_add, o_adds, o_addt, o_addl, o_sub, o_mul, o_mull, o_mult, o_fdiv, o_mod, o_pow, i_tup, i_lst, i_str, i_dct, i_dci, sl_tup, sl_lst', sl_str, mu_app, mu_clr, mu_ext, mu_ins, isN_non, notN_non, tb_some, tof_some, Option.map_some, Option.map_none, List.map_cons, List.map_nil, List.length_cons, List.length_nil, List.replicate_succ, List.replicate_zero, List.cons_append, List.nil_append, Nat.add_sub_cancel, Nat.sub_self, Nat.zero_add, Nat.reduceAdd, Nat.reduceSub, List.set_cons_zero, List.set_cons_succ, List.getElem?_cons_zero, List.getElem?_cons_succ, List.append_nil, if_true, if_false, Bool.false_eq_true, reduceIte, Bool.not_true, Bool.not_false, len_tup, len_lst, len_dct, int_int, int_bl, abs_int, tuple_lst, tuple_tup, list_lst, list_tup, sum_lst, sum_tup, all_bls, any_bls, ceq_int, cne_int, ceq_str, clt_int, cle_int, cgt_int, cge_int, List.length_map]
  rw [show ((List.range m).map fun k : Nat => Tr.str (stemP w t ++ ⟨#[letters.cps.toList.getD ((t + 3 * k) % 26) 0]⟩)) = (List.range m).map (Tr.str ∘ fun k : Nat => stemP w t ++ ⟨#[letters.cps.toList.getD ((t + 3 * k) % 26) 0]⟩) from rfl, this]
  simp only [h_bin, h_bin1, h_bin2, h_cmp, h_cmp1, h_cmp2, h_neg, h_neg1, h_nt, h_nt1, h_nt2, h_and, h_and1, h_andt, h_andf, h_or, h_or1, h_ort, h_orf, h_isn, h_isn1, h_isn2, h_ch, h_ch1, h_ch2, h_ch3, h_ch4, h_ite, h_ite1, h_itet, h_itef, h_tup, h_tup1, h_lst, h_lst1, h_idx, h_idx1, h_idx2, h_sl, h_sl1, h_sl2, h_sl3, h_call, h_call1, h_bi, h_bi1, h_me, h_me1, h_me2, h_me3, h_me4, h_lc, h_lc1, h_tn, h_tn1, h_tn2, h_tn3, h_tn4, h_nil, h_cons, h_cons1, h_cons2, h_star, h_star1, h_star2, h_star3, h_o0, h_o1, h_o2, h_c0, h_c1, h_c2, h_seq, h_seq1, h_seq2, h_seq3, h_r1, h_r11, h_r2, h_r21, h_r22, h_zip, h_zip1, h_zip2, h_zip3, h_enum, h_enum1, h_var, h_var1, h_int, h_str, h_bl, h_non, h_glo, h_done, h_then, h_then1, h_then2, h_asg, h_asg1, h_asg2, h_asg3, h_asg4, h_augN, h_augN1, h_augN2, h_augN3, h_mu_append, h_mu_clear, h_mu_extend, h_mu_insert, h_mu1, h_mu2, h_mu3, h_ex1, h_ret, h_ret1, h_if, h_if1, h_ift, h_iff, h_for, h_for1, h_body, h_body1, h_cond, h_whl, h_pass, h_fn1, h_fn2, b_nm, b_tp, b_all0, b_all, w_0, w_1, tt_non, tt_bl, tt_int, tt_tup, tt_lst, tt_dct, o_add, o_adds, o_addt, o_addl, o_sub, o_mul, o_mull, o_mult, o_fdiv, o_mod, o_pow, i_tup, i_lst, i_str, i_dct, i_dci, sl_tup, sl_lst', sl_str, mu_app, mu_clr, mu_ext, mu_ins, isN_non, notN_non, tb_some, tof_some, Option.map_some, Option.map_none, List.map_cons, List.map_nil, List.length_cons, List.length_nil, List.replicate_succ, List.replicate_zero, List.cons_append, List.nil_append, Nat.add_sub_cancel, Nat.sub_self, Nat.zero_add, Nat.reduceAdd, Nat.reduceSub, List.set_cons_zero, List.set_cons_succ, List.getElem?_cons_zero, List.getElem?_cons_succ, List.append_nil, if_true, if_false, Bool.false_eq_true, reduceIte, Bool.not_true, Bool.not_false, len_tup, len_lst, len_dct, int_int, int_bl, abs_int, tuple_lst, tuple_tup, list_lst, list_tup, sum_lst, sum_tup, all_bls, any_bls, ceq_int, cne_int, ceq_str, clt_int, cle_int, cgt_int, cge_int, List.length_map]
theorem things_t [Has FR T ("_law_things" : Str) f__law_things] {m : Nat} (hm : m ≤ 6) (g : Bg) : ∃ (l : List Str) (g' : Bg), trun FR G T fuel (d + 2) "_law_things" [.bag, .int m] g = some (strsT l, g') ∧ Things l ∧ l.length = m := by
  obtain ⟨w, g1, h1, hw⟩ := draw (FR := FR) (G := G) (T := T) (fuel := fuel) (d := d) g (m := 5) (by decide) (by decide)
  obtain ⟨t, g2, h2, ht⟩ := draw (FR := FR) (G := G) (T := T) (fuel := fuel) (d := d) g1 (m := 16) (by decide) (by decide)
  have hw : w < 5 := by omega
  have ht : t < 16 := by omega
  have good := Things.of hm (good_of hw ht (by omega : m < 7))
  have key : ∀ {l : List Str}, thingsP w t m = l → trun FR G T fuel (d + 2) "_law_things" [.bag, .int m] g = some (strsT l, g2) → ∃ (l : List Str) (g' : Bg), trun FR G T fuel (d + 2) "_law_things" [.bag, .int m] g = some (strsT l, g') ∧ Things l ∧ l.length = m := fun e h => ⟨_, g2, h, by rw [← e]; exact good.1, by rw [← e]; exact good.2⟩
  by_cases w0 : w = 0
  · rw [w0] at h1
    exact key (by unfold thingsP; rw [if_pos w0]) (things_w0 (m := m) h1 h2)
  · by_cases w1 : w = 1
    · rw [w1] at h1
      refine key (by unfold thingsP; rw [if_neg w0, if_pos w1]) ?_
      rw [things_w1 hm h1 h2, strsT, List.map_map]
      rfl
    · exact key (by unfold thingsP; rw [if_neg w0, if_neg w1]) (things_w2 hm ht hw w0 w1 h1 h2)
end
theorem sortS_len (l : List Str) : (sortS l).length = l.length := (sortS_perm l).length_eq
theorem teq_nilT {ts : List Tr} {B w d : Nat} (h : Okt B w d (.tup ts)) (hd : d ≤ 30) : teq (.tup ts) (.tup []) = some ts.isEmpty := by
  obtain ⟨D, a, b, c, e, f, g⟩ := h
  rw [pyOf] at a
  cases hp : pyAll ts with
  | none => rw [hp] at a; cases a
  | some Ds =>
    rw [hp] at a
    cases a
    show teqTree (.tup ts) (.tup []) = _
    unfold teqTree
    rw [pyOf, hp, pyOf, pyAll]
    simp only [Option.map_some]
    rw [if_pos]
    · cases ts with
      | nil => rw [pyAll] at hp; cases hp; rfl
      | cons t ts =>
        rw [pyAll] at hp
        split at hp
        · cases hp
        · split at hp
          · cases hp
          · cases hp; rfl
    · simp only [fitD, b, Bool.true_and, Bool.and_eq_true, decide_eq_true_eq]
      exact ⟨by omega, by decide⟩
theorem teq_nilL {ts : List Tr} {B w d : Nat} (h : Okt B w d (.lst ts)) (hd : d ≤ 30) : teq (.lst ts) (.lst []) = some ts.isEmpty := by
  obtain ⟨D, a, b, c, e, f, g⟩ := h
  rw [pyOf] at a
  cases hp : pyAll ts with
  | none => rw [hp] at a; cases a
  | some Ds =>
    rw [hp] at a
    cases a
    show teqTree (.lst ts) (.lst []) = _
    unfold teqTree
    rw [pyOf, hp, pyOf, pyAll]
    simp only [Option.map_some]
    rw [if_pos]
    · cases ts with
      | nil => rw [pyAll] at hp; cases hp; rfl
      | cons t ts =>
        rw [pyAll] at hp
        split at hp
        · cases hp
        · split at hp
          · cases hp
          · cases hp; rfl
    · simp only [fitD, b, Bool.true_and, Bool.and_eq_true, decide_eq_true_eq]
      exact ⟨by omega, by decide⟩
theorem okt_name {x : Str} {B : Nat} (h : nameB x = true) : Okt B 8 0 (.str x) := by
  simp only [nameB, Bool.and_eq_true, decide_eq_true_eq, List.all_eq_true] at h
  refine okt_str ?_ h.1.2
  rw [Array.all_eq_true_iff_forall_mem]
  intro c hc
  have := h.2 c (by simpa using hc)
  rw [decide_eq_true_eq]
  omega
theorem okt_names {l : List Str} {B n : Nat} (h : ∀ x ∈ l, nameB x = true) (hn : l.length ≤ n) : Okt B (n * 9) 1 (strsT l) := by
  refine okt_tup (w := 8) (d := 0) (fun t ht => ?_) (by rw [List.length_map]; exact hn)
  obtain ⟨x, hx, rfl⟩ := List.mem_map.mp ht
  exact okt_name (h x hx)
/-- a sum of things -/
structure SumOf (l s : List Str) : Prop where
  mem : ∀ x ∈ s, x ∈ l
  len : s.length ≤ 3
  inc : s.Pairwise fun a b => strLe a b = true
section
variable {FR : List Str} {G : Str → Option Tr} {T : List (Str × Fn)} {fuel d : Nat}
theorem sum_t [Has FR T ("_law_sum" : Str) f__law_sum] [Has FR T ("_law_one" : Str) f__law_one] {l : List Str} (hl : Things l) {n : Nat} (hn : n ≤ 3) (g : Bg) :
    ∃ (s : List Str) (g' : Bg), trun FR G T fuel (d + 3) "_law_sum" [.bag, strsT l, .int n] g = some (strsT s, g') ∧ SumOf l s ∧ (l ≠ [] → s.length = n) := by
  rw [trun_eq (f := "_law_sum") (by rfl)]
  unfold f__law_sum
  have e0 := teq_nilT (okt_names (B := 8) (n := 6) hl.nm hl.len) (by decide)
  rw [List.isEmpty_map] at e0
  simp only [h_bin, h_bin1, h_bin2, h_cmp, h_cmp1, h_cmp2, h_neg, h_neg1, h_nt, h_nt1, h_nt2, h_and, h_and1, h_andt, h_andf, h_or, h_or1, h_ort, h_orf, h_isn, h_isn1, h_isn2, h_ch, h_ch1, h_ch2, h_ch3, h_ch4, h_ite, h_ite1, h_itet, h_itef, h_tup, h_tup1, h_lst, h_lst1, h_idx, h_idx1, h_idx2, h_sl, h_sl1, h_sl2, h_sl3, h_call, h_call1, h_bi, h_bi1, h_me, h_me1, h_me2, h_me3, h_me4, h_lc, h_lc1, h_tn, h_tn1, h_tn2, h_tn3, h_tn4, h_nil, h_cons, h_cons1, h_cons2, h_star, h_star1, h_star2, h_star3, h_o0, h_o1, h_o2, h_c0, h_c1, h_c2, h_seq, h_seq1, h_seq2, h_seq3, h_r1, h_r11, h_r2, h_r21, h_r22, h_zip, h_zip1, h_zip2, h_zip3, h_enum, h_enum1, h_var, h_var1, h_int, h_str, h_bl, h_non, h_glo, h_done, h_then, h_then1, h_then2, h_asg, h_asg1, h_asg2, h_asg3, h_asg4, h_augN, h_augN1, h_augN2, h_augN3, h_mu_append, h_mu_clear, h_mu_extend, h_mu_insert, h_mu1, h_mu2, h_mu3, h_ex1, h_ret, h_ret1, h_if, h_if1, h_ift, h_iff, h_for, h_for1, h_body, h_body1, h_cond, h_whl, h_pass, h_fn1, h_fn2, b_nm, b_tp, b_all0, b_all, w_0, w_1, tt_non, tt_bl, tt_int, tt_tup, tt_lst, tt_dct, o_add, o_adds, o_addt, o_addl, o_sub, o_mul, o_mull, o_mult, o_fdiv, o_mod, o_pow, i_tup, i_lst, i_str, i_dct, i_dci, sl_tup, sl_lst', sl_str, mu_app, mu_clr, mu_ext, mu_ins, isN_non, notN_non, tb_some, tof_some, Option.map_some, Option.map_none, List.map_cons, List.map_nil, List.length_cons, List.length_nil, List.replicate_succ, List.replicate_zero, List.cons_append, List.nil_append, Nat.add_sub_cancel, Nat.sub_self, Nat.zero_add, Nat.reduceAdd, Nat.reduceSub, List.set_cons_zero, List.set_cons_succ, List.getElem?_cons_zero, List.getElem?_cons_succ, List.append_nil, if_true, if_false, Bool.false_eq_true, reduceIte, Bool.not_true, Bool.not_false, len_tup, len_lst, len_dct, int_int, int_bl, abs_int, tuple_lst, tuple_tup, list_lst, list_tup, sum_lst, sum_tup, all_bls, any_bls, ceq_int, cne_int, ceq_str, clt_int, cle_int, cgt_int, cge_int, List.length_map, if_pos (show 0 ≤ lim by decide), tcmp_eq e0]
  cases l with
  | nil =>
    simp only [h_bin, h_bin1, h_bin2, h_cmp, h_cmp1, h_cmp2, h_neg, h_neg1, h_nt, h_nt1, h_nt2, h_and, h_and1, h_andt, h_andf, h_or, h_or1, h_ort, h_orf, h_isn, h_isn1, h_isn2, h_ch, h_ch1, h_ch2, h_ch3, h_ch4, h_ite, h_ite1, h_itet, h_itef, h_tup, h_tup1, h_lst, h_lst1, h_idx, h_idx1, h_idx2, h_sl, h_sl1, h_sl2, h_sl3, h_call, h_call1, h_bi, h_bi1, h_me, h_me1, h_me2, h_me3, h_me4, h_lc, h_lc1, h_tn, h_tn1, h_tn2, h_tn3, h_tn4, h_nil, h_cons, h_cons1, h_cons2, h_star, h_star1, h_star2, h_star3, h_o0, h_o1, h_o2, h_c0, h_c1, h_c2, h_seq, h_seq1, h_seq2, h_seq3, h_r1, h_r11, h_r2, h_r21, h_r22, h_zip, h_zip1, h_zip2, h_zip3, h_enum, h_enum1, h_var, h_var1, h_int, h_str, h_bl, h_non, h_glo, h_done, h_then, h_then1, h_then2, h_asg, h_asg1, h_asg2, h_asg3, h_asg4, h_augN, h_augN1, h_augN2, h_augN3, h_mu_append, h_mu_clear, h_mu_extend, h_mu_insert, h_mu1, h_mu2, h_mu3, h_ex1, h_ret, h_ret1, h_if, h_if1, h_ift, h_iff, h_for, h_for1, h_body, h_body1, h_cond, h_whl, h_pass, h_fn1, h_fn2, b_nm, b_tp, b_all0, b_all, w_0, w_1, tt_non, tt_bl, tt_int, tt_tup, tt_lst, tt_dct, o_add, o_adds, o_addt, o_addl, o_sub, o_mul, o_mull, o_mult, o_fdiv, o_mod, o_pow, i_tup, i_lst, i_str, i_dct, i_dci, sl_tup, sl_lst', sl_str, mu_app, mu_clr, mu_ext, mu_ins, isN_non, notN_non, tb_some, tof_some, Option.map_some, Option.map_none, List.map_cons, List.map_nil, List.length_cons, List.length_nil, List.replicate_succ, List.replicate_zero, List.cons_append, List.nil_append, Nat.add_sub_cancel, Nat.sub_self, Nat.zero_add, Nat.reduceAdd, Nat.reduceSub, List.set_cons_zero, List.set_cons_succ, List.getElem?_cons_zero, List.getElem?_cons_succ, List.append_nil, if_true, if_false, Bool.false_eq_true, reduceIte, Bool.not_true, Bool.not_false, len_tup, len_lst, len_dct, int_int, int_bl, abs_int, tuple_lst, tuple_tup, list_lst, list_tup, sum_lst, sum_tup, all_bls, any_bls, ceq_int, cne_int, ceq_str, clt_int, cle_int, cgt_int, cge_int, List.length_map, List.isEmpty_nil, if_pos (show 0 ≤ lim by decide)]
    exact ⟨[], g, rfl, SumOf.mk (fun _ h => by cases h) (by decide) List.Pairwise.nil, fun h => (h rfl).elim⟩
  | cons a l =>
    simp only [h_bin, h_bin1, h_bin2, h_cmp, h_cmp1, h_cmp2, h_neg, h_neg1, h_nt, h_nt1, h_nt2, h_and, h_and1, h_andt, h_andf, h_or, h_or1, h_ort, h_orf, h_isn, h_isn1, h_isn2, h_ch, h_ch1, h_ch2, h_ch3, h_ch4, h_ite, h_ite1, h_itet, h_itef, h_tup, h_tup1, h_lst, h_lst1, h_idx, h_idx1, h_idx2, h_sl, h_sl1, h_sl2, h_sl3, h_call, h_call1, h_bi, h_bi1, h_me, h_me1, h_me2, h_me3, h_me4, h_lc, h_lc1, h_tn, h_tn1, h_tn2, h_tn3, h_tn4, h_nil, h_cons, h_cons1, h_cons2, h_star, h_star1, h_star2, h_star3, h_o0, h_o1, h_o2, h_c0, h_c1, h_c2, h_seq, h_seq1, h_seq2, h_seq3, h_r1, h_r11, h_r2, h_r21, h_r22, h_zip, h_zip1, h_zip2, h_zip3, h_enum, h_enum1, h_var, h_var1, h_int, h_str, h_bl, h_non, h_glo, h_done, h_then, h_then1, h_then2, h_asg, h_asg1, h_asg2, h_asg3, h_asg4, h_augN, h_augN1, h_augN2, h_augN3, h_mu_append, h_mu_clear, h_mu_extend, h_mu_insert, h_mu1, h_mu2, h_mu3, h_ex1, h_ret, h_ret1, h_if, h_if1, h_ift, h_iff, h_for, h_for1, h_body, h_body1, h_cond, h_whl, h_pass, h_fn1, h_fn2, b_nm, b_tp, b_all0, b_all, w_0, w_1, tt_non, tt_bl, tt_int, tt_tup, tt_lst, tt_dct, o_add, o_adds, o_addt, o_addl, o_sub, o_mul, o_mull, o_mult, o_fdiv, o_mod, o_pow, i_tup, i_lst, i_str, i_dct, i_dci, sl_tup, sl_lst', sl_str, mu_app, mu_clr, mu_ext, mu_ins, isN_non, notN_non, tb_some, tof_some, Option.map_some, Option.map_none, List.map_cons, List.map_nil, List.length_cons, List.length_nil, List.replicate_succ, List.replicate_zero, List.cons_append, List.nil_append, Nat.add_sub_cancel, Nat.sub_self, Nat.zero_add, Nat.reduceAdd, Nat.reduceSub, List.set_cons_zero, List.set_cons_succ, List.getElem?_cons_zero, List.getElem?_cons_succ, List.append_nil, if_true, if_false, Bool.false_eq_true, reduceIte, Bool.not_true, Bool.not_false, len_tup, len_lst, len_dct, int_int, int_bl, abs_int, tuple_lst, tuple_tup, list_lst, list_tup, sum_lst, sum_tup, all_bls, any_bls, ceq_int, cne_int, ceq_str, clt_int, cle_int, cgt_int, cge_int, List.length_map, List.isEmpty_cons, trangeOf1 (show n < 2 ^ 62 by omega)]
    obtain ⟨ys, g', h1, h2, h3⟩ := turns_draw (step := turnOf G (trun FR G T fuel (d + 2)) (Tg.nm 3) Exo.none (Ex.call "_law_one" (Exs.cons (Ex.var 0) (Exs.cons (Ex.var 1) Exs.nil))) [3] [some Tr.bag, some (strsT (a :: l)), some (Tr.int n), none]) (fun i : Nat => Tr.int i) Tr.str (fun _ y => y ∈ a :: l) (List.range n) g (fun i _ g => by
      obtain ⟨x, g1, h1, h2⟩ := one_t (FR := FR) (G := G) (T := T) (fuel := fuel) (d := d) Tr.str (l := a :: l) (by simp) (by have := hl.len; omega) g
      refine ⟨x, g1, ?_, h2⟩
      simp only [h_bin, h_bin1, h_bin2, h_cmp, h_cmp1, h_cmp2, h_neg, h_neg1, h_nt, h_nt1, h_nt2, h_and, h_and1, h_andt, h_andf, h_or, h_or1, h_ort, h_orf, h_isn, h_isn1, h_isn2, h_ch, h_ch1, h_ch2, h_ch3, h_ch4, h_ite, h_ite1, h_itet, h_itef, h_tup, h_tup1, h_lst, h_lst1, h_idx, h_idx1, h_idx2, h_sl, h_sl1, h_sl2, h_sl3, h_call, h_call1, h_bi, h_bi1, h_me, h_me1, h_me2, h_me3, h_me4, h_lc, h_lc1, h_tn, h_tn1, h_tn2, h_tn3, h_tn4, h_nil, h_cons, h_cons1, h_cons2, h_star, h_star1, h_star2, h_star3, h_o0, h_o1, h_o2, h_c0, h_c1, h_c2, h_seq, h_seq1, h_seq2, h_seq3, h_r1, h_r11, h_r2, h_r21, h_r22, h_zip, h_zip1, h_zip2, h_zip3, h_enum, h_enum1, h_var, h_var1, h_int, h_str, h_bl, h_non, h_glo, h_done, h_then, h_then1, h_then2, h_asg, h_asg1, h_asg2, h_asg3, h_asg4, h_augN, h_augN1, h_augN2, h_augN3, h_mu_append, h_mu_clear, h_mu_extend, h_mu_insert, h_mu1, h_mu2, h_mu3, h_ex1, h_ret, h_ret1, h_if, h_if1, h_ift, h_iff, h_for, h_for1, h_body, h_body1, h_cond, h_whl, h_pass, h_fn1, h_fn2, b_nm, b_tp, b_all0, b_all, w_0, w_1, tt_non, tt_bl, tt_int, tt_tup, tt_lst, tt_dct, o_add, o_adds, o_addt, o_addl, o_sub, o_mul, o_mull, o_mult, o_fdiv, o_mod, o_pow, i_tup, i_lst, i_str, i_dct, i_dci, sl_tup, sl_lst', sl_str, mu_app, mu_clr, mu_ext, mu_ins, isN_non, notN_non, tb_some, tof_some, Option.map_some, Option.map_none, List.map_cons, List.map_nil, List.length_cons, List.length_nil, List.replicate_succ, List.replicate_zero, List.cons_append, List.nil_append, Nat.add_sub_cancel, Nat.sub_self, Nat.zero_add, Nat.reduceAdd, Nat.reduceSub, List.set_cons_zero, List.set_cons_succ, List.getElem?_cons_zero, List.getElem?_cons_succ, List.append_nil, if_true, if_false, Bool.false_eq_true, reduceIte, Bool.not_true, Bool.not_false, len_tup, len_lst, len_dct, int_int, int_bl, abs_int, tuple_lst, tuple_tup, list_lst, list_tup, sum_lst, sum_tup, all_bls, any_bls, ceq_int, cne_int, ceq_str, clt_int, cle_int, cgt_int, cge_int, List.length_map, h1])
    have hys : ys.length = n := by rw [h2, List.length_range]
    rw [h1]
    simp only [h_bin, h_bin1, h_bin2, h_cmp, h_cmp1, h_cmp2, h_neg, h_neg1, h_nt, h_nt1, h_nt2, h_and, h_and1, h_andt, h_andf, h_or, h_or1, h_ort, h_orf, h_isn, h_isn1, h_isn2, h_ch, h_ch1, h_ch2, h_ch3, h_ch4, h_ite, h_ite1, h_itet, h_itef, h_tup, h_tup1, h_lst, h_lst1, h_idx, h_idx1, h_idx2, h_sl, h_sl1, h_sl2, h_sl3, h_call, h_call1, h_bi, h_bi1, h_me, h_me1, h_me2, h_me3, h_me4, h_lc, h_lc1, h_tn, h_tn1, h_tn2, h_tn3, h_tn4, h_nil, h_cons, h_cons1, h_cons2, h_star, h_star1, h_star2, h_star3, h_o0, h_o1, h_o2, h_c0, h_c1, h_c2, h_seq, h_seq1, h_seq2, h_seq3, h_r1, h_r11, h_r2, h_r21, h_r22, h_zip, h_zip1, h_zip2, h_zip3, h_enum, h_enum1, h_var, h_var1, h_int, h_str, h_bl, h_non, h_glo, h_done, h_then, h_then1, h_then2, h_asg, h_asg1, h_asg2, h_asg3, h_asg4, h_augN, h_augN1, h_augN2, h_augN3, h_mu_append, h_mu_clear, h_mu_extend, h_mu_insert, h_mu1, h_mu2, h_mu3, h_ex1, h_ret, h_ret1, h_if, h_if1, h_ift, h_iff, h_for, h_for1, h_body, h_body1, h_cond, h_whl, h_pass, h_fn1, h_fn2, b_nm, b_tp, b_all0, b_all, w_0, w_1, tt_non, tt_bl, tt_int, tt_tup, tt_lst, tt_dct, o_add, o_adds, o_addt, o_addl, o_sub, o_mul, o_mull, o_mult, o_fdiv, o_mod, o_pow, i_tup, i_lst, i_str, i_dct, i_dci, sl_tup, sl_lst', sl_str, mu_app, mu_clr, mu_ext, mu_ins, isN_non, notN_non, tb_some, tof_some, Option.map_some, Option.map_none, List.map_cons, List.map_nil, List.length_cons, List.length_nil, List.replicate_succ, List.replicate_zero, List.cons_append, List.nil_append, Nat.add_sub_cancel, Nat.sub_self, Nat.zero_add, Nat.reduceAdd, Nat.reduceSub, List.set_cons_zero, List.set_cons_succ, List.getElem?_cons_zero, List.getElem?_cons_succ, List.append_nil, if_true, if_false, Bool.false_eq_true, reduceIte, Bool.not_true, Bool.not_false, len_tup, len_lst, len_dct, int_int, int_bl, abs_int, tuple_lst, tuple_tup, list_lst, list_tup, sum_lst, sum_tup, all_bls, any_bls, ceq_int, cne_int, ceq_str, clt_int, cle_int, cgt_int, cge_int, List.length_map, if_pos (mem_lim (show ys.length ≤ 16777216 by omega)), sorted_strs (show ys.length < 64 by omega)]
    refine ⟨sortS ys, g', rfl, ⟨fun x hx => ?_, by rw [sortS_len]; omega, sortS_pw ys⟩, fun _ => by rw [sortS_len]; exact hys⟩
    have hx := (sortS_perm ys).mem_iff.mp hx
    obtain ⟨i, hi, rfl⟩ := List.getElem_of_mem hx
    exact h3 i i _ (by rw [List.getElem?_range (by omega)]) (List.getElem?_eq_getElem hi)
abbrev pairT (a b : List Str) : Tr := .tup [strsT a, strsT b]
theorem pair_t [Has FR T ("_law_pair" : Str) f__law_pair] [Has FR T ("_law_sum" : Str) f__law_sum] [Has FR T ("_law_one" : Str) f__law_one] {l : List Str} (hl : Things l) (g : Bg) :
    ∃ (a b : List Str) (g' : Bg), trun FR G T fuel (d + 4) "_law_pair" [.bag, strsT l] g = some (pairT a b, g') ∧ SumOf l a ∧ SumOf l b := by
  rw [trun_eq (f := "_law_pair") (by rfl)]
  unfold f__law_pair
  obtain ⟨x, g1, h1, hx⟩ := draw (FR := FR) (G := G) (T := T) (fuel := fuel) (d := d + 2) g (m := 4) (by decide) (by decide)
  obtain ⟨w, g2, h2, hw⟩ := draw (FR := FR) (G := G) (T := T) (fuel := fuel) (d := d + 2) g1 (m := 8) (by decide) (by decide)
  obtain ⟨n, hn, hp⟩ : ∃ n : Nat, n ≤ 3 ∧ pick [Tr.int 2, Tr.int 1, Tr.int 2, Tr.int 3] (x : Int) = some (.int n) := by
    have : x = 0 ∨ x = 1 ∨ x = 2 ∨ x = 3 := by omega
    rcases this with rfl | rfl | rfl | rfl
    · exact ⟨2, by decide, rfl⟩
    · exact ⟨1, by decide, rfl⟩
    · exact ⟨2, by decide, rfl⟩
    · exact ⟨3, by decide, rfl⟩
  obtain ⟨s, g3, h3, hs, _⟩ := sum_t (FR := FR) (G := G) (T := T) (fuel := fuel) (d := d) hl hn g2
  simp only [h_bin, h_bin1, h_bin2, h_cmp, h_cmp1, h_cmp2, h_neg, h_neg1, h_nt, h_nt1, h_nt2, h_and, h_and1, h_andt, h_andf, h_or, h_or1, h_ort, h_orf, h_isn, h_isn1, h_isn2, h_ch, h_ch1, h_ch2, h_ch3, h_ch4, h_ite, h_ite1, h_itet, h_itef, h_tup, h_tup1, h_lst, h_lst1, h_idx, h_idx1, h_idx2, h_sl, h_sl1, h_sl2, h_sl3, h_call, h_call1, h_bi, h_bi1, h_me, h_me1, h_me2, h_me3, h_me4, h_lc, h_lc1, h_tn, h_tn1, h_tn2, h_tn3, h_tn4, h_nil, h_cons, h_cons1, h_cons2, h_star, h_star1, h_star2, h_star3, h_o0, h_o1, h_o2, h_c0, h_c1, h_c2, h_seq, h_seq1, h_seq2, h_seq3, h_r1, h_r11, h_r2, h_r21, h_r22, h_zip, h_zip1, h_zip2, h_zip3, h_enum, h_enum1, h_var, h_var1, h_int, h_str, h_bl, h_non, h_glo, h_done, h_then, h_then1, h_then2, h_asg, h_asg1, h_asg2, h_asg3, h_asg4, h_augN, h_augN1, h_augN2, h_augN3, h_mu_append, h_mu_clear, h_mu_extend, h_mu_insert, h_mu1, h_mu2, h_mu3, h_ex1, h_ret, h_ret1, h_if, h_if1, h_ift, h_iff, h_for, h_for1, h_body, h_body1, h_cond, h_whl, h_pass, h_fn1, h_fn2, b_nm, b_tp, b_all0, b_all, w_0, w_1, tt_non, tt_bl, tt_int, tt_tup, tt_lst, tt_dct, o_add, o_adds, o_addt, o_addl, o_sub, o_mul, o_mull, o_mult, o_fdiv, o_mod, o_pow, i_tup, i_lst, i_str, i_dct, i_dci, sl_tup, sl_lst', sl_str, mu_app, mu_clr, mu_ext, mu_ins, isN_non, notN_non, tb_some, tof_some, Option.map_some, Option.map_none, List.map_cons, List.map_nil, List.length_cons, List.length_nil, List.replicate_succ, List.replicate_zero, List.cons_append, List.nil_append, Nat.add_sub_cancel, Nat.sub_self, Nat.zero_add, Nat.reduceAdd, Nat.reduceSub, List.set_cons_zero, List.set_cons_succ, List.getElem?_cons_zero, List.getElem?_cons_succ, List.append_nil, if_true, if_false, Bool.false_eq_true, reduceIte, Bool.not_true, Bool.not_false, len_tup, len_lst, len_dct, int_int, int_bl, abs_int, tuple_lst, tuple_tup, list_lst, list_tup, sum_lst, sum_tup, all_bls, any_bls, ceq_int, cne_int, ceq_str, clt_int, cle_int, cgt_int, cge_int, List.length_map, h1, h2, if_pos (show 4 ≤ lim by decide), hp, if_pos (show 2 ≤ lim by decide), h3]
  obtain ⟨y, g4, h4, hy⟩ := draw (FR := FR) (G := G) (T := T) (fuel := fuel) (d := d + 2) g3 (m := 4) (by decide) (by decide)
  obtain ⟨s2, g5, h5, hs2, _⟩ := sum_t (FR := FR) (G := G) (T := T) (fuel := fuel) (d := d) hl (show y ≤ 3 by omega) g4
  obtain ⟨s3, g6, h6, hs3, _⟩ := sum_t (FR := FR) (G := G) (T := T) (fuel := fuel) (d := d) hl hn g3
  by_cases w0 : w = 0
  · rw [w0]
    simp only [h_bin, h_bin1, h_bin2, h_cmp, h_cmp1, h_cmp2, h_neg, h_neg1, h_nt, h_nt1, h_nt2, h_and, h_and1, h_andt, h_andf, h_or, h_or1, h_ort, h_orf, h_isn, h_isn1, h_isn2, h_ch, h_ch1, h_ch2, h_ch3, h_ch4, h_ite, h_ite1, h_itet, h_itef, h_tup, h_tup1, h_lst, h_lst1, h_idx, h_idx1, h_idx2, h_sl, h_sl1, h_sl2, h_sl3, h_call, h_call1, h_bi, h_bi1, h_me, h_me1, h_me2, h_me3, h_me4, h_lc, h_lc1, h_tn, h_tn1, h_tn2, h_tn3, h_tn4, h_nil, h_cons, h_cons1, h_cons2, h_star, h_star1, h_star2, h_star3, h_o0, h_o1, h_o2, h_c0, h_c1, h_c2, h_seq, h_seq1, h_seq2, h_seq3, h_r1, h_r11, h_r2, h_r21, h_r22, h_zip, h_zip1, h_zip2, h_zip3, h_enum, h_enum1, h_var, h_var1, h_int, h_str, h_bl, h_non, h_glo, h_done, h_then, h_then1, h_then2, h_asg, h_asg1, h_asg2, h_asg3, h_asg4, h_augN, h_augN1, h_augN2, h_augN3, h_mu_append, h_mu_clear, h_mu_extend, h_mu_insert, h_mu1, h_mu2, h_mu3, h_ex1, h_ret, h_ret1, h_if, h_if1, h_ift, h_iff, h_for, h_for1, h_body, h_body1, h_cond, h_whl, h_pass, h_fn1, h_fn2, b_nm, b_tp, b_all0, b_all, w_0, w_1, tt_non, tt_bl, tt_int, tt_tup, tt_lst, tt_dct, o_add, o_adds, o_addt, o_addl, o_sub, o_mul, o_mull, o_mult, o_fdiv, o_mod, o_pow, i_tup, i_lst, i_str, i_dct, i_dci, sl_tup, sl_lst', sl_str, mu_app, mu_clr, mu_ext, mu_ins, isN_non, notN_non, tb_some, tof_some, Option.map_some, Option.map_none, List.map_cons, List.map_nil, List.length_cons, List.length_nil, List.replicate_succ, List.replicate_zero, List.cons_append, List.nil_append, Nat.add_sub_cancel, Nat.sub_self, Nat.zero_add, Nat.reduceAdd, Nat.reduceSub, List.set_cons_zero, List.set_cons_succ, List.getElem?_cons_zero, List.getElem?_cons_succ, List.append_nil, if_true, if_false, Bool.false_eq_true, reduceIte, Bool.not_true, Bool.not_false, len_tup, len_lst, len_dct, int_int, int_bl, abs_int, tuple_lst, tuple_tup, list_lst, list_tup, sum_lst, sum_tup, all_bls, any_bls, ceq_int, cne_int, ceq_str, clt_int, cle_int, cgt_int, cge_int, List.length_map, show (((0 : Nat) : Int) == 0) = true from rfl, h4, h5, if_pos (show 2 ≤ lim by decide)]
    exact ⟨s, s2, g5, rfl, hs, hs2⟩
  have e0 : ((w : Int) == 0) = false := by rw [beq_eq_false_iff_ne]; omega
  by_cases w2 : w = 2
  · rw [w2]
    simp only [h_bin, h_bin1, h_bin2, h_cmp, h_cmp1, h_cmp2, h_neg, h_neg1, h_nt, h_nt1, h_nt2, h_and, h_and1, h_andt, h_andf, h_or, h_or1, h_ort, h_orf, h_isn, h_isn1, h_isn2, h_ch, h_ch1, h_ch2, h_ch3, h_ch4, h_ite, h_ite1, h_itet, h_itef, h_tup, h_tup1, h_lst, h_lst1, h_idx, h_idx1, h_idx2, h_sl, h_sl1, h_sl2, h_sl3, h_call, h_call1, h_bi, h_bi1, h_me, h_me1, h_me2, h_me3, h_me4, h_lc, h_lc1, h_tn, h_tn1, h_tn2, h_tn3, h_tn4, h_nil, h_cons, h_cons1, h_cons2, h_star, h_star1, h_star2, h_star3, h_o0, h_o1, h_o2, h_c0, h_c1, h_c2, h_seq, h_seq1, h_seq2, h_seq3, h_r1, h_r11, h_r2, h_r21, h_r22, h_zip, h_zip1, h_zip2, h_zip3, h_enum, h_enum1, h_var, h_var1, h_int, h_str, h_bl, h_non, h_glo, h_done, h_then, h_then1, h_then2, h_asg, h_asg1, h_asg2, h_asg3, h_asg4, h_augN, h_augN1, h_augN2, h_augN3, h_mu_append, h_mu_clear, h_mu_extend, h_mu_insert, h_mu1, h_mu2, h_mu3, h_ex1, h_ret, h_ret1, h_if, h_if1, h_ift, h_iff, h_for, h_for1, h_body, h_body1, h_cond, h_whl, h_pass, h_fn1, h_fn2, b_nm, b_tp, b_all0, b_all, w_0, w_1, tt_non, tt_bl, tt_int, tt_tup, tt_lst, tt_dct, o_add, o_adds, o_addt, o_addl, o_sub, o_mul, o_mull, o_mult, o_fdiv, o_mod, o_pow, i_tup, i_lst, i_str, i_dct, i_dci, sl_tup, sl_lst', sl_str, mu_app, mu_clr, mu_ext, mu_ins, isN_non, notN_non, tb_some, tof_some, Option.map_some, Option.map_none, List.map_cons, List.map_nil, List.length_cons, List.length_nil, List.replicate_succ, List.replicate_zero, List.cons_append, List.nil_append, Nat.add_sub_cancel, Nat.sub_self, Nat.zero_add, Nat.reduceAdd, Nat.reduceSub, List.set_cons_zero, List.set_cons_succ, List.getElem?_cons_zero, List.getElem?_cons_succ, List.append_nil, if_true, if_false, Bool.false_eq_true, reduceIte, Bool.not_true, Bool.not_false, len_tup, len_lst, len_dct, int_int, int_bl, abs_int, tuple_lst, tuple_tup, list_lst, list_tup, sum_lst, sum_tup, all_bls, any_bls, ceq_int, cne_int, ceq_str, clt_int, cle_int, cgt_int, cge_int, List.length_map, show (((2 : Nat) : Int) == 0) = false from rfl, show (((2 : Nat) : Int) == 2) = true from rfl, h4, h5, if_pos (show 2 ≤ lim by decide)]
    exact ⟨s2, s, g5, rfl, hs2, hs⟩
  have e2 : ((w : Int) == 2) = false := by rw [beq_eq_false_iff_ne]; omega
  by_cases w1 : w = 1
  · rw [w1]
    simp only [h_bin, h_bin1, h_bin2, h_cmp, h_cmp1, h_cmp2, h_neg, h_neg1, h_nt, h_nt1, h_nt2, h_and, h_and1, h_andt, h_andf, h_or, h_or1, h_ort, h_orf, h_isn, h_isn1, h_isn2, h_ch, h_ch1, h_ch2, h_ch3, h_ch4, h_ite, h_ite1, h_itet, h_itef, h_tup, h_tup1, h_lst, h_lst1, h_idx, h_idx1, h_idx2, h_sl, h_sl1, h_sl2, h_sl3, h_call, h_call1, h_bi, h_bi1, h_me, h_me1, h_me2, h_me3, h_me4, h_lc, h_lc1, h_tn, h_tn1, h_tn2, h_tn3, h_tn4, h_nil, h_cons, h_cons1, h_cons2, h_star, h_star1, h_star2, h_star3, h_o0, h_o1, h_o2, h_c0, h_c1, h_c2, h_seq, h_seq1, h_seq2, h_seq3, h_r1, h_r11, h_r2, h_r21, h_r22, h_zip, h_zip1, h_zip2, h_zip3, h_enum, h_enum1, h_var, h_var1, h_int, h_str, h_bl, h_non, h_glo, h_done, h_then, h_then1, h_then2, h_asg, h_asg1, h_asg2, h_asg3, h_asg4, h_augN, h_augN1, h_augN2, h_augN3, h_mu_append, h_mu_clear, h_mu_extend, h_mu_insert, h_mu1, h_mu2, h_mu3, h_ex1, h_ret, h_ret1, h_if, h_if1, h_ift, h_iff, h_for, h_for1, h_body, h_body1, h_cond, h_whl, h_pass, h_fn1, h_fn2, b_nm, b_tp, b_all0, b_all, w_0, w_1, tt_non, tt_bl, tt_int, tt_tup, tt_lst, tt_dct, o_add, o_adds, o_addt, o_addl, o_sub, o_mul, o_mull, o_mult, o_fdiv, o_mod, o_pow, i_tup, i_lst, i_str, i_dct, i_dci, sl_tup, sl_lst', sl_str, mu_app, mu_clr, mu_ext, mu_ins, isN_non, notN_non, tb_some, tof_some, Option.map_some, Option.map_none, List.map_cons, List.map_nil, List.length_cons, List.length_nil, List.replicate_succ, List.replicate_zero, List.cons_append, List.nil_append, Nat.add_sub_cancel, Nat.sub_self, Nat.zero_add, Nat.reduceAdd, Nat.reduceSub, List.set_cons_zero, List.set_cons_succ, List.getElem?_cons_zero, List.getElem?_cons_succ, List.append_nil, if_true, if_false, Bool.false_eq_true, reduceIte, Bool.not_true, Bool.not_false, len_tup, len_lst, len_dct, int_int, int_bl, abs_int, tuple_lst, tuple_tup, list_lst, list_tup, sum_lst, sum_tup, all_bls, any_bls, ceq_int, cne_int, ceq_str, clt_int, cle_int, cgt_int, cge_int, List.length_map, show (((1 : Nat) : Int) == 0) = false from rfl, show (((1 : Nat) : Int) == 2) = false from rfl, show (((1 : Nat) : Int) == 1) = true from rfl, if_pos (show 2 ≤ lim by decide)]
    exact ⟨s, s, g3, rfl, hs, hs⟩
  have e1 : ((w : Int) == 1) = false := by rw [beq_eq_false_iff_ne]; omega
  simp only [h_bin, h_bin1, h_bin2, h_cmp, h_cmp1, h_cmp2, h_neg, h_neg1, h_nt, h_nt1, h_nt2, h_and, h_and1, h_andt, h_andf, h_or, h_or1, h_ort, h_orf, h_isn, h_isn1, h_isn2, h_ch, h_ch1, h_ch2, h_ch3, h_ch4, h_ite, h_ite1, h_itet, h_itef, h_tup, h_tup1, h_lst, h_lst1, h_idx, h_idx1, h_idx2, h_sl, h_sl1, h_sl2, h_sl3, h_call, h_call1, h_bi, h_bi1, h_me, h_me1, h_me2, h_me3, h_me4, h_lc, h_lc1, h_tn, h_tn1, h_tn2, h_tn3, h_tn4, h_nil, h_cons, h_cons1, h_cons2, h_star, h_star1, h_star2, h_star3, h_o0, h_o1, h_o2, h_c0, h_c1, h_c2, h_seq, h_seq1, h_seq2, h_seq3, h_r1, h_r11, h_r2, h_r21, h_r22, h_zip, h_zip1, h_zip2, h_zip3, h_enum, h_enum1, h_var, h_var1, h_int, h_str, h_bl, h_non, h_glo, h_done, h_then, h_then1, h_then2, h_asg, h_asg1, h_asg2, h_asg3, h_asg4, h_augN, h_augN1, h_augN2, h_augN3, h_mu_append, h_mu_clear, h_mu_extend, h_mu_insert, h_mu1, h_mu2, h_mu3, h_ex1, h_ret, h_ret1, h_if, h_if1, h_ift, h_iff, h_for, h_for1, h_body, h_body1, h_cond, h_whl, h_pass, h_fn1, h_fn2, b_nm, b_tp, b_all0, b_all, w_0, w_1, tt_non, tt_bl, tt_int, tt_tup, tt_lst, tt_dct, o_add, o_adds, o_addt, o_addl, o_sub, o_mul, o_mull, o_mult, o_fdiv, o_mod, o_pow, i_tup, i_lst, i_str, i_dct, i_dci, sl_tup, sl_lst', sl_str, mu_app, mu_clr, mu_ext, mu_ins, isN_non, notN_non, tb_some, tof_some, Option.map_some, Option.map_none, List.map_cons, List.map_nil, List.length_cons, List.length_nil, List.replicate_succ, List.replicate_zero, List.cons_append, List.nil_append, Nat.add_sub_cancel, Nat.sub_self, Nat.zero_add, Nat.reduceAdd, Nat.reduceSub, List.set_cons_zero, List.set_cons_succ, List.getElem?_cons_zero, List.getElem?_cons_succ, List.append_nil, if_true, if_false, Bool.false_eq_true, reduceIte, Bool.not_true, Bool.not_false, len_tup, len_lst, len_dct, int_int, int_bl, abs_int, tuple_lst, tuple_tup, list_lst, list_tup, sum_lst, sum_tup, all_bls, any_bls, ceq_int, cne_int, ceq_str, clt_int, cle_int, cgt_int, cge_int, List.length_map, e0, e2, e1, h6, if_pos (show 2 ≤ lim by decide)]
  exact ⟨s, s3, g6, rfl, hs, hs3⟩
end
end A46
end
section
namespace A46
open PySem (Str PyData)
def f_row_of : Fn :=
  ⟨["things", "pair"], ["things", "pair", "name"], (.cons (.ret (.bi .tuple (.cons (.lc (.seq (.var 0)) (.nm 2) .none (.bin .sub (.me .count (.idx (.var 1) (.con (.int 0))) (.cons (.var 2) .nil)) (.me .count (.idx (.var 1) (.con (.int 1))) (.cons (.var 2) .nil))) [2]) .nil))) .nil)⟩
def f_added : Fn :=
  ⟨["one", "other"], ["one", "other", "mine", "its"], (.cons (.ret (.bi .tuple (.cons (.lc (.zip (.var 0) (.var 1)) (.tp [2, 3]) .none (.bin .add (.var 2) (.var 3)) [2, 3]) .nil))) .nil)⟩
def f_taken : Fn :=
  ⟨["one", "other"], ["one", "other", "mine", "its"], (.cons (.ret (.bi .tuple (.cons (.lc (.zip (.var 0) (.var 1)) (.tp [2, 3]) .none (.bin .sub (.var 2) (.var 3)) [2, 3]) .nil))) .nil)⟩
def f_times : Fn :=
  ⟨["row", "number"], ["row", "number", "part"], (.cons (.ret (.bi .tuple (.cons (.lc (.seq (.var 0)) (.nm 2) .none (.bin .mul (.var 1) (.var 2)) [2]) .nil))) .nil)⟩
def f_mixture : Fn :=
  ⟨["rows", "numbers", "many"], ["rows", "numbers", "many", "found", "row", "number"], (.cons (.asg (.tg (.nm 3)) (.bin .mul (.tup (.cons (.con (.int 0)) .nil)) (.var 2)))
  (.cons (.for_ (.zip (.var 0) (.var 1)) (.tp [4, 5]) (.cons (.asg (.tg (.nm 3)) (.call "added" (.cons (.var 3) (.cons (.call "times" (.cons (.var 4) (.cons (.var 5) .nil))) .nil)))) .nil))
  (.cons (.ret (.var 3)) .nil)))⟩
def f_dot : Fn :=
  ⟨["one", "other"], ["one", "other", "mine", "its"], (.cons (.ret (.bi .sum (.cons (.lc (.zip (.var 0) (.var 1)) (.tp [2, 3]) .none (.bin .mul (.var 2) (.var 3)) [2, 3]) .nil))) .nil)⟩
def f_is_balanced : Fn :=
  ⟨["row"], ["row"], (.cons (.ret (.cmp .eq (.bi .sum (.cons (.var 0) .nil)) (.con (.int 0)))) .nil)⟩
def f__law_row : Fn :=
  ⟨["_law_things_here", "_law_pair_here"], ["_law_things_here", "_law_pair_here", "_law_name"], (.cons (.ret (.bi .tuple (.cons (.lc (.seq (.var 0)) (.nm 2) .none (.bin .sub (.me .count (.idx (.var 1) (.con (.int 0))) (.cons (.var 2) .nil)) (.me .count (.idx (.var 1) (.con (.int 1))) (.cons (.var 2) .nil))) [2]) .nil))) .nil)⟩
def f__law_dot : Fn :=
  ⟨["_law_one_here", "_law_other"], ["_law_one_here", "_law_other", "_law_at"], (.cons (.ret (.bi .sum (.cons (.lc (.range1 (.bi .len (.cons (.var 0) .nil))) (.nm 2) .none (.bin .mul (.idx (.var 0) (.var 2)) (.idx (.var 1) (.var 2))) [2]) .nil))) .nil)⟩
def f__law_mixture : Fn :=
  ⟨["_law_rows", "_law_numbers", "_law_many"], ["_law_rows", "_law_numbers", "_law_many", "_law_found", "_law_k", "_law_at"], (.cons (.asg (.tg (.nm 3)) (.bin .mul (.lst (.cons (.con (.int 0)) .nil)) (.var 2)))
  (.cons (.for_ (.range1 (.bi .len (.cons (.var 0) .nil))) (.nm 4) (.cons (.asg (.tg (.nm 3)) (.lc (.range1 (.var 2)) (.nm 5) .none (.bin .add (.idx (.var 3) (.var 5)) (.bin .mul (.idx (.var 1) (.var 4)) (.idx (.idx (.var 0) (.var 4)) (.var 5)))) [5])) .nil))
  (.cons (.ret (.bi .tuple (.cons (.var 3) .nil))) .nil)))⟩
def f__law_worth : Fn :=
  ⟨["_law_worths", "_law_one_here"], ["_law_worths", "_law_one_here", "_law_name"], (.cons (.ret (.bi .sum (.cons (.lc (.seq (.var 1)) (.nm 2) .none (.idx (.var 0) (.var 2)) [2]) .nil))) .nil)⟩
def f__law_worths : Fn :=
  ⟨["_law_bag_here", "_law_things_here", "_law_low", "_law_high"], ["_law_bag_here", "_law_things_here", "_law_low", "_law_high", "_law_name"], (.cons (.ret (.bi .dict (.cons (.lc (.seq (.var 1)) (.nm 4) .none (.tup (.cons (.var 4) (.cons (.bin .add (.var 2) (.call "_law_take" (.cons (.var 0) (.cons (.bin .add (.bin .sub (.var 3) (.var 2)) (.con (.int 1))) .nil)))) .nil))) [4]) .nil))) .nil)⟩
end A46
end
section
namespace A46
open PySem (Str PyData)
def vAdd (xs ys : List Int) : List Int := (xs.zip ys).map fun p => p.1 + p.2
def vSub (xs ys : List Int) : List Int := (xs.zip ys).map fun p => p.1 - p.2
def vMul (n : Int) (xs : List Int) : List Int := xs.map fun x => n * x
def vDot (xs ys : List Int) : Int := ((xs.zip ys).map fun p => p.1 * p.2).sum
def mixL (n : Nat) (ps : List (List Int × Int)) : List Int := ps.foldl (fun acc p => vAdd acc (vMul p.2 p.1)) (List.replicate n 0)
def rowOf (l a b : List Str) : List Int := l.map fun x => ((a.count x : Nat) : Int) - ((b.count x : Nat) : Int)
theorem vAdd_len {xs ys : List Int} : (vAdd xs ys).length = min xs.length ys.length := by simp [vAdd]
theorem vSub_len {xs ys : List Int} : (vSub xs ys).length = min xs.length ys.length := by simp [vSub]
theorem vMul_len {n : Int} {xs : List Int} : (vMul n xs).length = xs.length := by simp [vMul]
theorem pick_row {xs : List Int} {k : Nat} (h : k < xs.length) : pick (xs.map Tr.int) (k : Int) = some (.int (xs.getD k 0)) := by
  rw [pick_nat, List.getElem?_map, List.getD, List.getElem?_eq_getElem h]
  rfl
theorem range_zip {α : Type} (f : Int → Int → α) {n : Nat} {xs ys : List Int} (hx : xs.length = n) (hy : ys.length = n) : (List.range n).map (fun k => f (xs.getD k 0) (ys.getD k 0)) = (xs.zip ys).map fun p => f p.1 p.2 := by
  apply List.ext_getElem
  · simp [hx, hy]
  · intro i h1 h2
    simp only [List.length_map, List.length_range] at h1
    simp only [List.getElem_map, List.getElem_range, List.getElem_zip, List.getD]
    rw [List.getElem?_eq_getElem (by omega), List.getElem?_eq_getElem (by omega)]
    rfl
theorem repT_zero : ∀ n : Nat, repT [.int 0] n = (List.replicate n (0 : Int)).map .int
  | 0 => rfl
  | n + 1 => by rw [repT, repT_zero n, List.replicate_succ, List.map_cons]; rfl
theorem count_t {a : List Str} {x : Str} : tmeth .count (.tup (a.map .str)) [.str x] = some (.int ((a.count x : Nat) : Int)) := by
  have h1 : ∀ a : List Str, (a.map Tr.str).all tflat = true := fun a => by induction a with
    | nil => rfl
    | cons y a ih => rw [List.map_cons, List.all_cons, ih]; rfl
  have h2 : ∀ a : List Str, ((a.map Tr.str).filter fun y => teqF y (.str x)).length = a.count x := fun a => by induction a with
    | nil => rfl
    | cons y a ih =>
      rw [List.map_cons, List.filter_cons, List.count_cons]
      have e : teqF (.str y) (.str x) = (y == x) := rfl
      rw [e]
      cases y == x with
      | true => simp only [if_true, List.length_cons, ih]
      | false => simp only [Bool.false_eq_true, if_false, ih, Nat.add_zero]
  unfold tmeth
  simp only [h1, h2]
  rfl
section
variable {FR : List Str} {G : Str → Option Tr} {T : List (Str × Fn)} {fuel d : Nat} {g : Bg}
theorem row_of_t [Has FR T ("row_of" : Str) f_row_of] {l a b : List Str} (h : l.length ≤ 1000) : trun FR G T fuel (d + 1) "row_of" [strsT l, pairT a b] g = some (rowT (rowOf l a b), g) := by
  rw [trun_eq (f := "row_of") (by rfl)]
  unfold f_row_of
  simp only [h_bin, h_bin1, h_bin2, h_cmp, h_cmp1, h_cmp2, h_neg, h_neg1, h_nt, h_nt1, h_nt2, h_and, h_and1, h_andt, h_andf, h_or, h_or1, h_ort, h_orf, h_isn, h_isn1, h_isn2, h_ch, h_ch1, h_ch2, h_ch3, h_ch4, h_ite, h_ite1, h_itet, h_itef, h_tup, h_tup1, h_lst, h_lst1, h_idx, h_idx1, h_idx2, h_sl, h_sl1, h_sl2, h_sl3, h_call, h_call1, h_bi, h_bi1, h_me, h_me1, h_me2, h_me3, h_me4, h_lc, h_lc1, h_tn, h_tn1, h_tn2, h_tn3, h_tn4, h_nil, h_cons, h_cons1, h_cons2, h_star, h_star1, h_star2, h_star3, h_o0, h_o1, h_o2, h_c0, h_c1, h_c2, h_seq, h_seq1, h_seq2, h_seq3, h_r1, h_r11, h_r2, h_r21, h_r22, h_zip, h_zip1, h_zip2, h_zip3, h_enum, h_enum1, h_var, h_var1, h_int, h_str, h_bl, h_non, h_glo, h_done, h_then, h_then1, h_then2, h_asg, h_asg1, h_asg2, h_asg3, h_asg4, h_augN, h_augN1, h_augN2, h_augN3, h_mu_append, h_mu_clear, h_mu_extend, h_mu_insert, h_mu1, h_mu2, h_mu3, h_ex1, h_ret, h_ret1, h_if, h_if1, h_ift, h_iff, h_for, h_for1, h_body, h_body1, h_cond, h_whl, h_pass, h_fn1, h_fn2, b_nm, b_tp, b_all0, b_all, w_0, w_1, tt_non, tt_bl, tt_int, tt_tup, tt_lst, tt_dct, o_add, o_adds, o_addt, o_addl, o_sub, o_mul, o_mull, o_mult, o_fdiv, o_mod, o_pow, i_tup, i_lst, i_str, i_dct, i_dci, sl_tup, sl_lst', sl_str, mu_app, mu_clr, mu_ext, mu_ins, isN_non, notN_non, tb_some, tof_some, Option.map_some, Option.map_none, List.map_cons, List.map_nil, List.length_cons, List.length_nil, List.replicate_succ, List.replicate_zero, List.cons_append, List.nil_append, Nat.add_sub_cancel, Nat.sub_self, Nat.zero_add, Nat.reduceAdd, Nat.reduceSub, List.set_cons_zero, List.set_cons_succ, List.getElem?_cons_zero, List.getElem?_cons_succ, List.append_nil, if_true, if_false, Bool.false_eq_true, reduceIte, Bool.not_true, Bool.not_false, len_tup, len_lst, len_dct, int_int, int_bl, abs_int, tuple_lst, tuple_tup, list_lst, list_tup, sum_lst, sum_tup, all_bls, any_bls, ceq_int, cne_int, ceq_str, clt_int, cle_int, cgt_int, cge_int, List.length_map]
  rw [turns_each Tr.str (fun x => .int (((a.count x : Nat) : Int) - ((b.count x : Nat) : Int))) l (fun x _ g => by
    simp only [h_bin, h_bin1, h_bin2, h_cmp, h_cmp1, h_cmp2, h_neg, h_neg1, h_nt, h_nt1, h_nt2, h_and, h_and1, h_andt, h_andf, h_or, h_or1, h_ort, h_orf, h_isn, h_isn1, h_isn2, h_ch, h_ch1, h_ch2, h_ch3, h_ch4, h_ite, h_ite1, h_itet, h_itef, h_tup, h_tup1, h_lst, h_lst1, h_idx, h_idx1, h_idx2, h_sl, h_sl1, h_sl2, h_sl3, h_call, h_call1, h_bi, h_bi1, h_me, h_me1, h_me2, h_me3, h_me4, h_lc, h_lc1, h_tn, h_tn1, h_tn2, h_tn3, h_tn4, h_nil, h_cons, h_cons1, h_cons2, h_star, h_star1, h_star2, h_star3, h_o0, h_o1, h_o2, h_c0, h_c1, h_c2, h_seq, h_seq1, h_seq2, h_seq3, h_r1, h_r11, h_r2, h_r21, h_r22, h_zip, h_zip1, h_zip2, h_zip3, h_enum, h_enum1, h_var, h_var1, h_int, h_str, h_bl, h_non, h_glo, h_done, h_then, h_then1, h_then2, h_asg, h_asg1, h_asg2, h_asg3, h_asg4, h_augN, h_augN1, h_augN2, h_augN3, h_mu_append, h_mu_clear, h_mu_extend, h_mu_insert, h_mu1, h_mu2, h_mu3, h_ex1, h_ret, h_ret1, h_if, h_if1, h_ift, h_iff, h_for, h_for1, h_body, h_body1, h_cond, h_whl, h_pass, h_fn1, h_fn2, b_nm, b_tp, b_all0, b_all, w_0, w_1, tt_non, tt_bl, tt_int, tt_tup, tt_lst, tt_dct, o_add, o_adds, o_addt, o_addl, o_sub, o_mul, o_mull, o_mult, o_fdiv, o_mod, o_pow, i_tup, i_lst, i_str, i_dct, i_dci, sl_tup, sl_lst', sl_str, mu_app, mu_clr, mu_ext, mu_ins, isN_non, notN_non, tb_some, tof_some, Option.map_some, Option.map_none, List.map_cons, List.map_nil, List.length_cons, List.length_nil, List.replicate_succ, List.replicate_zero, List.cons_append, List.nil_append, Nat.add_sub_cancel, Nat.sub_self, Nat.zero_add, Nat.reduceAdd, Nat.reduceSub, List.set_cons_zero, List.set_cons_succ, List.getElem?_cons_zero, List.getElem?_cons_succ, List.append_nil, if_true, if_false, Bool.false_eq_true, reduceIte, Bool.not_true, Bool.not_false, len_tup, len_lst, len_dct, int_int, int_bl, abs_int, tuple_lst, tuple_tup, list_lst, list_tup, sum_lst, sum_tup, all_bls, any_bls, ceq_int, cne_int, ceq_str, clt_int, cle_int, cgt_int, cge_int, List.length_map, show pick [strsT a, strsT b] 0 = some (strsT a) from rfl, show pick [strsT a, strsT b] 1 = some (strsT b) from rfl, count_t])]
  simp only [h_bin, h_bin1, h_bin2, h_cmp, h_cmp1, h_cmp2, h_neg, h_neg1, h_nt, h_nt1, h_nt2, h_and, h_and1, h_andt, h_andf, h_or, h_or1, h_ort, h_orf, h_isn, h_isn1, h_isn2, h_ch, h_ch1, h_ch2, h_ch3, h_ch4, h_ite, h_ite1, h_itet, h_itef, h_tup, h_tup1, h_lst, h_lst1, h_idx, h_idx1, h_idx2, h_sl, h_sl1, h_sl2, h_sl3, h_call, h_call1, h_bi, h_bi1, h_me, h_me1, h_me2, h_me3, h_me4, h_lc, h_lc1, h_tn, h_tn1, h_tn2, h_tn3, h_tn4, h_nil, h_cons, h_cons1, h_cons2, h_star, h_star1, h_star2, h_star3, h_o0, h_o1, h_o2, h_c0, h_c1, h_c2, h_seq, h_seq1, h_seq2, h_seq3, h_r1, h_r11, h_r2, h_r21, h_r22, h_zip, h_zip1, h_zip2, h_zip3, h_enum, h_enum1, h_var, h_var1, h_int, h_str, h_bl, h_non, h_glo, h_done, h_then, h_then1, h_then2, h_asg, h_asg1, h_asg2, h_asg3, h_asg4, h_augN, h_augN1, h_augN2, h_augN3, h_mu_append, h_mu_clear, h_mu_extend, h_mu_insert, h_mu1, h_mu2, h_mu3, h_ex1, h_ret, h_ret1, h_if, h_if1, h_ift, h_iff, h_for, h_for1, h_body, h_body1, h_cond, h_whl, h_pass, h_fn1, h_fn2, b_nm, b_tp, b_all0, b_all, w_0, w_1, tt_non, tt_bl, tt_int, tt_tup, tt_lst, tt_dct, o_add, o_adds, o_addt, o_addl, o_sub, o_mul, o_mull, o_mult, o_fdiv, o_mod, o_pow, i_tup, i_lst, i_str, i_dct, i_dci, sl_tup, sl_lst', sl_str, mu_app, mu_clr, mu_ext, mu_ins, isN_non, notN_non, tb_some, tof_some, Option.map_some, Option.map_none, List.map_cons, List.map_nil, List.length_cons, List.length_nil, List.replicate_succ, List.replicate_zero, List.cons_append, List.nil_append, Nat.add_sub_cancel, Nat.sub_self, Nat.zero_add, Nat.reduceAdd, Nat.reduceSub, List.set_cons_zero, List.set_cons_succ, List.getElem?_cons_zero, List.getElem?_cons_succ, List.append_nil, if_true, if_false, Bool.false_eq_true, reduceIte, Bool.not_true, Bool.not_false, len_tup, len_lst, len_dct, int_int, int_bl, abs_int, tuple_lst, tuple_tup, list_lst, list_tup, sum_lst, sum_tup, all_bls, any_bls, ceq_int, cne_int, ceq_str, clt_int, cle_int, cgt_int, cge_int, List.length_map, if_pos (mem_lim (show l.length ≤ 16777216 by omega))]
  unfold rowOf rowT
  rw [List.map_map]
  rfl
theorem lrow_t [Has FR T ("_law_row" : Str) f__law_row] {l a b : List Str} (h : l.length ≤ 1000) : trun FR G T fuel (d + 1) "_law_row" [strsT l, pairT a b] g = some (rowT (rowOf l a b), g) := by
  rw [trun_eq (f := "_law_row") (by rfl)]
  unfold f__law_row
  simp only [h_bin, h_bin1, h_bin2, h_cmp, h_cmp1, h_cmp2, h_neg, h_neg1, h_nt, h_nt1, h_nt2, h_and, h_and1, h_andt, h_andf, h_or, h_or1, h_ort, h_orf, h_isn, h_isn1, h_isn2, h_ch, h_ch1, h_ch2, h_ch3, h_ch4, h_ite, h_ite1, h_itet, h_itef, h_tup, h_tup1, h_lst, h_lst1, h_idx, h_idx1, h_idx2, h_sl, h_sl1, h_sl2, h_sl3, h_call, h_call1, h_bi, h_bi1, h_me, h_me1, h_me2, h_me3, h_me4, h_lc, h_lc1, h_tn, h_tn1, h_tn2, h_tn3, h_tn4, h_nil, h_cons, h_cons1, h_cons2, h_star, h_star1, h_star2, h_star3, h_o0, h_o1, h_o2, h_c0, h_c1, h_c2, h_seq, h_seq1, h_seq2, h_seq3, h_r1, h_r11, h_r2, h_r21, h_r22, h_zip, h_zip1, h_zip2, h_zip3, h_enum, h_enum1, h_var, h_var1, h_int, h_str, h_bl, h_non, h_glo, h_done, h_then, h_then1, h_then2, h_asg, h_asg1, h_asg2, h_asg3, h_asg4, h_augN, h_augN1, h_augN2, h_augN3, h_mu_append, h_mu_clear, h_mu_extend, h_mu_insert, h_mu1, h_mu2, h_mu3, h_ex1, h_ret, h_ret1, h_if, h_if1, h_ift, h_iff, h_for, h_for1, h_body, h_body1, h_cond, h_whl, h_pass, h_fn1, h_fn2, b_nm, b_tp, b_all0, b_all, w_0, w_1, tt_non, tt_bl, tt_int, tt_tup, tt_lst, tt_dct, o_add, o_adds, o_addt, o_addl, o_sub, o_mul, o_mull, o_mult, o_fdiv, o_mod, o_pow, i_tup, i_lst, i_str, i_dct, i_dci, sl_tup, sl_lst', sl_str, mu_app, mu_clr, mu_ext, mu_ins, isN_non, notN_non, tb_some, tof_some, Option.map_some, Option.map_none, List.map_cons, List.map_nil, List.length_cons, List.length_nil, List.replicate_succ, List.replicate_zero, List.cons_append, List.nil_append, Nat.add_sub_cancel, Nat.sub_self, Nat.zero_add, Nat.reduceAdd, Nat.reduceSub, List.set_cons_zero, List.set_cons_succ, List.getElem?_cons_zero, List.getElem?_cons_succ, List.append_nil, if_true, if_false, Bool.false_eq_true, reduceIte, Bool.not_true, Bool.not_false, len_tup, len_lst, len_dct, int_int, int_bl, abs_int, tuple_lst, tuple_tup, list_lst, list_tup, sum_lst, sum_tup, all_bls, any_bls, ceq_int, cne_int, ceq_str, clt_int, cle_int, cgt_int, cge_int, List.length_map]
  rw [turns_each Tr.str (fun x => .int (((a.count x : Nat) : Int) - ((b.count x : Nat) : Int))) l (fun x _ g => by
    simp only [h_bin, h_bin1, h_bin2, h_cmp, h_cmp1, h_cmp2, h_neg, h_neg1, h_nt, h_nt1, h_nt2, h_and, h_and1, h_andt, h_andf, h_or, h_or1, h_ort, h_orf, h_isn, h_isn1, h_isn2, h_ch, h_ch1, h_ch2, h_ch3, h_ch4, h_ite, h_ite1, h_itet, h_itef, h_tup, h_tup1, h_lst, h_lst1, h_idx, h_idx1, h_idx2, h_sl, h_sl1, h_sl2, h_sl3, h_call, h_call1, h_bi, h_bi1, h_me, h_me1, h_me2, h_me3, h_me4, h_lc, h_lc1, h_tn, h_tn1, h_tn2, h_tn3, h_tn4, h_nil, h_cons, h_cons1, h_cons2, h_star, h_star1, h_star2, h_star3, h_o0, h_o1, h_o2, h_c0, h_c1, h_c2, h_seq, h_seq1, h_seq2, h_seq3, h_r1, h_r11, h_r2, h_r21, h_r22, h_zip, h_zip1, h_zip2, h_zip3, h_enum, h_enum1, h_var, h_var1, h_int, h_str, h_bl, h_non, h_glo, h_done, h_then, h_then1, h_then2, h_asg, h_asg1, h_asg2, h_asg3, h_asg4, h_augN, h_augN1, h_augN2, h_augN3, h_mu_append, h_mu_clear, h_mu_extend, h_mu_insert, h_mu1, h_mu2, h_mu3, h_ex1, h_ret, h_ret1, h_if, h_if1, h_ift, h_iff, h_for, h_for1, h_body, h_body1, h_cond, h_whl, h_pass, h_fn1, h_fn2, b_nm, b_tp, b_all0, b_all, w_0, w_1, tt_non, tt_bl, tt_int, tt_tup, tt_lst, tt_dct, o_add, o_adds, o_addt, o_addl, o_sub, o_mul, o_mull, o_mult, o_fdiv, o_mod, o_pow, i_tup, i_lst, i_str, i_dct, i_dci, sl_tup, sl_lst', sl_str, mu_app, mu_clr, mu_ext, mu_ins, isN_non, notN_non, tb_some, tof_some, Option.map_some, Option.map_none, List.map_cons, List.map_nil, List.length_cons, List.length_nil, List.replicate_succ, List.replicate_zero, List.cons_append, List.nil_append, Nat.add_sub_cancel, Nat.sub_self, Nat.zero_add, Nat.reduceAdd, Nat.reduceSub, List.set_cons_zero, List.set_cons_succ, List.getElem?_cons_zero, List.getElem?_cons_succ, List.append_nil, if_true, if_false, Bool.false_eq_true, reduceIte, Bool.not_true, Bool.not_false, len_tup, len_lst, len_dct, int_int, int_bl, abs_int, tuple_lst, tuple_tup, list_lst, list_tup, sum_lst, sum_tup, all_bls, any_bls, ceq_int, cne_int, ceq_str, clt_int, cle_int, cgt_int, cge_int, List.length_map, show pick [strsT a, strsT b] 0 = some (strsT a) from rfl, show pick [strsT a, strsT b] 1 = some (strsT b) from rfl, count_t])]
  simp only [h_bin, h_bin1, h_bin2, h_cmp, h_cmp1, h_cmp2, h_neg, h_neg1, h_nt, h_nt1, h_nt2, h_and, h_and1, h_andt, h_andf, h_or, h_or1, h_ort, h_orf, h_isn, h_isn1, h_isn2, h_ch, h_ch1, h_ch2, h_ch3, h_ch4, h_ite, h_ite1, h_itet, h_itef, h_tup, h_tup1, h_lst, h_lst1, h_idx, h_idx1, h_idx2, h_sl, h_sl1, h_sl2, h_sl3, h_call, h_call1, h_bi, h_bi1, h_me, h_me1, h_me2, h_me3, h_me4, h_lc, h_lc1, h_tn, h_tn1, h_tn2, h_tn3, h_tn4, h_nil, h_cons, h_cons1, h_cons2, h_star, h_star1, h_star2, h_star3, h_o0, h_o1, h_o2, h_c0, h_c1, h_c2, h_seq, h_seq1, h_seq2, h_seq3, h_r1, h_r11, h_r2, h_r21, h_r22, h_zip, h_zip1, h_zip2, h_zip3, h_enum, h_enum1, h_var, h_var1, h_int, h_str, h_bl, h_non, h_glo, h_done, h_then, h_then1, h_then2, h_asg, h_asg1, h_asg2, h_asg3, h_asg4, h_augN, h_augN1, h_augN2, h_augN3, h_mu_append, h_mu_clear, h_mu_extend, h_mu_insert, h_mu1, h_mu2, h_mu3, h_ex1, h_ret, h_ret1, h_if, h_if1, h_ift, h_iff, h_for, h_for1, h_body, h_body1, h_cond, h_whl, h_pass, h_fn1, h_fn2, b_nm, b_tp, b_all0, b_all, w_0, w_1, tt_non, tt_bl, tt_int, tt_tup, tt_lst, tt_dct, o_add, o_adds, o_addt, o_addl, o_sub, o_mul, o_mull, o_mult, o_fdiv, o_mod, o_pow, i_tup, i_lst, i_str, i_dct, i_dci, sl_tup, sl_lst', sl_str, mu_app, mu_clr, mu_ext, mu_ins, isN_non, notN_non, tb_some, tof_some, Option.map_some, Option.map_none, List.map_cons, List.map_nil, List.length_cons, List.length_nil, List.replicate_succ, List.replicate_zero, List.cons_append, List.nil_append, Nat.add_sub_cancel, Nat.sub_self, Nat.zero_add, Nat.reduceAdd, Nat.reduceSub, List.set_cons_zero, List.set_cons_succ, List.getElem?_cons_zero, List.getElem?_cons_succ, List.append_nil, if_true, if_false, Bool.false_eq_true, reduceIte, Bool.not_true, Bool.not_false, len_tup, len_lst, len_dct, int_int, int_bl, abs_int, tuple_lst, tuple_tup, list_lst, list_tup, sum_lst, sum_tup, all_bls, any_bls, ceq_int, cne_int, ceq_str, clt_int, cle_int, cgt_int, cge_int, List.length_map, if_pos (mem_lim (show l.length ≤ 16777216 by omega))]
  unfold rowOf rowT
  rw [List.map_map]
  rfl
theorem added_t [Has FR T ("added" : Str) f_added] {xs ys : List Int} (h : xs.length ≤ 1000) : trun FR G T fuel (d + 1) "added" [rowT xs, rowT ys] g = some (rowT (vAdd xs ys), g) := by
  rw [trun_eq (f := "added") (by rfl)]
  unfold f_added
  simp only [h_bin, h_bin1, h_bin2, h_cmp, h_cmp1, h_cmp2, h_neg, h_neg1, h_nt, h_nt1, h_nt2, h_and, h_and1, h_andt, h_andf, h_or, h_or1, h_ort, h_orf, h_isn, h_isn1, h_isn2, h_ch, h_ch1, h_ch2, h_ch3, h_ch4, h_ite, h_ite1, h_itet, h_itef, h_tup, h_tup1, h_lst, h_lst1, h_idx, h_idx1, h_idx2, h_sl, h_sl1, h_sl2, h_sl3, h_call, h_call1, h_bi, h_bi1, h_me, h_me1, h_me2, h_me3, h_me4, h_lc, h_lc1, h_tn, h_tn1, h_tn2, h_tn3, h_tn4, h_nil, h_cons, h_cons1, h_cons2, h_star, h_star1, h_star2, h_star3, h_o0, h_o1, h_o2, h_c0, h_c1, h_c2, h_seq, h_seq1, h_seq2, h_seq3, h_r1, h_r11, h_r2, h_r21, h_r22, h_zip, h_zip1, h_zip2, h_zip3, h_enum, h_enum1, h_var, h_var1, h_int, h_str, h_bl, h_non, h_glo, h_done, h_then, h_then1, h_then2, h_asg, h_asg1, h_asg2, h_asg3, h_asg4, h_augN, h_augN1, h_augN2, h_augN3, h_mu_append, h_mu_clear, h_mu_extend, h_mu_insert, h_mu1, h_mu2, h_mu3, h_ex1, h_ret, h_ret1, h_if, h_if1, h_ift, h_iff, h_for, h_for1, h_body, h_body1, h_cond, h_whl, h_pass, h_fn1, h_fn2, b_nm, b_tp, b_all0, b_all, w_0, w_1, tt_non, tt_bl, tt_int, tt_tup, tt_lst, tt_dct, o_add, o_adds, o_addt, o_addl, o_sub, o_mul, o_mull, o_mult, o_fdiv, o_mod, o_pow, i_tup, i_lst, i_str, i_dct, i_dci, sl_tup, sl_lst', sl_str, mu_app, mu_clr, mu_ext, mu_ins, isN_non, notN_non, tb_some, tof_some, Option.map_some, Option.map_none, List.map_cons, List.map_nil, List.length_cons, List.length_nil, List.replicate_succ, List.replicate_zero, List.cons_append, List.nil_append, Nat.add_sub_cancel, Nat.sub_self, Nat.zero_add, Nat.reduceAdd, Nat.reduceSub, List.set_cons_zero, List.set_cons_succ, List.getElem?_cons_zero, List.getElem?_cons_succ, List.append_nil, if_true, if_false, Bool.false_eq_true, reduceIte, Bool.not_true, Bool.not_false, len_tup, len_lst, len_dct, int_int, int_bl, abs_int, tuple_lst, tuple_tup, list_lst, list_tup, sum_lst, sum_tup, all_bls, any_bls, ceq_int, cne_int, ceq_str, clt_int, cle_int, cgt_int, cge_int, List.length_map, tpairs_map]
  rw [turns_each (fun p : Int × Int => Tr.tup [.int p.1, .int p.2]) (fun p => .int (p.1 + p.2)) (xs.zip ys) (fun p _ g => by simp only [h_bin, h_bin1, h_bin2, h_cmp, h_cmp1, h_cmp2, h_neg, h_neg1, h_nt, h_nt1, h_nt2, h_and, h_and1, h_andt, h_andf, h_or, h_or1, h_ort, h_orf, h_isn, h_isn1, h_isn2, h_ch, h_ch1, h_ch2, h_ch3, h_ch4, h_ite, h_ite1, h_itet, h_itef, h_tup, h_tup1, h_lst, h_lst1, h_idx, h_idx1, h_idx2, h_sl, h_sl1, h_sl2, h_sl3, h_call, h_call1, h_bi, h_bi1, h_me, h_me1, h_me2, h_me3, h_me4, h_lc, h_lc1, h_tn, h_tn1, h_tn2, h_tn3, h_tn4, h_nil, h_cons, h_cons1, h_cons2, h_star, h_star1, h_star2, h_star3, h_o0, h_o1, h_o2, h_c0, h_c1, h_c2, h_seq, h_seq1, h_seq2, h_seq3, h_r1, h_r11, h_r2, h_r21, h_r22, h_zip, h_zip1, h_zip2, h_zip3, h_enum, h_enum1, h_var, h_var1, h_int, h_str, h_bl, h_non, h_glo, h_done, h_then, h_then1, h_then2, h_asg, h_asg1, h_asg2, h_asg3, h_asg4, h_augN, h_augN1, h_augN2, h_augN3, h_mu_append, h_mu_clear, h_mu_extend, h_mu_insert, h_mu1, h_mu2, h_mu3, h_ex1, h_ret, h_ret1, h_if, h_if1, h_ift, h_iff, h_for, h_for1, h_body, h_body1, h_cond, h_whl, h_pass, h_fn1, h_fn2, b_nm, b_tp, b_all0, b_all, w_0, w_1, tt_non, tt_bl, tt_int, tt_tup, tt_lst, tt_dct, o_add, o_adds, o_addt, o_addl, o_sub, o_mul, o_mull, o_mult, o_fdiv, o_mod, o_pow, i_tup, i_lst, i_str, i_dct, i_dci, sl_tup, sl_lst', sl_str, mu_app, mu_clr, mu_ext, mu_ins, isN_non, notN_non, tb_some, tof_some, Option.map_some, Option.map_none, List.map_cons, List.map_nil, List.length_cons, List.length_nil, List.replicate_succ, List.replicate_zero, List.cons_append, List.nil_append, Nat.add_sub_cancel, Nat.sub_self, Nat.zero_add, Nat.reduceAdd, Nat.reduceSub, List.set_cons_zero, List.set_cons_succ, List.getElem?_cons_zero, List.getElem?_cons_succ, List.append_nil, if_true, if_false, Bool.false_eq_true, reduceIte, Bool.not_true, Bool.not_false, len_tup, len_lst, len_dct, int_int, int_bl, abs_int, tuple_lst, tuple_tup, list_lst, list_tup, sum_lst, sum_tup, all_bls, any_bls, ceq_int, cne_int, ceq_str, clt_int, cle_int, cgt_int, cge_int, List.length_map])]
  simp only [h_bin, h_bin1, h_bin2, h_cmp, h_cmp1, h_cmp2, h_neg, h_neg1, h_nt, h_nt1, h_nt2, h_and, h_and1, h_andt, h_andf, h_or, h_or1, h_ort, h_orf, h_isn, h_isn1, h_isn2, h_ch, h_ch1, h_ch2, h_ch3, h_ch4, h_ite, h_ite1, h_itet, h_itef, h_tup, h_tup1, h_lst, h_lst1, h_idx, h_idx1, h_idx2, h_sl, h_sl1, h_sl2, h_sl3, h_call, h_call1, h_bi, h_bi1, h_me, h_me1, h_me2, h_me3, h_me4, h_lc, h_lc1, h_tn, h_tn1, h_tn2, h_tn3, h_tn4, h_nil, h_cons, h_cons1, h_cons2, h_star, h_star1, h_star2, h_star3, h_o0, h_o1, h_o2, h_c0, h_c1, h_c2, h_seq, h_seq1, h_seq2, h_seq3, h_r1, h_r11, h_r2, h_r21, h_r22, h_zip, h_zip1, h_zip2, h_zip3, h_enum, h_enum1, h_var, h_var1, h_int, h_str, h_bl, h_non, h_glo, h_done, h_then, h_then1, h_then2, h_asg, h_asg1, h_asg2, h_asg3, h_asg4, h_augN, h_augN1, h_augN2, h_augN3, h_mu_append, h_mu_clear, h_mu_extend, h_mu_insert, h_mu1, h_mu2, h_mu3, h_ex1, h_ret, h_ret1, h_if, h_if1, h_ift, h_iff, h_for, h_for1, h_body, h_body1, h_cond, h_whl, h_pass, h_fn1, h_fn2, b_nm, b_tp, b_all0, b_all, w_0, w_1, tt_non, tt_bl, tt_int, tt_tup, tt_lst, tt_dct, o_add, o_adds, o_addt, o_addl, o_sub, o_mul, o_mull, o_mult, o_fdiv, o_mod, o_pow, i_tup, i_lst, i_str, i_dct, i_dci, sl_tup, sl_lst', sl_str, mu_app, mu_clr, mu_ext, mu_ins, isN_non, notN_non, tb_some, tof_some, Option.map_some, Option.map_none, List.map_cons, List.map_nil, List.length_cons, List.length_nil, List.replicate_succ, List.replicate_zero, List.cons_append, List.nil_append, Nat.add_sub_cancel, Nat.sub_self, Nat.zero_add, Nat.reduceAdd, Nat.reduceSub, List.set_cons_zero, List.set_cons_succ, List.getElem?_cons_zero, List.getElem?_cons_succ, List.append_nil, if_true, if_false, Bool.false_eq_true, reduceIte, Bool.not_true, Bool.not_false, len_tup, len_lst, len_dct, int_int, int_bl, abs_int, tuple_lst, tuple_tup, list_lst, list_tup, sum_lst, sum_tup, all_bls, any_bls, ceq_int, cne_int, ceq_str, clt_int, cle_int, cgt_int, cge_int, List.length_map, List.length_zip, if_pos (mem_lim (show min xs.length ys.length ≤ 16777216 by omega))]
  unfold vAdd rowT
  rw [List.map_map]
  rfl
theorem taken_t [Has FR T ("taken" : Str) f_taken] {xs ys : List Int} (h : xs.length ≤ 1000) : trun FR G T fuel (d + 1) "taken" [rowT xs, rowT ys] g = some (rowT (vSub xs ys), g) := by
  rw [trun_eq (f := "taken") (by rfl)]
  unfold f_taken
  simp only [h_bin, h_bin1, h_bin2, h_cmp, h_cmp1, h_cmp2, h_neg, h_neg1, h_nt, h_nt1, h_nt2, h_and, h_and1, h_andt, h_andf, h_or, h_or1, h_ort, h_orf, h_isn, h_isn1, h_isn2, h_ch, h_ch1, h_ch2, h_ch3, h_ch4, h_ite, h_ite1, h_itet, h_itef, h_tup, h_tup1, h_lst, h_lst1, h_idx, h_idx1, h_idx2, h_sl, h_sl1, h_sl2, h_sl3, h_call, h_call1, h_bi, h_bi1, h_me, h_me1, h_me2, h_me3, h_me4, h_lc, h_lc1, h_tn, h_tn1, h_tn2, h_tn3, h_tn4, h_nil, h_cons, h_cons1, h_cons2, h_star, h_star1, h_star2, h_star3, h_o0, h_o1, h_o2, h_c0, h_c1, h_c2, h_seq, h_seq1, h_seq2, h_seq3, h_r1, h_r11, h_r2, h_r21, h_r22, h_zip, h_zip1, h_zip2, h_zip3, h_enum, h_enum1, h_var, h_var1, h_int, h_str, h_bl, h_non, h_glo, h_done, h_then, h_then1, h_then2, h_asg, h_asg1, h_asg2, h_asg3, h_asg4, h_augN, h_augN1, h_augN2, h_augN3, h_mu_append, h_mu_clear, h_mu_extend, h_mu_insert, h_mu1, h_mu2, h_mu3, h_ex1, h_ret, h_ret1, h_if, h_if1, h_ift, h_iff, h_for, h_for1, h_body, h_body1, h_cond, h_whl, h_pass, h_fn1, h_fn2, b_nm, b_tp, b_all0, b_all, w_0, w_1, tt_non, tt_bl, tt_int, tt_tup, tt_lst, tt_dct, o_add, o_adds, o_addt, o_addl, o_sub, o_mul, o_mull, o_mult, o_fdiv, o_mod, o_pow, i_tup, i_lst, i_str, i_dct, i_dci, sl_tup, sl_lst', sl_str, mu_app, mu_clr, mu_ext, mu_ins, isN_non, notN_non, tb_some, tof_some, Option.map_some, Option.map_none, List.map_cons, List.map_nil, List.length_cons, List.length_nil, List.replicate_succ, List.replicate_zero, List.cons_append, List.nil_append, Nat.add_sub_cancel, Nat.sub_self, Nat.zero_add, Nat.reduceAdd, Nat.reduceSub, List.set_cons_zero, List.set_cons_succ, List.getElem?_cons_zero, List.getElem?_cons_succ, List.append_nil, if_true, if_false, Bool.false_eq_true, reduceIte, Bool.not_true, Bool.not_false, len_tup, len_lst, len_dct, int_int, int_bl, abs_int, tuple_lst, tuple_tup, list_lst, list_tup, sum_lst, sum_tup, all_bls, any_bls, ceq_int, cne_int, ceq_str, clt_int, cle_int, cgt_int, cge_int, List.length_map, tpairs_map]
  rw [turns_each (fun p : Int × Int => Tr.tup [.int p.1, .int p.2]) (fun p => .int (p.1 - p.2)) (xs.zip ys) (fun p _ g => by simp only [h_bin, h_bin1, h_bin2, h_cmp, h_cmp1, h_cmp2, h_neg, h_neg1, h_nt, h_nt1, h_nt2, h_and, h_and1, h_andt, h_andf, h_or, h_or1, h_ort, h_orf, h_isn, h_isn1, h_isn2, h_ch, h_ch1, h_ch2, h_ch3, h_ch4, h_ite, h_ite1, h_itet, h_itef, h_tup, h_tup1, h_lst, h_lst1, h_idx, h_idx1, h_idx2, h_sl, h_sl1, h_sl2, h_sl3, h_call, h_call1, h_bi, h_bi1, h_me, h_me1, h_me2, h_me3, h_me4, h_lc, h_lc1, h_tn, h_tn1, h_tn2, h_tn3, h_tn4, h_nil, h_cons, h_cons1, h_cons2, h_star, h_star1, h_star2, h_star3, h_o0, h_o1, h_o2, h_c0, h_c1, h_c2, h_seq, h_seq1, h_seq2, h_seq3, h_r1, h_r11, h_r2, h_r21, h_r22, h_zip, h_zip1, h_zip2, h_zip3, h_enum, h_enum1, h_var, h_var1, h_int, h_str, h_bl, h_non, h_glo, h_done, h_then, h_then1, h_then2, h_asg, h_asg1, h_asg2, h_asg3, h_asg4, h_augN, h_augN1, h_augN2, h_augN3, h_mu_append, h_mu_clear, h_mu_extend, h_mu_insert, h_mu1, h_mu2, h_mu3, h_ex1, h_ret, h_ret1, h_if, h_if1, h_ift, h_iff, h_for, h_for1, h_body, h_body1, h_cond, h_whl, h_pass, h_fn1, h_fn2, b_nm, b_tp, b_all0, b_all, w_0, w_1, tt_non, tt_bl, tt_int, tt_tup, tt_lst, tt_dct, o_add, o_adds, o_addt, o_addl, o_sub, o_mul, o_mull, o_mult, o_fdiv, o_mod, o_pow, i_tup, i_lst, i_str, i_dct, i_dci, sl_tup, sl_lst', sl_str, mu_app, mu_clr, mu_ext, mu_ins, isN_non, notN_non, tb_some, tof_some, Option.map_some, Option.map_none, List.map_cons, List.map_nil, List.length_cons, List.length_nil, List.replicate_succ, List.replicate_zero, List.cons_append, List.nil_append, Nat.add_sub_cancel, Nat.sub_self, Nat.zero_add, Nat.reduceAdd, Nat.reduceSub, List.set_cons_zero, List.set_cons_succ, List.getElem?_cons_zero, List.getElem?_cons_succ, List.append_nil, if_true, if_false, Bool.false_eq_true, reduceIte, Bool.not_true, Bool.not_false, len_tup, len_lst, len_dct, int_int, int_bl, abs_int, tuple_lst, tuple_tup, list_lst, list_tup, sum_lst, sum_tup, all_bls, any_bls, ceq_int, cne_int, ceq_str, clt_int, cle_int, cgt_int, cge_int, List.length_map])]
  simp only [h_bin, h_bin1, h_bin2, h_cmp, h_cmp1, h_cmp2, h_neg, h_neg1, h_nt, h_nt1, h_nt2, h_and, h_and1, h_andt, h_andf, h_or, h_or1, h_ort, h_orf, h_isn, h_isn1, h_isn2, h_ch, h_ch1, h_ch2, h_ch3, h_ch4, h_ite, h_ite1, h_itet, h_itef, h_tup, h_tup1, h_lst, h_lst1, h_idx, h_idx1, h_idx2, h_sl, h_sl1, h_sl2, h_sl3, h_call, h_call1, h_bi, h_bi1, h_me, h_me1, h_me2, h_me3, h_me4, h_lc, h_lc1, h_tn, h_tn1, h_tn2, h_tn3, h_tn4, h_nil, h_cons, h_cons1, h_cons2, h_star, h_star1, h_star2, h_star3, h_o0, h_o1, h_o2, h_c0, h_c1, h_c2, h_seq, h_seq1, h_seq2, h_seq3, h_r1, h_r11, h_r2, h_r21, h_r22, h_zip, h_zip1, h_zip2, h_zip3, h_enum, h_enum1, h_var, h_var1, h_int, h_str, h_bl, h_non, h_glo, h_done, h_then, h_then1, h_then2, h_asg, h_asg1, h_asg2, h_asg3, h_asg4, h_augN, h_augN1, h_augN2, h_augN3, h_mu_append, h_mu_clear, h_mu_extend, h_mu_insert, h_mu1, h_mu2, h_mu3, h_ex1, h_ret, h_ret1, h_if, h_if1, h_ift, h_iff, h_for, h_for1, h_body, h_body1, h_cond, h_whl, h_pass, h_fn1, h_fn2, b_nm, b_tp, b_all0, b_all, w_0, w_1, tt_non, tt_bl, tt_int, tt_tup, tt_lst, tt_dct, o_add, o_adds, o_addt, o_addl, o_sub, o_mul, o_mull, o_mult, o_fdiv, o_mod, o_pow, i_tup, i_lst, i_str, i_dct, i_dci, sl_tup, sl_lst', sl_str, mu_app, mu_clr, mu_ext, mu_ins, isN_non, notN_non, tb_some, tof_some, Option.map_some, Option.map_none, List.map_cons, List.map_nil, List.length_cons, List.length_nil, List.replicate_succ, List.replicate_zero, List.cons_append, List.nil_append, Nat.add_sub_cancel, Nat.sub_self, Nat.zero_add, Nat.reduceAdd, Nat.reduceSub, List.set_cons_zero, List.set_cons_succ, List.getElem?_cons_zero, List.getElem?_cons_succ, List.append_nil, if_true, if_false, Bool.false_eq_true, reduceIte, Bool.not_true, Bool.not_false, len_tup, len_lst, len_dct, int_int, int_bl, abs_int, tuple_lst, tuple_tup, list_lst, list_tup, sum_lst, sum_tup, all_bls, any_bls, ceq_int, cne_int, ceq_str, clt_int, cle_int, cgt_int, cge_int, List.length_map, List.length_zip, if_pos (mem_lim (show min xs.length ys.length ≤ 16777216 by omega))]
  unfold vSub rowT
  rw [List.map_map]
  rfl
theorem times_t [Has FR T ("times" : Str) f_times] {xs : List Int} {n : Int} (h : xs.length ≤ 1000) (hm : ∀ x ∈ xs, mulOk n x = true) : trun FR G T fuel (d + 1) "times" [rowT xs, .int n] g = some (rowT (vMul n xs), g) := by
  rw [trun_eq (f := "times") (by rfl)]
  unfold f_times
  simp only [h_bin, h_bin1, h_bin2, h_cmp, h_cmp1, h_cmp2, h_neg, h_neg1, h_nt, h_nt1, h_nt2, h_and, h_and1, h_andt, h_andf, h_or, h_or1, h_ort, h_orf, h_isn, h_isn1, h_isn2, h_ch, h_ch1, h_ch2, h_ch3, h_ch4, h_ite, h_ite1, h_itet, h_itef, h_tup, h_tup1, h_lst, h_lst1, h_idx, h_idx1, h_idx2, h_sl, h_sl1, h_sl2, h_sl3, h_call, h_call1, h_bi, h_bi1, h_me, h_me1, h_me2, h_me3, h_me4, h_lc, h_lc1, h_tn, h_tn1, h_tn2, h_tn3, h_tn4, h_nil, h_cons, h_cons1, h_cons2, h_star, h_star1, h_star2, h_star3, h_o0, h_o1, h_o2, h_c0, h_c1, h_c2, h_seq, h_seq1, h_seq2, h_seq3, h_r1, h_r11, h_r2, h_r21, h_r22, h_zip, h_zip1, h_zip2, h_zip3, h_enum, h_enum1, h_var, h_var1, h_int, h_str, h_bl, h_non, h_glo, h_done, h_then, h_then1, h_then2, h_asg, h_asg1, h_asg2, h_asg3, h_asg4, h_augN, h_augN1, h_augN2, h_augN3, h_mu_append, h_mu_clear, h_mu_extend, h_mu_insert, h_mu1, h_mu2, h_mu3, h_ex1, h_ret, h_ret1, h_if, h_if1, h_ift, h_iff, h_for, h_for1, h_body, h_body1, h_cond, h_whl, h_pass, h_fn1, h_fn2, b_nm, b_tp, b_all0, b_all, w_0, w_1, tt_non, tt_bl, tt_int, tt_tup, tt_lst, tt_dct, o_add, o_adds, o_addt, o_addl, o_sub, o_mul, o_mull, o_mult, o_fdiv, o_mod, o_pow, i_tup, i_lst, i_str, i_dct, i_dci, sl_tup, sl_lst', sl_str, mu_app, mu_clr, mu_ext, mu_ins, isN_non, notN_non, tb_some, tof_some, Option.map_some, Option.map_none, List.map_cons, List.map_nil, List.length_cons, List.length_nil, List.replicate_succ, List.replicate_zero, List.cons_append, List.nil_append, Nat.add_sub_cancel, Nat.sub_self, Nat.zero_add, Nat.reduceAdd, Nat.reduceSub, List.set_cons_zero, List.set_cons_succ, List.getElem?_cons_zero, List.getElem?_cons_succ, List.append_nil, if_true, if_false, Bool.false_eq_true, reduceIte, Bool.not_true, Bool.not_false, len_tup, len_lst, len_dct, int_int, int_bl, abs_int, tuple_lst, tuple_tup, list_lst, list_tup, sum_lst, sum_tup, all_bls, any_bls, ceq_int, cne_int, ceq_str, clt_int, cle_int, cgt_int, cge_int, List.length_map]
  rw [turns_each Tr.int (fun x => .int (n * x)) xs (fun x hx g => by simp only [h_bin, h_bin1, h_bin2, h_cmp, h_cmp1, h_cmp2, h_neg, h_neg1, h_nt, h_nt1, h_nt2, h_and, h_and1, h_andt, h_andf, h_or, h_or1, h_ort, h_orf, h_isn, h_isn1, h_isn2, h_ch, h_ch1, h_ch2, h_ch3, h_ch4, h_ite, h_ite1, h_itet, h_itef, h_tup, h_tup1, h_lst, h_lst1, h_idx, h_idx1, h_idx2, h_sl, h_sl1, h_sl2, h_sl3, h_call, h_call1, h_bi, h_bi1, h_me, h_me1, h_me2, h_me3, h_me4, h_lc, h_lc1, h_tn, h_tn1, h_tn2, h_tn3, h_tn4, h_nil, h_cons, h_cons1, h_cons2, h_star, h_star1, h_star2, h_star3, h_o0, h_o1, h_o2, h_c0, h_c1, h_c2, h_seq, h_seq1, h_seq2, h_seq3, h_r1, h_r11, h_r2, h_r21, h_r22, h_zip, h_zip1, h_zip2, h_zip3, h_enum, h_enum1, h_var, h_var1, h_int, h_str, h_bl, h_non, h_glo, h_done, h_then, h_then1, h_then2, h_asg, h_asg1, h_asg2, h_asg3, h_asg4, h_augN, h_augN1, h_augN2, h_augN3, h_mu_append, h_mu_clear, h_mu_extend, h_mu_insert, h_mu1, h_mu2, h_mu3, h_ex1, h_ret, h_ret1, h_if, h_if1, h_ift, h_iff, h_for, h_for1, h_body, h_body1, h_cond, h_whl, h_pass, h_fn1, h_fn2, b_nm, b_tp, b_all0, b_all, w_0, w_1, tt_non, tt_bl, tt_int, tt_tup, tt_lst, tt_dct, o_add, o_adds, o_addt, o_addl, o_sub, o_mul, o_mull, o_mult, o_fdiv, o_mod, o_pow, i_tup, i_lst, i_str, i_dct, i_dci, sl_tup, sl_lst', sl_str, mu_app, mu_clr, mu_ext, mu_ins, isN_non, notN_non, tb_some, tof_some, Option.map_some, Option.map_none, List.map_cons, List.map_nil, List.length_cons, List.length_nil, List.replicate_succ, List.replicate_zero, List.cons_append, List.nil_append, Nat.add_sub_cancel, Nat.sub_self, Nat.zero_add, Nat.reduceAdd, Nat.reduceSub, List.set_cons_zero, List.set_cons_succ, List.getElem?_cons_zero, List.getElem?_cons_succ, List.append_nil, if_true, if_false, Bool.false_eq_true, reduceIte, Bool.not_true, Bool.not_false, len_tup, len_lst, len_dct, int_int, int_bl, abs_int, tuple_lst, tuple_tup, list_lst, list_tup, sum_lst, sum_tup, all_bls, any_bls, ceq_int, cne_int, ceq_str, clt_int, cle_int, cgt_int, cge_int, List.length_map, hm x hx])]
  simp only [h_bin, h_bin1, h_bin2, h_cmp, h_cmp1, h_cmp2, h_neg, h_neg1, h_nt, h_nt1, h_nt2, h_and, h_and1, h_andt, h_andf, h_or, h_or1, h_ort, h_orf, h_isn, h_isn1, h_isn2, h_ch, h_ch1, h_ch2, h_ch3, h_ch4, h_ite, h_ite1, h_itet, h_itef, h_tup, h_tup1, h_lst, h_lst1, h_idx, h_idx1, h_idx2, h_sl, h_sl1, h_sl2, h_sl3, h_call, h_call1, h_bi, h_bi1, h_me, h_me1, h_me2, h_me3, h_me4, h_lc, h_lc1, h_tn, h_tn1, h_tn2, h_tn3, h_tn4, h_nil, h_cons, h_cons1, h_cons2, h_star, h_star1, h_star2, h_star3, h_o0, h_o1, h_o2, h_c0, h_c1, h_c2, h_seq, h_seq1, h_seq2, h_seq3, h_r1, h_r11, h_r2, h_r21, h_r22, h_zip, h_zip1, h_zip2, h_zip3, h_enum, h_enum1, h_var, h_var1, h_int, h_str, h_bl, h_non, h_glo, h_done, h_then, h_then1, h_then2, h_asg, h_asg1, h_asg2, h_asg3, h_asg4, h_augN, h_augN1, h_augN2, h_augN3, h_mu_append, h_mu_clear, h_mu_extend, h_mu_insert, h_mu1, h_mu2, h_mu3, h_ex1, h_ret, h_ret1, h_if, h_if1, h_ift, h_iff, h_for, h_for1, h_body, h_body1, h_cond, h_whl, h_pass, h_fn1, h_fn2, b_nm, b_tp, b_all0, b_all, w_0, w_1, tt_non, tt_bl, tt_int, tt_tup, tt_lst, tt_dct, o_add, o_adds, o_addt, o_addl, o_sub, o_mul, o_mull, o_mult, o_fdiv, o_mod, o_pow, i_tup, i_lst, i_str, i_dct, i_dci, sl_tup, sl_lst', sl_str, mu_app, mu_clr, mu_ext, mu_ins, isN_non, notN_non, tb_some, tof_some, Option.map_some, Option.map_none, List.map_cons, List.map_nil, List.length_cons, List.length_nil, List.replicate_succ, List.replicate_zero, List.cons_append, List.nil_append, Nat.add_sub_cancel, Nat.sub_self, Nat.zero_add, Nat.reduceAdd, Nat.reduceSub, List.set_cons_zero, List.set_cons_succ, List.getElem?_cons_zero, List.getElem?_cons_succ, List.append_nil, if_true, if_false, Bool.false_eq_true, reduceIte, Bool.not_true, Bool.not_false, len_tup, len_lst, len_dct, int_int, int_bl, abs_int, tuple_lst, tuple_tup, list_lst, list_tup, sum_lst, sum_tup, all_bls, any_bls, ceq_int, cne_int, ceq_str, clt_int, cle_int, cgt_int, cge_int, List.length_map, if_pos (mem_lim (show xs.length ≤ 16777216 by omega))]
  unfold vMul rowT
  rw [List.map_map]
  rfl
theorem dot_t [Has FR T ("dot" : Str) f_dot] {xs ys : List Int} (h : xs.length ≤ 1000) (hm : ∀ p ∈ xs.zip ys, mulOk p.1 p.2 = true) : trun FR G T fuel (d + 1) "dot" [rowT xs, rowT ys] g = some (.int (vDot xs ys), g) := by
  rw [trun_eq (f := "dot") (by rfl)]
  unfold f_dot
  simp only [h_bin, h_bin1, h_bin2, h_cmp, h_cmp1, h_cmp2, h_neg, h_neg1, h_nt, h_nt1, h_nt2, h_and, h_and1, h_andt, h_andf, h_or, h_or1, h_ort, h_orf, h_isn, h_isn1, h_isn2, h_ch, h_ch1, h_ch2, h_ch3, h_ch4, h_ite, h_ite1, h_itet, h_itef, h_tup, h_tup1, h_lst, h_lst1, h_idx, h_idx1, h_idx2, h_sl, h_sl1, h_sl2, h_sl3, h_call, h_call1, h_bi, h_bi1, h_me, h_me1, h_me2, h_me3, h_me4, h_lc, h_lc1, h_tn, h_tn1, h_tn2, h_tn3, h_tn4, h_nil, h_cons, h_cons1, h_cons2, h_star, h_star1, h_star2, h_star3, h_o0, h_o1, h_o2, h_c0, h_c1, h_c2, h_seq, h_seq1, h_seq2, h_seq3, h_r1, h_r11, h_r2, h_r21, h_r22, h_zip, h_zip1, h_zip2, h_zip3, h_enum, h_enum1, h_var, h_var1, h_int, h_str, h_bl, h_non, h_glo, h_done, h_then, h_then1, h_then2, h_asg, h_asg1, h_asg2, h_asg3, h_asg4, h_augN, h_augN1, h_augN2, h_augN3, h_mu_append, h_mu_clear, h_mu_extend, h_mu_insert, h_mu1, h_mu2, h_mu3, h_ex1, h_ret, h_ret1, h_if, h_if1, h_ift, h_iff, h_for, h_for1, h_body, h_body1, h_cond, h_whl, h_pass, h_fn1, h_fn2, b_nm, b_tp, b_all0, b_all, w_0, w_1, tt_non, tt_bl, tt_int, tt_tup, tt_lst, tt_dct, o_add, o_adds, o_addt, o_addl, o_sub, o_mul, o_mull, o_mult, o_fdiv, o_mod, o_pow, i_tup, i_lst, i_str, i_dct, i_dci, sl_tup, sl_lst', sl_str, mu_app, mu_clr, mu_ext, mu_ins, isN_non, notN_non, tb_some, tof_some, Option.map_some, Option.map_none, List.map_cons, List.map_nil, List.length_cons, List.length_nil, List.replicate_succ, List.replicate_zero, List.cons_append, List.nil_append, Nat.add_sub_cancel, Nat.sub_self, Nat.zero_add, Nat.reduceAdd, Nat.reduceSub, List.set_cons_zero, List.set_cons_succ, List.getElem?_cons_zero, List.getElem?_cons_succ, List.append_nil, if_true, if_false, Bool.false_eq_true, reduceIte, Bool.not_true, Bool.not_false, len_tup, len_lst, len_dct, int_int, int_bl, abs_int, tuple_lst, tuple_tup, list_lst, list_tup, sum_lst, sum_tup, all_bls, any_bls, ceq_int, cne_int, ceq_str, clt_int, cle_int, cgt_int, cge_int, List.length_map, tpairs_map]
  rw [turns_each (fun p : Int × Int => Tr.tup [.int p.1, .int p.2]) (fun p => .int (p.1 * p.2)) (xs.zip ys) (fun p hp g => by simp only [h_bin, h_bin1, h_bin2, h_cmp, h_cmp1, h_cmp2, h_neg, h_neg1, h_nt, h_nt1, h_nt2, h_and, h_and1, h_andt, h_andf, h_or, h_or1, h_ort, h_orf, h_isn, h_isn1, h_isn2, h_ch, h_ch1, h_ch2, h_ch3, h_ch4, h_ite, h_ite1, h_itet, h_itef, h_tup, h_tup1, h_lst, h_lst1, h_idx, h_idx1, h_idx2, h_sl, h_sl1, h_sl2, h_sl3, h_call, h_call1, h_bi, h_bi1, h_me, h_me1, h_me2, h_me3, h_me4, h_lc, h_lc1, h_tn, h_tn1, h_tn2, h_tn3, h_tn4, h_nil, h_cons, h_cons1, h_cons2, h_star, h_star1, h_star2, h_star3, h_o0, h_o1, h_o2, h_c0, h_c1, h_c2, h_seq, h_seq1, h_seq2, h_seq3, h_r1, h_r11, h_r2, h_r21, h_r22, h_zip, h_zip1, h_zip2, h_zip3, h_enum, h_enum1, h_var, h_var1, h_int, h_str, h_bl, h_non, h_glo, h_done, h_then, h_then1, h_then2, h_asg, h_asg1, h_asg2, h_asg3, h_asg4, h_augN, h_augN1, h_augN2, h_augN3, h_mu_append, h_mu_clear, h_mu_extend, h_mu_insert, h_mu1, h_mu2, h_mu3, h_ex1, h_ret, h_ret1, h_if, h_if1, h_ift, h_iff, h_for, h_for1, h_body, h_body1, h_cond, h_whl, h_pass, h_fn1, h_fn2, b_nm, b_tp, b_all0, b_all, w_0, w_1, tt_non, tt_bl, tt_int, tt_tup, tt_lst, tt_dct, o_add, o_adds, o_addt, o_addl, o_sub, o_mul, o_mull, o_mult, o_fdiv, o_mod, o_pow, i_tup, i_lst, i_str, i_dct, i_dci, sl_tup, sl_lst', sl_str, mu_app, mu_clr, mu_ext, mu_ins, isN_non, notN_non, tb_some, tof_some, Option.map_some, Option.map_none, List.map_cons, List.map_nil, List.length_cons, List.length_nil, List.replicate_succ, List.replicate_zero, List.cons_append, List.nil_append, Nat.add_sub_cancel, Nat.sub_self, Nat.zero_add, Nat.reduceAdd, Nat.reduceSub, List.set_cons_zero, List.set_cons_succ, List.getElem?_cons_zero, List.getElem?_cons_succ, List.append_nil, if_true, if_false, Bool.false_eq_true, reduceIte, Bool.not_true, Bool.not_false, len_tup, len_lst, len_dct, int_int, int_bl, abs_int, tuple_lst, tuple_tup, list_lst, list_tup, sum_lst, sum_tup, all_bls, any_bls, ceq_int, cne_int, ceq_str, clt_int, cle_int, cgt_int, cge_int, List.length_map, hm p hp])]
  have e : ((xs.zip ys).map fun p : Int × Int => Tr.int (p.1 * p.2)) = ((xs.zip ys).map fun p : Int × Int => p.1 * p.2).map .int := by rw [List.map_map]; rfl
  rw [e]
  simp only [h_bin, h_bin1, h_bin2, h_cmp, h_cmp1, h_cmp2, h_neg, h_neg1, h_nt, h_nt1, h_nt2, h_and, h_and1, h_andt, h_andf, h_or, h_or1, h_ort, h_orf, h_isn, h_isn1, h_isn2, h_ch, h_ch1, h_ch2, h_ch3, h_ch4, h_ite, h_ite1, h_itet, h_itef, h_tup, h_tup1, h_lst, h_lst1, h_idx, h_idx1, h_idx2, h_sl, h_sl1, h_sl2, h_sl3, h_call, h_call1, h_bi, h_bi1, h_me, h_me1, h_me2, h_me3, h_me4, h_lc, h_lc1, h_tn, h_tn1, h_tn2, h_tn3, h_tn4, h_nil, h_cons, h_cons1, h_cons2, h_star, h_star1, h_star2, h_star3, h_o0, h_o1, h_o2, h_c0, h_c1, h_c2, h_seq, h_seq1, h_seq2, h_seq3, h_r1, h_r11, h_r2, h_r21, h_r22, h_zip, h_zip1, h_zip2, h_zip3, h_enum, h_enum1, h_var, h_var1, h_int, h_str, h_bl, h_non, h_glo, h_done, h_then, h_then1, h_then2, h_asg, h_asg1, h_asg2, h_asg3, h_asg4, h_augN, h_augN1, h_augN2, h_augN3, h_mu_append, h_mu_clear, h_mu_extend, h_mu_insert, h_mu1, h_mu2, h_mu3, h_ex1, h_ret, h_ret1, h_if, h_if1, h_ift, h_iff, h_for, h_for1, h_body, h_body1, h_cond, h_whl, h_pass, h_fn1, h_fn2, b_nm, b_tp, b_all0, b_all, w_0, w_1, tt_non, tt_bl, tt_int, tt_tup, tt_lst, tt_dct, o_add, o_adds, o_addt, o_addl, o_sub, o_mul, o_mull, o_mult, o_fdiv, o_mod, o_pow, i_tup, i_lst, i_str, i_dct, i_dci, sl_tup, sl_lst', sl_str, mu_app, mu_clr, mu_ext, mu_ins, isN_non, notN_non, tb_some, tof_some, Option.map_some, Option.map_none, List.map_cons, List.map_nil, List.length_cons, List.length_nil, List.replicate_succ, List.replicate_zero, List.cons_append, List.nil_append, Nat.add_sub_cancel, Nat.sub_self, Nat.zero_add, Nat.reduceAdd, Nat.reduceSub, List.set_cons_zero, List.set_cons_succ, List.getElem?_cons_zero, List.getElem?_cons_succ, List.append_nil, if_true, if_false, Bool.false_eq_true, reduceIte, Bool.not_true, Bool.not_false, len_tup, len_lst, len_dct, int_int, int_bl, abs_int, tuple_lst, tuple_tup, list_lst, list_tup, sum_lst, sum_tup, all_bls, any_bls, ceq_int, cne_int, ceq_str, clt_int, cle_int, cgt_int, cge_int, List.length_map, List.length_zip, if_pos (mem_lim (show min xs.length ys.length ≤ 16777216 by omega))]
  rfl
theorem balanced_t [Has FR T ("is_balanced" : Str) f_is_balanced] {xs : List Int} : trun FR G T fuel (d + 1) "is_balanced" [rowT xs] g = some (.bl (xs.sum == 0), g) := by
  rw [trun_eq (f := "is_balanced") (by rfl)]
  unfold f_is_balanced
  simp only [h_bin, h_bin1, h_bin2, h_cmp, h_cmp1, h_cmp2, h_neg, h_neg1, h_nt, h_nt1, h_nt2, h_and, h_and1, h_andt, h_andf, h_or, h_or1, h_ort, h_orf, h_isn, h_isn1, h_isn2, h_ch, h_ch1, h_ch2, h_ch3, h_ch4, h_ite, h_ite1, h_itet, h_itef, h_tup, h_tup1, h_lst, h_lst1, h_idx, h_idx1, h_idx2, h_sl, h_sl1, h_sl2, h_sl3, h_call, h_call1, h_bi, h_bi1, h_me, h_me1, h_me2, h_me3, h_me4, h_lc, h_lc1, h_tn, h_tn1, h_tn2, h_tn3, h_tn4, h_nil, h_cons, h_cons1, h_cons2, h_star, h_star1, h_star2, h_star3, h_o0, h_o1, h_o2, h_c0, h_c1, h_c2, h_seq, h_seq1, h_seq2, h_seq3, h_r1, h_r11, h_r2, h_r21, h_r22, h_zip, h_zip1, h_zip2, h_zip3, h_enum, h_enum1, h_var, h_var1, h_int, h_str, h_bl, h_non, h_glo, h_done, h_then, h_then1, h_then2, h_asg, h_asg1, h_asg2, h_asg3, h_asg4, h_augN, h_augN1, h_augN2, h_augN3, h_mu_append, h_mu_clear, h_mu_extend, h_mu_insert, h_mu1, h_mu2, h_mu3, h_ex1, h_ret, h_ret1, h_if, h_if1, h_ift, h_iff, h_for, h_for1, h_body, h_body1, h_cond, h_whl, h_pass, h_fn1, h_fn2, b_nm, b_tp, b_all0, b_all, w_0, w_1, tt_non, tt_bl, tt_int, tt_tup, tt_lst, tt_dct, o_add, o_adds, o_addt, o_addl, o_sub, o_mul, o_mull, o_mult, o_fdiv, o_mod, o_pow, i_tup, i_lst, i_str, i_dct, i_dci, sl_tup, sl_lst', sl_str, mu_app, mu_clr, mu_ext, mu_ins, isN_non, notN_non, tb_some, tof_some, Option.map_some, Option.map_none, List.map_cons, List.map_nil, List.length_cons, List.length_nil, List.replicate_succ, List.replicate_zero, List.cons_append, List.nil_append, Nat.add_sub_cancel, Nat.sub_self, Nat.zero_add, Nat.reduceAdd, Nat.reduceSub, List.set_cons_zero, List.set_cons_succ, List.getElem?_cons_zero, List.getElem?_cons_succ, List.append_nil, if_true, if_false, Bool.false_eq_true, reduceIte, Bool.not_true, Bool.not_false, len_tup, len_lst, len_dct, int_int, int_bl, abs_int, tuple_lst, tuple_tup, list_lst, list_tup, sum_lst, sum_tup, all_bls, any_bls, ceq_int, cne_int, ceq_str, clt_int, cle_int, cgt_int, cge_int, List.length_map]
theorem ldot_t [Has FR T ("_law_dot" : Str) f__law_dot] {xs ys : List Int} {n : Nat} (hx : xs.length = n) (hy : ys.length = n) (h : n ≤ 1000) (hm : ∀ p ∈ xs.zip ys, mulOk p.1 p.2 = true) : trun FR G T fuel (d + 1) "_law_dot" [rowT xs, rowT ys] g = some (.int (vDot xs ys), g) := by
  rw [trun_eq (f := "_law_dot") (by rfl)]
  unfold f__law_dot
  simp only [h_bin, h_bin1, h_bin2, h_cmp, h_cmp1, h_cmp2, h_neg, h_neg1, h_nt, h_nt1, h_nt2, h_and, h_and1, h_andt, h_andf, h_or, h_or1, h_ort, h_orf, h_isn, h_isn1, h_isn2, h_ch, h_ch1, h_ch2, h_ch3, h_ch4, h_ite, h_ite1, h_itet, h_itef, h_tup, h_tup1, h_lst, h_lst1, h_idx, h_idx1, h_idx2, h_sl, h_sl1, h_sl2, h_sl3, h_call, h_call1, h_bi, h_bi1, h_me, h_me1, h_me2, h_me3, h_me4, h_lc, h_lc1, h_tn, h_tn1, h_tn2, h_tn3, h_tn4, h_nil, h_cons, h_cons1, h_cons2, h_star, h_star1, h_star2, h_star3, h_o0, h_o1, h_o2, h_c0, h_c1, h_c2, h_seq, h_seq1, h_seq2, h_seq3, h_r1, h_r11, h_r2, h_r21, h_r22, h_zip, h_zip1, h_zip2, h_zip3, h_enum, h_enum1, h_var, h_var1, h_int, h_str, h_bl, h_non, h_glo, h_done, h_then, h_then1, h_then2, h_asg, h_asg1, h_asg2, h_asg3, h_asg4, h_augN, h_augN1, h_augN2, h_augN3, h_mu_append, h_mu_clear, h_mu_extend, h_mu_insert, h_mu1, h_mu2, h_mu3, h_ex1, h_ret, h_ret1, h_if, h_if1, h_ift, h_iff, h_for, h_for1, h_body, h_body1, h_cond, h_whl, h_pass, h_fn1, h_fn2, b_nm, b_tp, b_all0, b_all, w_0, w_1, tt_non, tt_bl, tt_int, tt_tup, tt_lst, tt_dct, o_add, o_adds, o_addt, o_addl, o_sub, o_mul, o_mull, o_mult, o_fdiv, o_mod, o_pow, i_tup, i_lst, i_str, i_dct, i_dci, sl_tup, sl_lst', sl_str, mu_app, mu_clr, mu_ext, mu_ins, isN_non, notN_non, tb_some, tof_some, Option.map_some, Option.map_none, List.map_cons, List.map_nil, List.length_cons, List.length_nil, List.replicate_succ, List.replicate_zero, List.cons_append, List.nil_append, Nat.add_sub_cancel, Nat.sub_self, Nat.zero_add, Nat.reduceAdd, Nat.reduceSub, List.set_cons_zero, List.set_cons_succ, List.getElem?_cons_zero, List.getElem?_cons_succ, List.append_nil, if_true, if_false, Bool.false_eq_true, reduceIte, Bool.not_true, Bool.not_false, len_tup, len_lst, len_dct, int_int, int_bl, abs_int, tuple_lst, tuple_tup, list_lst, list_tup, sum_lst, sum_tup, all_bls, any_bls, ceq_int, cne_int, ceq_str, clt_int, cle_int, cgt_int, cge_int, List.length_map, hx, trangeOf1 (show n < 2 ^ 62 by omega)]
  rw [turns_each (fun k : Nat => Tr.int k) (fun k : Nat => .int (xs.getD k 0 * ys.getD k 0)) (List.range n) (fun k hk g => by
    have hk := List.mem_range.mp hk
    have hm1 : mulOk (xs.getD k 0) (ys.getD k 0) = true := hm (xs.getD k 0, ys.getD k 0) (by
      have : (xs.getD k 0, ys.getD k 0) = (xs.zip ys)[k]'(by simp; omega) := by
        rw [List.getElem_zip, List.getD, List.getD, List.getElem?_eq_getElem (by omega), List.getElem?_eq_getElem (by omega)]
        rfl
      rw [this]
      exact List.getElem_mem _)
    simp only [h_bin, h_bin1, h_bin2, h_cmp, h_cmp1, h_cmp2, h_neg, h_neg1, h_nt, h_nt1, h_nt2, h_and, h_and1, h_andt, h_andf, h_or, h_or1, h_ort, h_orf, h_isn, h_isn1, h_isn2, h_ch, h_ch1, h_ch2, h_ch3, h_ch4, h_ite, h_ite1, h_itet, h_itef, h_tup, h_tup1, h_lst, h_lst1, h_idx, h_idx1, h_idx2, h_sl, h_sl1, h_sl2, h_sl3, h_call, h_call1, h_bi, h_bi1, h_me, h_me1, h_me2, h_me3, h_me4, h_lc, h_lc1, h_tn, h_tn1, h_tn2, h_tn3, h_tn4, h_nil, h_cons, h_cons1, h_cons2, h_star, h_star1, h_star2, h_star3, h_o0, h_o1, h_o2, h_c0, h_c1, h_c2, h_seq, h_seq1, h_seq2, h_seq3, h_r1, h_r11, h_r2, h_r21, h_r22, h_zip, h_zip1, h_zip2, h_zip3, h_enum, h_enum1, h_var, h_var1, h_int, h_str, h_bl, h_non, h_glo, h_done, h_then, h_then1, h_then2, h_asg, h_asg1, h_asg2, h_asg3, h_asg4, h_augN, h_augN1, h_augN2, h_augN3, h_mu_append, h_mu_clear, h_mu_extend, h_mu_insert, h_mu1, h_mu2, h_mu3, h_ex1, h_ret, h_ret1, h_if, h_if1, h_ift, h_iff, h_for, h_for1, h_body, h_body1, h_cond, h_whl, h_pass, h_fn1, h_fn2, b_nm, b_tp, b_all0, b_all, w_0, w_1, tt_non, tt_bl, tt_int, tt_tup, tt_lst, tt_dct, o_add, o_adds, o_addt, o_addl, o_sub, o_mul, o_mull, o_mult, o_fdiv, o_mod, o_pow, i_tup, i_lst, i_str, i_dct, i_dci, sl_tup, sl_lst', sl_str, mu_app, mu_clr, mu_ext, mu_ins, isN_non, notN_non, tb_some, tof_some, Option.map_some, Option.map_none, List.map_cons, List.map_nil, List.length_cons, List.length_nil, List.replicate_succ, List.replicate_zero, List.cons_append, List.nil_append, Nat.add_sub_cancel, Nat.sub_self, Nat.zero_add, Nat.reduceAdd, Nat.reduceSub, List.set_cons_zero, List.set_cons_succ, List.getElem?_cons_zero, List.getElem?_cons_succ, List.append_nil, if_true, if_false, Bool.false_eq_true, reduceIte, Bool.not_true, Bool.not_false, len_tup, len_lst, len_dct, int_int, int_bl, abs_int, tuple_lst, tuple_tup, list_lst, list_tup, sum_lst, sum_tup, all_bls, any_bls, ceq_int, cne_int, ceq_str, clt_int, cle_int, cgt_int, cge_int, List.length_map, pick_row (show k < xs.length by omega), pick_row (show k < ys.length by omega), hm1])]
  have e := range_zip (fun a b => Tr.int (a * b)) hx hy
  rw [e]
  have e : ((xs.zip ys).map fun p : Int × Int => Tr.int (p.1 * p.2)) = ((xs.zip ys).map fun p : Int × Int => p.1 * p.2).map .int := by rw [List.map_map]; rfl
  rw [e]
  simp only [h_bin, h_bin1, h_bin2, h_cmp, h_cmp1, h_cmp2, h_neg, h_neg1, h_nt, h_nt1, h_nt2, h_and, h_and1, h_andt, h_andf, h_or, h_or1, h_ort, h_orf, h_isn, h_isn1, h_isn2, h_ch, h_ch1, h_ch2, h_ch3, h_ch4, h_ite, h_ite1, h_itet, h_itef, h_tup, h_tup1, h_lst, h_lst1, h_idx, h_idx1, h_idx2, h_sl, h_sl1, h_sl2, h_sl3, h_call, h_call1, h_bi, h_bi1, h_me, h_me1, h_me2, h_me3, h_me4, h_lc, h_lc1, h_tn, h_tn1, h_tn2, h_tn3, h_tn4, h_nil, h_cons, h_cons1, h_cons2, h_star, h_star1, h_star2, h_star3, h_o0, h_o1, h_o2, h_c0, h_c1, h_c2, h_seq, h_seq1, h_seq2, h_seq3, h_r1, h_r11, h_r2, h_r21, h_r22, h_zip, h_zip1, h_zip2, h_zip3, h_enum, h_enum1, h_var, h_var1, h_int, h_str, h_bl, h_non, h_glo, h_done, h_then, h_then1, h_then2, h_asg, h_asg1, h_asg2, h_asg3, h_asg4, h_augN, h_augN1, h_augN2, h_augN3, h_mu_append, h_mu_clear, h_mu_extend, h_mu_insert, h_mu1, h_mu2, h_mu3, h_ex1, h_ret, h_ret1, h_if, h_if1, h_ift, h_iff, h_for, h_for1, h_body, h_body1, h_cond, h_whl, h_pass, h_fn1, h_fn2, b_nm, b_tp, b_all0, b_all, w_0, w_1, tt_non, tt_bl, tt_int, tt_tup, tt_lst, tt_dct, o_add, o_adds, o_addt, o_addl, o_sub, o_mul, o_mull, o_mult, o_fdiv, o_mod, o_pow, i_tup, i_lst, i_str, i_dct, i_dci, sl_tup, sl_lst', sl_str, mu_app, mu_clr, mu_ext, mu_ins, isN_non, notN_non, tb_some, tof_some, Option.map_some, Option.map_none, List.map_cons, List.map_nil, List.length_cons, List.length_nil, List.replicate_succ, List.replicate_zero, List.cons_append, List.nil_append, Nat.add_sub_cancel, Nat.sub_self, Nat.zero_add, Nat.reduceAdd, Nat.reduceSub, List.set_cons_zero, List.set_cons_succ, List.getElem?_cons_zero, List.getElem?_cons_succ, List.append_nil, if_true, if_false, Bool.false_eq_true, reduceIte, Bool.not_true, Bool.not_false, len_tup, len_lst, len_dct, int_int, int_bl, abs_int, tuple_lst, tuple_tup, list_lst, list_tup, sum_lst, sum_tup, all_bls, any_bls, ceq_int, cne_int, ceq_str, clt_int, cle_int, cgt_int, cge_int, List.length_map, List.length_zip, if_pos (mem_lim (show min xs.length ys.length ≤ 16777216 by omega))]
  rfl
theorem mixL_len {n : Nat} {ps : List (List Int × Int)} (h : ∀ p ∈ ps, p.1.length = n) : (mixL n ps).length = n := by
  unfold mixL
  have : ∀ (ps : List (List Int × Int)) (acc : List Int), (∀ p ∈ ps, p.1.length = n) → acc.length = n → (ps.foldl (fun acc p => vAdd acc (vMul p.2 p.1)) acc).length = n := fun ps => by
    induction ps with
    | nil => exact fun acc _ h => h
    | cons p ps ih =>
      intro acc hp ha
      rw [List.foldl_cons]
      refine ih _ (fun q hq => hp q (List.mem_cons_of_mem _ hq)) ?_
      rw [vAdd_len, vMul_len, ha, hp p List.mem_cons_self]
      omega
  exact this ps _ h (by simp)
theorem mixL_take {n i : Nat} {ps : List (List Int × Int)} {p : List Int × Int} (h : ps[i]? = some p) : mixL n (ps.take (i + 1)) = vAdd (mixL n (ps.take i)) (vMul p.2 p.1) := by
  obtain ⟨hl, e⟩ := List.getElem?_eq_some_iff.mp h
  rw [List.take_succ, h, Option.toList_some]
  unfold mixL
  rw [List.foldl_append]
  rfl
theorem mixture_t [Has FR T ("mixture" : Str) f_mixture] [Has FR T ("added" : Str) f_added] [Has FR T ("times" : Str) f_times] {rows : List (List Int)} {ns : List Int} {n : Nat} (hn : n ≤ 1000) (hr : ∀ r ∈ rows, r.length = n) (hm : ∀ p ∈ rows.zip ns, ∀ x ∈ p.1, mulOk p.2 x = true) :
    trun FR G T fuel (d + 2) "mixture" [.lst (rows.map rowT), .lst (ns.map .int), .int n] g = some (rowT (mixL n (rows.zip ns)), g) := by
  rw [trun_eq (f := "mixture") (by rfl)]
  unfold f_mixture
  have hrp : ∀ p ∈ rows.zip ns, p.1.length = n := fun p hp => hr _ (List.of_mem_zip hp).1
  simp only [h_bin, h_bin1, h_bin2, h_cmp, h_cmp1, h_cmp2, h_neg, h_neg1, h_nt, h_nt1, h_nt2, h_and, h_and1, h_andt, h_andf, h_or, h_or1, h_ort, h_orf, h_isn, h_isn1, h_isn2, h_ch, h_ch1, h_ch2, h_ch3, h_ch4, h_ite, h_ite1, h_itet, h_itef, h_tup, h_tup1, h_lst, h_lst1, h_idx, h_idx1, h_idx2, h_sl, h_sl1, h_sl2, h_sl3, h_call, h_call1, h_bi, h_bi1, h_me, h_me1, h_me2, h_me3, h_me4, h_lc, h_lc1, h_tn, h_tn1, h_tn2, h_tn3, h_tn4, h_nil, h_cons, h_cons1, h_cons2, h_star, h_star1, h_star2, h_star3, h_o0, h_o1, h_o2, h_c0, h_c1, h_c2, h_seq, h_seq1, h_seq2, h_seq3, h_r1, h_r11, h_r2, h_r21, h_r22, h_zip, h_zip1, h_zip2, h_zip3, h_enum, h_enum1, h_var, h_var1, h_int, h_str, h_bl, h_non, h_glo, h_done, h_then, h_then1, h_then2, h_asg, h_asg1, h_asg2, h_asg3, h_asg4, h_augN, h_augN1, h_augN2, h_augN3, h_mu_append, h_mu_clear, h_mu_extend, h_mu_insert, h_mu1, h_mu2, h_mu3, h_ex1, h_ret, h_ret1, h_if, h_if1, h_ift, h_iff, h_for, h_for1, h_body, h_body1, h_cond, h_whl, h_pass, h_fn1, h_fn2, b_nm, b_tp, b_all0, b_all, w_0, w_1, tt_non, tt_bl, tt_int, tt_tup, tt_lst, tt_dct, o_add, o_adds, o_addt, o_addl, o_sub, o_mul, o_mull, o_mult, o_fdiv, o_mod, o_pow, i_tup, i_lst, i_str, i_dct, i_dci, sl_tup, sl_lst', sl_str, mu_app, mu_clr, mu_ext, mu_ins, isN_non, notN_non, tb_some, tof_some, Option.map_some, Option.map_none, List.map_cons, List.map_nil, List.length_cons, List.length_nil, List.replicate_succ, List.replicate_zero, List.cons_append, List.nil_append, Nat.add_sub_cancel, Nat.sub_self, Nat.zero_add, Nat.reduceAdd, Nat.reduceSub, List.set_cons_zero, List.set_cons_succ, List.getElem?_cons_zero, List.getElem?_cons_succ, List.append_nil, if_true, if_false, Bool.false_eq_true, reduceIte, Bool.not_true, Bool.not_false, len_tup, len_lst, len_dct, int_int, int_bl, abs_int, tuple_lst, tuple_tup, list_lst, list_tup, sum_lst, sum_tup, all_bls, any_bls, ceq_int, cne_int, ceq_str, clt_int, cle_int, cgt_int, cge_int, List.length_map, if_pos (show 1 ≤ lim by decide), List.isEmpty_cons, Bool.true_and, tpairs_map]
  rw [if_pos (by
    simp only [Bool.and_eq_true, decide_eq_true_eq]
    omega), repT_zero, Int.toNat_natCast]
  simp only [h_bin, h_bin1, h_bin2, h_cmp, h_cmp1, h_cmp2, h_neg, h_neg1, h_nt, h_nt1, h_nt2, h_and, h_and1, h_andt, h_andf, h_or, h_or1, h_ort, h_orf, h_isn, h_isn1, h_isn2, h_ch, h_ch1, h_ch2, h_ch3, h_ch4, h_ite, h_ite1, h_itet, h_itef, h_tup, h_tup1, h_lst, h_lst1, h_idx, h_idx1, h_idx2, h_sl, h_sl1, h_sl2, h_sl3, h_call, h_call1, h_bi, h_bi1, h_me, h_me1, h_me2, h_me3, h_me4, h_lc, h_lc1, h_tn, h_tn1, h_tn2, h_tn3, h_tn4, h_nil, h_cons, h_cons1, h_cons2, h_star, h_star1, h_star2, h_star3, h_o0, h_o1, h_o2, h_c0, h_c1, h_c2, h_seq, h_seq1, h_seq2, h_seq3, h_r1, h_r11, h_r2, h_r21, h_r22, h_zip, h_zip1, h_zip2, h_zip3, h_enum, h_enum1, h_var, h_var1, h_int, h_str, h_bl, h_non, h_glo, h_done, h_then, h_then1, h_then2, h_asg, h_asg1, h_asg2, h_asg3, h_asg4, h_augN, h_augN1, h_augN2, h_augN3, h_mu_append, h_mu_clear, h_mu_extend, h_mu_insert, h_mu1, h_mu2, h_mu3, h_ex1, h_ret, h_ret1, h_if, h_if1, h_ift, h_iff, h_for, h_for1, h_body, h_body1, h_cond, h_whl, h_pass, h_fn1, h_fn2, b_nm, b_tp, b_all0, b_all, w_0, w_1, tt_non, tt_bl, tt_int, tt_tup, tt_lst, tt_dct, o_add, o_adds, o_addt, o_addl, o_sub, o_mul, o_mull, o_mult, o_fdiv, o_mod, o_pow, i_tup, i_lst, i_str, i_dct, i_dci, sl_tup, sl_lst', sl_str, mu_app, mu_clr, mu_ext, mu_ins, isN_non, notN_non, tb_some, tof_some, Option.map_some, Option.map_none, List.map_cons, List.map_nil, List.length_cons, List.length_nil, List.replicate_succ, List.replicate_zero, List.cons_append, List.nil_append, Nat.add_sub_cancel, Nat.sub_self, Nat.zero_add, Nat.reduceAdd, Nat.reduceSub, List.set_cons_zero, List.set_cons_succ, List.getElem?_cons_zero, List.getElem?_cons_succ, List.append_nil, if_true, if_false, Bool.false_eq_true, reduceIte, Bool.not_true, Bool.not_false, len_tup, len_lst, len_dct, int_int, int_bl, abs_int, tuple_lst, tuple_tup, list_lst, list_tup, sum_lst, sum_tup, all_bls, any_bls, ceq_int, cne_int, ceq_str, clt_int, cle_int, cgt_int, cge_int, List.length_map, tpairs_map]
  obtain ⟨r', h1, h2⟩ := loop_pure (step := bodyOf G (trun FR G T fuel (d + 1)) fuel (Tg.tp [4, 5]) (Sms.cons (Sm.asg (Ta.tg (Tg.nm 3)) (Ex.call "added" (Exs.cons (Ex.var 3) (Exs.cons (Ex.call "times" (Exs.cons (Ex.var 4) (Exs.cons (Ex.var 5) Exs.nil))) Exs.nil)))) Sms.nil)) (g := g)
    (fun i r => ∃ a b, r = [some (.lst (rows.map rowT)), some (.lst (ns.map .int)), some (.int n), some (rowT (mixL n ((rows.zip ns).take i))), a, b])
    ((rows.zip ns).map fun p => .tup [rowT p.1, .int p.2]) 0 [some (.lst (rows.map rowT)), some (.lst (ns.map .int)), some (.int n), some (.tup ((List.replicate n (0 : Int)).map .int)), none, none] ⟨none, none, rfl⟩ (fun i x r hx ⟨a, b, hr⟩ => by
      rw [List.getElem?_map] at hx
      cases hp : (rows.zip ns)[i]? with
      | none => rw [hp] at hx; cases hx
      | some p =>
        rw [hp] at hx
        cases hx
        subst hr
        have mem := List.mem_of_getElem? hp
        have l1 := hrp p mem
        have l2 : (mixL n ((rows.zip ns).take i)).length = n := mixL_len fun q hq => hrp q (List.mem_of_mem_take hq)
        refine ⟨_, ?_, some (rowT p.1), some (.int p.2), rfl⟩
        rw [Nat.zero_add, mixL_take hp]
        simp only [h_bin, h_bin1, h_bin2, h_cmp, h_cmp1, h_cmp2, h_neg, h_neg1, h_nt, h_nt1, h_nt2, h_and, h_and1, h_andt, h_andf, h_or, h_or1, h_ort, h_orf, h_isn, h_isn1, h_isn2, h_ch, h_ch1, h_ch2, h_ch3, h_ch4, h_ite, h_ite1, h_itet, h_itef, h_tup, h_tup1, h_lst, h_lst1, h_idx, h_idx1, h_idx2, h_sl, h_sl1, h_sl2, h_sl3, h_call, h_call1, h_bi, h_bi1, h_me, h_me1, h_me2, h_me3, h_me4, h_lc, h_lc1, h_tn, h_tn1, h_tn2, h_tn3, h_tn4, h_nil, h_cons, h_cons1, h_cons2, h_star, h_star1, h_star2, h_star3, h_o0, h_o1, h_o2, h_c0, h_c1, h_c2, h_seq, h_seq1, h_seq2, h_seq3, h_r1, h_r11, h_r2, h_r21, h_r22, h_zip, h_zip1, h_zip2, h_zip3, h_enum, h_enum1, h_var, h_var1, h_int, h_str, h_bl, h_non, h_glo, h_done, h_then, h_then1, h_then2, h_asg, h_asg1, h_asg2, h_asg3, h_asg4, h_augN, h_augN1, h_augN2, h_augN3, h_mu_append, h_mu_clear, h_mu_extend, h_mu_insert, h_mu1, h_mu2, h_mu3, h_ex1, h_ret, h_ret1, h_if, h_if1, h_ift, h_iff, h_for, h_for1, h_body, h_body1, h_cond, h_whl, h_pass, h_fn1, h_fn2, b_nm, b_tp, b_all0, b_all, w_0, w_1, tt_non, tt_bl, tt_int, tt_tup, tt_lst, tt_dct, o_add, o_adds, o_addt, o_addl, o_sub, o_mul, o_mull, o_mult, o_fdiv, o_mod, o_pow, i_tup, i_lst, i_str, i_dct, i_dci, sl_tup, sl_lst', sl_str, mu_app, mu_clr, mu_ext, mu_ins, isN_non, notN_non, tb_some, tof_some, Option.map_some, Option.map_none, List.map_cons, List.map_nil, List.length_cons, List.length_nil, List.replicate_succ, List.replicate_zero, List.cons_append, List.nil_append, Nat.add_sub_cancel, Nat.sub_self, Nat.zero_add, Nat.reduceAdd, Nat.reduceSub, List.set_cons_zero, List.set_cons_succ, List.getElem?_cons_zero, List.getElem?_cons_succ, List.append_nil, if_true, if_false, Bool.false_eq_true, reduceIte, Bool.not_true, Bool.not_false, len_tup, len_lst, len_dct, int_int, int_bl, abs_int, tuple_lst, tuple_tup, list_lst, list_tup, sum_lst, sum_tup, all_bls, any_bls, ceq_int, cne_int, ceq_str, clt_int, cle_int, cgt_int, cge_int, List.length_map, times_t (g := g) (show p.1.length ≤ 1000 by omega) (hm p mem), added_t (g := g) (show (mixL n ((rows.zip ns).take i)).length ≤ 1000 by omega)])
  rw [h1]
  obtain ⟨a, b, rfl⟩ := h2
  rw [Nat.zero_add, List.length_map, List.take_length]
  simp only [h_bin, h_bin1, h_bin2, h_cmp, h_cmp1, h_cmp2, h_neg, h_neg1, h_nt, h_nt1, h_nt2, h_and, h_and1, h_andt, h_andf, h_or, h_or1, h_ort, h_orf, h_isn, h_isn1, h_isn2, h_ch, h_ch1, h_ch2, h_ch3, h_ch4, h_ite, h_ite1, h_itet, h_itef, h_tup, h_tup1, h_lst, h_lst1, h_idx, h_idx1, h_idx2, h_sl, h_sl1, h_sl2, h_sl3, h_call, h_call1, h_bi, h_bi1, h_me, h_me1, h_me2, h_me3, h_me4, h_lc, h_lc1, h_tn, h_tn1, h_tn2, h_tn3, h_tn4, h_nil, h_cons, h_cons1, h_cons2, h_star, h_star1, h_star2, h_star3, h_o0, h_o1, h_o2, h_c0, h_c1, h_c2, h_seq, h_seq1, h_seq2, h_seq3, h_r1, h_r11, h_r2, h_r21, h_r22, h_zip, h_zip1, h_zip2, h_zip3, h_enum, h_enum1, h_var, h_var1, h_int, h_str, h_bl, h_non, h_glo, h_done, h_then, h_then1, h_then2, h_asg, h_asg1, h_asg2, h_asg3, h_asg4, h_augN, h_augN1, h_augN2, h_augN3, h_mu_append, h_mu_clear, h_mu_extend, h_mu_insert, h_mu1, h_mu2, h_mu3, h_ex1, h_ret, h_ret1, h_if, h_if1, h_ift, h_iff, h_for, h_for1, h_body, h_body1, h_cond, h_whl, h_pass, h_fn1, h_fn2, b_nm, b_tp, b_all0, b_all, w_0, w_1, tt_non, tt_bl, tt_int, tt_tup, tt_lst, tt_dct, o_add, o_adds, o_addt, o_addl, o_sub, o_mul, o_mull, o_mult, o_fdiv, o_mod, o_pow, i_tup, i_lst, i_str, i_dct, i_dci, sl_tup, sl_lst', sl_str, mu_app, mu_clr, mu_ext, mu_ins, isN_non, notN_non, tb_some, tof_some, Option.map_some, Option.map_none, List.map_cons, List.map_nil, List.length_cons, List.length_nil, List.replicate_succ, List.replicate_zero, List.cons_append, List.nil_append, Nat.add_sub_cancel, Nat.sub_self, Nat.zero_add, Nat.reduceAdd, Nat.reduceSub, List.set_cons_zero, List.set_cons_succ, List.getElem?_cons_zero, List.getElem?_cons_succ, List.append_nil, if_true, if_false, Bool.false_eq_true, reduceIte, Bool.not_true, Bool.not_false, len_tup, len_lst, len_dct, int_int, int_bl, abs_int, tuple_lst, tuple_tup, list_lst, list_tup, sum_lst, sum_tup, all_bls, any_bls, ceq_int, cne_int, ceq_str, clt_int, cle_int, cgt_int, cge_int, List.length_map]
theorem lmixture_t [Has FR T ("_law_mixture" : Str) f__law_mixture] {rows : List (List Int)} {ns : List Int} {n : Nat} (hn : n ≤ 1000) (hl : ns.length = rows.length) (hs : rows.length ≤ 1000) (hr : ∀ r ∈ rows, r.length = n) (hm : ∀ p ∈ rows.zip ns, ∀ x ∈ p.1, mulOk p.2 x = true) :
    trun FR G T fuel (d + 2) "_law_mixture" [.lst (rows.map rowT), .lst (ns.map .int), .int n] g = some (rowT (mixL n (rows.zip ns)), g) := by
  rw [trun_eq (f := "_law_mixture") (by rfl)]
  unfold f__law_mixture
  have hrp : ∀ p ∈ rows.zip ns, p.1.length = n := fun p hp => hr _ (List.of_mem_zip hp).1
  simp only [h_bin, h_bin1, h_bin2, h_cmp, h_cmp1, h_cmp2, h_neg, h_neg1, h_nt, h_nt1, h_nt2, h_and, h_and1, h_andt, h_andf, h_or, h_or1, h_ort, h_orf, h_isn, h_isn1, h_isn2, h_ch, h_ch1, h_ch2, h_ch3, h_ch4, h_ite, h_ite1, h_itet, h_itef, h_tup, h_tup1, h_lst, h_lst1, h_idx, h_idx1, h_idx2, h_sl, h_sl1, h_sl2, h_sl3, h_call, h_call1, h_bi, h_bi1, h_me, h_me1, h_me2, h_me3, h_me4, h_lc, h_lc1, h_tn, h_tn1, h_tn2, h_tn3, h_tn4, h_nil, h_cons, h_cons1, h_cons2, h_star, h_star1, h_star2, h_star3, h_o0, h_o1, h_o2, h_c0, h_c1, h_c2, h_seq, h_seq1, h_seq2, h_seq3, h_r1, h_r11, h_r2, h_r21, h_r22, h_zip, h_zip1, h_zip2, h_zip3, h_enum, h_enum1, h_var, h_var1, h_int, h_str, h_bl, h_non, h_glo, h_done, h_then, h_then1, h_then2, h_asg, h_asg1, h_asg2, h_asg3, h_asg4, h_augN, h_augN1, h_augN2, h_augN3, h_mu_append, h_mu_clear, h_mu_extend, h_mu_insert, h_mu1, h_mu2, h_mu3, h_ex1, h_ret, h_ret1, h_if, h_if1, h_ift, h_iff, h_for, h_for1, h_body, h_body1, h_cond, h_whl, h_pass, h_fn1, h_fn2, b_nm, b_tp, b_all0, b_all, w_0, w_1, tt_non, tt_bl, tt_int, tt_tup, tt_lst, tt_dct, o_add, o_adds, o_addt, o_addl, o_sub, o_mul, o_mull, o_mult, o_fdiv, o_mod, o_pow, i_tup, i_lst, i_str, i_dct, i_dci, sl_tup, sl_lst', sl_str, mu_app, mu_clr, mu_ext, mu_ins, isN_non, notN_non, tb_some, tof_some, Option.map_some, Option.map_none, List.map_cons, List.map_nil, List.length_cons, List.length_nil, List.replicate_succ, List.replicate_zero, List.cons_append, List.nil_append, Nat.add_sub_cancel, Nat.sub_self, Nat.zero_add, Nat.reduceAdd, Nat.reduceSub, List.set_cons_zero, List.set_cons_succ, List.getElem?_cons_zero, List.getElem?_cons_succ, List.append_nil, if_true, if_false, Bool.false_eq_true, reduceIte, Bool.not_true, Bool.not_false, len_tup, len_lst, len_dct, int_int, int_bl, abs_int, tuple_lst, tuple_tup, list_lst, list_tup, sum_lst, sum_tup, all_bls, any_bls, ceq_int, cne_int, ceq_str, clt_int, cle_int, cgt_int, cge_int, List.length_map, if_pos (show 1 ≤ lim by decide)]
  rw [if_pos (by
    simp only [Bool.and_eq_true, decide_eq_true_eq]
    unfold lim
    omega), repT_zero, Int.toNat_natCast]
  simp only [h_bin, h_bin1, h_bin2, h_cmp, h_cmp1, h_cmp2, h_neg, h_neg1, h_nt, h_nt1, h_nt2, h_and, h_and1, h_andt, h_andf, h_or, h_or1, h_ort, h_orf, h_isn, h_isn1, h_isn2, h_ch, h_ch1, h_ch2, h_ch3, h_ch4, h_ite, h_ite1, h_itet, h_itef, h_tup, h_tup1, h_lst, h_lst1, h_idx, h_idx1, h_idx2, h_sl, h_sl1, h_sl2, h_sl3, h_call, h_call1, h_bi, h_bi1, h_me, h_me1, h_me2, h_me3, h_me4, h_lc, h_lc1, h_tn, h_tn1, h_tn2, h_tn3, h_tn4, h_nil, h_cons, h_cons1, h_cons2, h_star, h_star1, h_star2, h_star3, h_o0, h_o1, h_o2, h_c0, h_c1, h_c2, h_seq, h_seq1, h_seq2, h_seq3, h_r1, h_r11, h_r2, h_r21, h_r22, h_zip, h_zip1, h_zip2, h_zip3, h_enum, h_enum1, h_var, h_var1, h_int, h_str, h_bl, h_non, h_glo, h_done, h_then, h_then1, h_then2, h_asg, h_asg1, h_asg2, h_asg3, h_asg4, h_augN, h_augN1, h_augN2, h_augN3, h_mu_append, h_mu_clear, h_mu_extend, h_mu_insert, h_mu1, h_mu2, h_mu3, h_ex1, h_ret, h_ret1, h_if, h_if1, h_ift, h_iff, h_for, h_for1, h_body, h_body1, h_cond, h_whl, h_pass, h_fn1, h_fn2, b_nm, b_tp, b_all0, b_all, w_0, w_1, tt_non, tt_bl, tt_int, tt_tup, tt_lst, tt_dct, o_add, o_adds, o_addt, o_addl, o_sub, o_mul, o_mull, o_mult, o_fdiv, o_mod, o_pow, i_tup, i_lst, i_str, i_dct, i_dci, sl_tup, sl_lst', sl_str, mu_app, mu_clr, mu_ext, mu_ins, isN_non, notN_non, tb_some, tof_some, Option.map_some, Option.map_none, List.map_cons, List.map_nil, List.length_cons, List.length_nil, List.replicate_succ, List.replicate_zero, List.cons_append, List.nil_append, Nat.add_sub_cancel, Nat.sub_self, Nat.zero_add, Nat.reduceAdd, Nat.reduceSub, List.set_cons_zero, List.set_cons_succ, List.getElem?_cons_zero, List.getElem?_cons_succ, List.append_nil, if_true, if_false, Bool.false_eq_true, reduceIte, Bool.not_true, Bool.not_false, len_tup, len_lst, len_dct, int_int, int_bl, abs_int, tuple_lst, tuple_tup, list_lst, list_tup, sum_lst, sum_tup, all_bls, any_bls, ceq_int, cne_int, ceq_str, clt_int, cle_int, cgt_int, cge_int, List.length_map, trangeOf1 (show rows.length < 2 ^ 62 by omega)]
  obtain ⟨r', h1, h2⟩ := loop_pure (step := bodyOf G (trun FR G T fuel (d + 1)) fuel (Tg.nm 4) (Sms.cons (Sm.asg (Ta.tg (Tg.nm 3)) (Ex.lc (Itr.range1 (Ex.var 2)) (Tg.nm 5) Exo.none (Ex.bin Bo.add (Ex.idx (Ex.var 3) (Ex.var 5)) (Ex.bin Bo.mul (Ex.idx (Ex.var 1) (Ex.var 4)) (Ex.idx (Ex.idx (Ex.var 0) (Ex.var 4)) (Ex.var 5)))) [5])) Sms.nil)) (g := g)
    (fun i r => ∃ a b, r = [some (.lst (rows.map rowT)), some (.lst (ns.map .int)), some (.int n), some (.lst ((mixL n ((rows.zip ns).take i)).map .int)), a, b])
    ((List.range rows.length).map fun i : Nat => .int i) 0 [some (.lst (rows.map rowT)), some (.lst (ns.map .int)), some (.int n), some (.lst ((List.replicate n (0 : Int)).map .int)), none, none] ⟨none, none, rfl⟩ (fun i x r hx ⟨a, b, hr⟩ => by
      rw [List.getElem?_map] at hx
      cases hp : (List.range rows.length)[i]? with
      | none => rw [hp] at hx; cases hx
      | some j =>
        rw [hp] at hx
        cases hx
        obtain ⟨hi, e⟩ := List.getElem?_eq_some_iff.mp hp
        rw [List.length_range] at hi
        rw [List.getElem_range] at e
        subst e hr
        have l2 : (mixL n ((rows.zip ns).take i)).length = n := mixL_len fun q hq => hrp q (List.mem_of_mem_take hq)
        have hp : (rows.zip ns)[i]? = some (rows[i], ns[i]) := by
          rw [List.getElem?_eq_getElem (by simp; omega), List.getElem_zip]
        have mem := List.mem_of_getElem? hp
        have l1 : rows[i].length = n := hrp _ mem
        have p1 : pick (rows.map rowT) (i : Int) = some (rowT rows[i]) := by
          rw [pick_nat, List.getElem?_map, List.getElem?_eq_getElem hi]; rfl
        have p2 : pick (ns.map Tr.int) (i : Int) = some (.int ns[i]) := by
          rw [pick_nat, List.getElem?_map, List.getElem?_eq_getElem (by omega)]; rfl
        refine ⟨_, ?_, some (.int i), b, rfl⟩
        rw [Nat.zero_add, mixL_take hp]
        generalize mixL n ((rows.zip ns).take i) = acc at l2
        simp only [h_bin, h_bin1, h_bin2, h_cmp, h_cmp1, h_cmp2, h_neg, h_neg1, h_nt, h_nt1, h_nt2, h_and, h_and1, h_andt, h_andf, h_or, h_or1, h_ort, h_orf, h_isn, h_isn1, h_isn2, h_ch, h_ch1, h_ch2, h_ch3, h_ch4, h_ite, h_ite1, h_itet, h_itef, h_tup, h_tup1, h_lst, h_lst1, h_idx, h_idx1, h_idx2, h_sl, h_sl1, h_sl2, h_sl3, h_call, h_call1, h_bi, h_bi1, h_me, h_me1, h_me2, h_me3, h_me4, h_lc, h_lc1, h_tn, h_tn1, h_tn2, h_tn3, h_tn4, h_nil, h_cons, h_cons1, h_cons2, h_star, h_star1, h_star2, h_star3, h_o0, h_o1, h_o2, h_c0, h_c1, h_c2, h_seq, h_seq1, h_seq2, h_seq3, h_r1, h_r11, h_r2, h_r21, h_r22, h_zip, h_zip1, h_zip2, h_zip3, h_enum, h_enum1, h_var, h_var1, h_int, h_str, h_bl, h_non, h_glo, h_done, h_then, h_then1, h_then2, h_asg, h_asg1, h_asg2, h_asg3, h_asg4, h_augN, h_augN1, h_augN2, h_augN3, h_mu_append, h_mu_clear, h_mu_extend, h_mu_insert, h_mu1, h_mu2, h_mu3, h_ex1, h_ret, h_ret1, h_if, h_if1, h_ift, h_iff, h_for, h_for1, h_body, h_body1, h_cond, h_whl, h_pass, h_fn1, h_fn2, b_nm, b_tp, b_all0, b_all, w_0, w_1, tt_non, tt_bl, tt_int, tt_tup, tt_lst, tt_dct, o_add, o_adds, o_addt, o_addl, o_sub, o_mul, o_mull, o_mult, o_fdiv, o_mod, o_pow, i_tup, i_lst, i_str, i_dct, i_dci, sl_tup, sl_lst', sl_str, mu_app, mu_clr, mu_ext, mu_ins, isN_non, notN_non, tb_some, tof_some, Option.map_some, Option.map_none, List.map_cons, List.map_nil, List.length_cons, List.length_nil, List.replicate_succ, List.replicate_zero, List.cons_append, List.nil_append, Nat.add_sub_cancel, Nat.sub_self, Nat.zero_add, Nat.reduceAdd, Nat.reduceSub, List.set_cons_zero, List.set_cons_succ, List.getElem?_cons_zero, List.getElem?_cons_succ, List.append_nil, if_true, if_false, Bool.false_eq_true, reduceIte, Bool.not_true, Bool.not_false, len_tup, len_lst, len_dct, int_int, int_bl, abs_int, tuple_lst, tuple_tup, list_lst, list_tup, sum_lst, sum_tup, all_bls, any_bls, ceq_int, cne_int, ceq_str, clt_int, cle_int, cgt_int, cge_int, List.length_map, trangeOf1 (show n < 2 ^ 62 by omega)]
        rw [turns_each (fun k : Nat => Tr.int k) (fun k : Nat => .int (acc.getD k 0 + (vMul ns[i] rows[i]).getD k 0)) (List.range n) (fun k hk g => by
          have hk := List.mem_range.mp hk
          have e1 : (vMul ns[i] rows[i]).getD k 0 = ns[i] * rows[i].getD k 0 := by
            unfold vMul
            rw [List.getD, List.getD, List.getElem?_map, List.getElem?_eq_getElem (by omega)]
            rfl
          have hmm : mulOk ns[i] (rows[i].getD k 0) = true := hm _ mem _ (by
            rw [List.getD, List.getElem?_eq_getElem (by omega)]
            exact List.getElem_mem _)
          simp only [h_bin, h_bin1, h_bin2, h_cmp, h_cmp1, h_cmp2, h_neg, h_neg1, h_nt, h_nt1, h_nt2, h_and, h_and1, h_andt, h_andf, h_or, h_or1, h_ort, h_orf, h_isn, h_isn1, h_isn2, h_ch, h_ch1, h_ch2, h_ch3, h_ch4, h_ite, h_ite1, h_itet, h_itef, h_tup, h_tup1, h_lst, h_lst1, h_idx, h_idx1, h_idx2, h_sl, h_sl1, h_sl2, h_sl3, h_call, h_call1, h_bi, h_bi1, h_me, h_me1, h_me2, h_me3, h_me4, h_lc, h_lc1, h_tn, h_tn1, h_tn2, h_tn3, h_tn4, h_nil, h_cons, h_cons1, h_cons2, h_star, h_star1, h_star2, h_star3, h_o0, h_o1, h_o2, h_c0, h_c1, h_c2, h_seq, h_seq1, h_seq2, h_seq3, h_r1, h_r11, h_r2, h_r21, h_r22, h_zip, h_zip1, h_zip2, h_zip3, h_enum, h_enum1, h_var, h_var1, h_int, h_str, h_bl, h_non, h_glo, h_done, h_then, h_then1, h_then2, h_asg, h_asg1, h_asg2, h_asg3, h_asg4, h_augN, h_augN1, h_augN2, h_augN3, h_mu_append, h_mu_clear, h_mu_extend, h_mu_insert, h_mu1, h_mu2, h_mu3, h_ex1, h_ret, h_ret1, h_if, h_if1, h_ift, h_iff, h_for, h_for1, h_body, h_body1, h_cond, h_whl, h_pass, h_fn1, h_fn2, b_nm, b_tp, b_all0, b_all, w_0, w_1, tt_non, tt_bl, tt_int, tt_tup, tt_lst, tt_dct, o_add, o_adds, o_addt, o_addl, o_sub, o_mul, o_mull, o_mult, o_fdiv, o_mod, o_pow, i_tup, i_lst, i_str, i_dct, i_dci, sl_tup, sl_lst', sl_str, mu_app, mu_clr, mu_ext, mu_ins, isN_non, notN_non, tb_some, tof_some, Option.map_some, Option.map_none, List.map_cons, List.map_nil, List.length_cons, List.length_nil, List.replicate_succ, List.replicate_zero, List.cons_append, List.nil_append, Nat.add_sub_cancel, Nat.sub_self, Nat.zero_add, Nat.reduceAdd, Nat.reduceSub, List.set_cons_zero, List.set_cons_succ, List.getElem?_cons_zero, List.getElem?_cons_succ, List.append_nil, if_true, if_false, Bool.false_eq_true, reduceIte, Bool.not_true, Bool.not_false, len_tup, len_lst, len_dct, int_int, int_bl, abs_int, tuple_lst, tuple_tup, list_lst, list_tup, sum_lst, sum_tup, all_bls, any_bls, ceq_int, cne_int, ceq_str, clt_int, cle_int, cgt_int, cge_int, List.length_map, pick_row (show k < acc.length by omega), p1, p2, pick_row (show k < rows[i].length by omega), hmm, e1])]
        have e := range_zip (fun a b => Tr.int (a + b)) l2 (show (vMul ns[i] rows[i]).length = n by rw [vMul_len]; exact l1)
        rw [e]
        simp only [h_bin, h_bin1, h_bin2, h_cmp, h_cmp1, h_cmp2, h_neg, h_neg1, h_nt, h_nt1, h_nt2, h_and, h_and1, h_andt, h_andf, h_or, h_or1, h_ort, h_orf, h_isn, h_isn1, h_isn2, h_ch, h_ch1, h_ch2, h_ch3, h_ch4, h_ite, h_ite1, h_itet, h_itef, h_tup, h_tup1, h_lst, h_lst1, h_idx, h_idx1, h_idx2, h_sl, h_sl1, h_sl2, h_sl3, h_call, h_call1, h_bi, h_bi1, h_me, h_me1, h_me2, h_me3, h_me4, h_lc, h_lc1, h_tn, h_tn1, h_tn2, h_tn3, h_tn4, h_nil, h_cons, h_cons1, h_cons2, h_star, h_star1, h_star2, h_star3, h_o0, h_o1, h_o2, h_c0, h_c1, h_c2, h_seq, h_seq1, h_seq2, h_seq3, h_r1, h_r11, h_r2, h_r21, h_r22, h_zip, h_zip1, h_zip2, h_zip3, h_enum, h_enum1, h_var, h_var1, h_int, h_str, h_bl, h_non, h_glo, h_done, h_then, h_then1, h_then2, h_asg, h_asg1, h_asg2, h_asg3, h_asg4, h_augN, h_augN1, h_augN2, h_augN3, h_mu_append, h_mu_clear, h_mu_extend, h_mu_insert, h_mu1, h_mu2, h_mu3, h_ex1, h_ret, h_ret1, h_if, h_if1, h_ift, h_iff, h_for, h_for1, h_body, h_body1, h_cond, h_whl, h_pass, h_fn1, h_fn2, b_nm, b_tp, b_all0, b_all, w_0, w_1, tt_non, tt_bl, tt_int, tt_tup, tt_lst, tt_dct, o_add, o_adds, o_addt, o_addl, o_sub, o_mul, o_mull, o_mult, o_fdiv, o_mod, o_pow, i_tup, i_lst, i_str, i_dct, i_dci, sl_tup, sl_lst', sl_str, mu_app, mu_clr, mu_ext, mu_ins, isN_non, notN_non, tb_some, tof_some, Option.map_some, Option.map_none, List.map_cons, List.map_nil, List.length_cons, List.length_nil, List.replicate_succ, List.replicate_zero, List.cons_append, List.nil_append, Nat.add_sub_cancel, Nat.sub_self, Nat.zero_add, Nat.reduceAdd, Nat.reduceSub, List.set_cons_zero, List.set_cons_succ, List.getElem?_cons_zero, List.getElem?_cons_succ, List.append_nil, if_true, if_false, Bool.false_eq_true, reduceIte, Bool.not_true, Bool.not_false, len_tup, len_lst, len_dct, int_int, int_bl, abs_int, tuple_lst, tuple_tup, list_lst, list_tup, sum_lst, sum_tup, all_bls, any_bls, ceq_int, cne_int, ceq_str, clt_int, cle_int, cgt_int, cge_int, List.length_map, List.length_zip, if_pos (mem_lim (show min acc.length (vMul ns[i] rows[i]).length ≤ 16777216 by omega))]
        unfold vAdd
        rw [List.map_map]
        rfl)
  rw [h1]
  obtain ⟨a, b, rfl⟩ := h2
  rw [Nat.zero_add, List.length_map, List.length_range, List.take_of_length_le (by simp; omega)]
  simp only [h_bin, h_bin1, h_bin2, h_cmp, h_cmp1, h_cmp2, h_neg, h_neg1, h_nt, h_nt1, h_nt2, h_and, h_and1, h_andt, h_andf, h_or, h_or1, h_ort, h_orf, h_isn, h_isn1, h_isn2, h_ch, h_ch1, h_ch2, h_ch3, h_ch4, h_ite, h_ite1, h_itet, h_itef, h_tup, h_tup1, h_lst, h_lst1, h_idx, h_idx1, h_idx2, h_sl, h_sl1, h_sl2, h_sl3, h_call, h_call1, h_bi, h_bi1, h_me, h_me1, h_me2, h_me3, h_me4, h_lc, h_lc1, h_tn, h_tn1, h_tn2, h_tn3, h_tn4, h_nil, h_cons, h_cons1, h_cons2, h_star, h_star1, h_star2, h_star3, h_o0, h_o1, h_o2, h_c0, h_c1, h_c2, h_seq, h_seq1, h_seq2, h_seq3, h_r1, h_r11, h_r2, h_r21, h_r22, h_zip, h_zip1, h_zip2, h_zip3, h_enum, h_enum1, h_var, h_var1, h_int, h_str, h_bl, h_non, h_glo, h_done, h_then, h_then1, h_then2, h_asg, h_asg1, h_asg2, h_asg3, h_asg4, h_augN, h_augN1, h_augN2, h_augN3, h_mu_append, h_mu_clear, h_mu_extend, h_mu_insert, h_mu1, h_mu2, h_mu3, h_ex1, h_ret, h_ret1, h_if, h_if1, h_ift, h_iff, h_for, h_for1, h_body, h_body1, h_cond, h_whl, h_pass, h_fn1, h_fn2, b_nm, b_tp, b_all0, b_all, w_0, w_1, tt_non, tt_bl, tt_int, tt_tup, tt_lst, tt_dct, o_add, o_adds, o_addt, o_addl, o_sub, o_mul, o_mull, o_mult, o_fdiv, o_mod, o_pow, i_tup, i_lst, i_str, i_dct, i_dci, sl_tup, sl_lst', sl_str, mu_app, mu_clr, mu_ext, mu_ins, isN_non, notN_non, tb_some, tof_some, Option.map_some, Option.map_none, List.map_cons, List.map_nil, List.length_cons, List.length_nil, List.replicate_succ, List.replicate_zero, List.cons_append, List.nil_append, Nat.add_sub_cancel, Nat.sub_self, Nat.zero_add, Nat.reduceAdd, Nat.reduceSub, List.set_cons_zero, List.set_cons_succ, List.getElem?_cons_zero, List.getElem?_cons_succ, List.append_nil, if_true, if_false, Bool.false_eq_true, reduceIte, Bool.not_true, Bool.not_false, len_tup, len_lst, len_dct, int_int, int_bl, abs_int, tuple_lst, tuple_tup, list_lst, list_tup, sum_lst, sum_tup, all_bls, any_bls, ceq_int, cne_int, ceq_str, clt_int, cle_int, cgt_int, cge_int, List.length_map]
end
end A46
end
section
namespace A46
open PySem (Str PyData)
theorem look_map {k c : KeyV} {v : Tr} : ∀ {D : List (KeyV × Tr)}, (D.any fun q => decide (q.1 = k)) = true → tlook c (D.map fun q => if q.1 = k then (q.1, v) else q) = if c = k then some v else tlook c D
  | [], h => by cases h
  | (a, b) :: D, h => by
    rw [List.map_cons]
    by_cases e : a = k
    · subst e
      rw [if_pos rfl, tlook]
      by_cases e2 : a = c
      · subst e2; rw [if_pos rfl, if_pos rfl]
      · rw [if_neg e2, if_neg (fun z => e2 z.symm), tlook, if_neg e2]
        by_cases h2 : (D.any fun q => decide (q.1 = a)) = true
        · rw [look_map h2, if_neg (fun z => e2 z.symm)]
        · have : (D.map fun q => if q.1 = a then (q.1, v) else q) = D := by
            have h3 : ∀ q ∈ D, q.1 ≠ a := fun q hq z => h2 (List.any_eq_true.mpr ⟨q, hq, decide_eq_true z⟩)
            clear h h2
            induction D with
            | nil => rfl
            | cons q D ih => rw [List.map_cons, if_neg (h3 q List.mem_cons_self), ih fun p hp => h3 p (List.mem_cons_of_mem _ hp)]
          rw [this]
    · rw [if_neg e, tlook, tlook]
      rw [List.any_cons] at h
      simp only [e, decide_false, Bool.false_or] at h
      by_cases e2 : a = c
      · subst e2; rw [if_pos rfl, if_pos rfl, if_neg e]
      · rw [if_neg e2, if_neg e2, look_map h]
theorem look_app {k c : KeyV} {v : Tr} : ∀ {D : List (KeyV × Tr)}, ¬ (D.any fun q => decide (q.1 = k)) = true → tlook c (D ++ [(k, v)]) = if c = k then some v else tlook c D
  | [], h => by
    show (if k = c then some v else tlook c []) = _
    by_cases e : k = c
    · rw [if_pos e, if_pos e.symm]
    · rw [if_neg e, if_neg (fun z => e z.symm)]
  | (a, b) :: D, h => by
    rw [List.any_cons] at h
    simp only [Bool.or_eq_true, not_or] at h
    rw [List.cons_append, tlook, tlook]
    have ha : a ≠ k := by simpa using h.1
    by_cases e : a = c
    · subst e; rw [if_pos rfl, if_pos rfl, if_neg ha]
    · rw [if_neg e, if_neg e, look_app h.2]
theorem look_put {k c : KeyV} {v : Tr} {D : List (KeyV × Tr)} : tlook c (tput k v D) = if c = k then some v else tlook c D := by
  unfold tput
  split
  · rename_i h; exact look_map h
  · rename_i h; exact look_app h
/-- a dict of names and ints -/
def dctOf (ps : List (Str × Int)) : List (KeyV × Tr) := (ps.map fun p => ((.inr p.1 : KeyV), Tr.int p.2)).foldl (fun acc q => tput q.1 q.2 acc) []
theorem look_fold {x : Str} : ∀ {qs : List (KeyV × Tr)} {D : List (KeyV × Tr)} {P : Tr → Prop}, (∀ q ∈ qs, P q.2) → ((∃ q ∈ qs, q.1 = .inr x) ∨ ∃ v, tlook (.inr x) D = some v ∧ P v) → ∃ v, tlook (.inr x) (qs.foldl (fun acc q => tput q.1 q.2 acc) D) = some v ∧ P v
  | [], D, P, hp, h => by
    rcases h with ⟨q, hq, _⟩ | h
    · cases hq
    · exact h
  | q :: qs, D, P, hp, h => by
    rw [List.foldl_cons]
    refine look_fold (fun p hq => hp p (List.mem_cons_of_mem _ hq)) ?_
    by_cases e : q.1 = .inr x
    · right
      refine ⟨q.2, ?_, hp q List.mem_cons_self⟩
      rw [look_put, if_pos e.symm]
    · rcases h with ⟨p, hq, e2⟩ | ⟨v, h1, h2⟩
      · rcases List.mem_cons.mp hq with rfl | hq
        · exact absurd e2 e
        · exact .inl ⟨p, hq, e2⟩
      · right
        refine ⟨v, ?_, h2⟩
        rw [look_put, if_neg (fun z => e z.symm)]
        exact h1
/-- worths that a dict tells -/
structure Worths (l : List Str) (lo hi : Int) (D : List (KeyV × Tr)) (W : Str → Int) : Prop where
  at_ : ∀ x ∈ l, tlook (.inr x) D = some (.int (W x))
  low : ∀ x ∈ l, lo ≤ W x
  high : ∀ x ∈ l, W x ≤ hi
theorem tpair_strs : ∀ {ps : List (Str × Int)}, optAll tpair (ps.map fun p => Tr.tup [.str p.1, .int p.2]) = some (ps.map fun p => ((.inr p.1 : KeyV), Tr.int p.2))
  | [] => rfl
  | p :: ps => by
    rw [List.map_cons, optAll, tpair_strs]
    rfl
theorem dict_strs {ps : List (Str × Int)} : tbi .dict [.lst (ps.map fun p => Tr.tup [.str p.1, .int p.2])] = some (.dct (dctOf ps)) := by
  simp only [tbi, tlst, tpair_strs, Option.map_some]
  rfl
section
variable {FR : List Str} {G : Str → Option Tr} {T : List (Str × Fn)} {fuel d : Nat}
theorem worths_t [Has FR T ("_law_worths" : Str) f__law_worths] {l : List Str} (hl : l.length ≤ 1000) {lo hi : Int} (h : lo ≤ hi) (hb : hi - lo < 1000000000000000000000000000000000000000000) (g : Bg) :
    ∃ (ps : List (Str × Int)) (W : Str → Int) (g' : Bg), trun FR G T fuel (d + 2) "_law_worths" [.bag, strsT l, .int lo, .int hi] g = some (.dct (dctOf ps), g') ∧ ps.map (·.1) = l ∧ (∀ p ∈ ps, lo ≤ p.2 ∧ p.2 ≤ hi) ∧ Worths l lo hi (dctOf ps) W := by
  rw [trun_eq (f := "_law_worths") (by rfl)]
  unfold f__law_worths
  simp only [h_bin, h_bin1, h_bin2, h_cmp, h_cmp1, h_cmp2, h_neg, h_neg1, h_nt, h_nt1, h_nt2, h_and, h_and1, h_andt, h_andf, h_or, h_or1, h_ort, h_orf, h_isn, h_isn1, h_isn2, h_ch, h_ch1, h_ch2, h_ch3, h_ch4, h_ite, h_ite1, h_itet, h_itef, h_tup, h_tup1, h_lst, h_lst1, h_idx, h_idx1, h_idx2, h_sl, h_sl1, h_sl2, h_sl3, h_call, h_call1, h_bi, h_bi1, h_me, h_me1, h_me2, h_me3, h_me4, h_lc, h_lc1, h_tn, h_tn1, h_tn2, h_tn3, h_tn4, h_nil, h_cons, h_cons1, h_cons2, h_star, h_star1, h_star2, h_star3, h_o0, h_o1, h_o2, h_c0, h_c1, h_c2, h_seq, h_seq1, h_seq2, h_seq3, h_r1, h_r11, h_r2, h_r21, h_r22, h_zip, h_zip1, h_zip2, h_zip3, h_enum, h_enum1, h_var, h_var1, h_int, h_str, h_bl, h_non, h_glo, h_done, h_then, h_then1, h_then2, h_asg, h_asg1, h_asg2, h_asg3, h_asg4, h_augN, h_augN1, h_augN2, h_augN3, h_mu_append, h_mu_clear, h_mu_extend, h_mu_insert, h_mu1, h_mu2, h_mu3, h_ex1, h_ret, h_ret1, h_if, h_if1, h_ift, h_iff, h_for, h_for1, h_body, h_body1, h_cond, h_whl, h_pass, h_fn1, h_fn2, b_nm, b_tp, b_all0, b_all, w_0, w_1, tt_non, tt_bl, tt_int, tt_tup, tt_lst, tt_dct, o_add, o_adds, o_addt, o_addl, o_sub, o_mul, o_mull, o_mult, o_fdiv, o_mod, o_pow, i_tup, i_lst, i_str, i_dct, i_dci, sl_tup, sl_lst', sl_str, mu_app, mu_clr, mu_ext, mu_ins, isN_non, notN_non, tb_some, tof_some, Option.map_some, Option.map_none, List.map_cons, List.map_nil, List.length_cons, List.length_nil, List.replicate_succ, List.replicate_zero, List.cons_append, List.nil_append, Nat.add_sub_cancel, Nat.sub_self, Nat.zero_add, Nat.reduceAdd, Nat.reduceSub, List.set_cons_zero, List.set_cons_succ, List.getElem?_cons_zero, List.getElem?_cons_succ, List.append_nil, if_true, if_false, Bool.false_eq_true, reduceIte, Bool.not_true, Bool.not_false, len_tup, len_lst, len_dct, int_int, int_bl, abs_int, tuple_lst, tuple_tup, list_lst, list_tup, sum_lst, sum_tup, all_bls, any_bls, ceq_int, cne_int, ceq_str, clt_int, cle_int, cgt_int, cge_int, List.length_map]
  obtain ⟨ys, g', h1, h2, h3⟩ := turns_draw (step := turnOf G (trun FR G T fuel (d + 1)) (Tg.nm 4) Exo.none (Ex.tup (Exs.cons (Ex.var 4) (Exs.cons (Ex.bin Bo.add (Ex.var 2) (Ex.call "_law_take" (Exs.cons (Ex.var 0) (Exs.cons (Ex.bin Bo.add (Ex.bin Bo.sub (Ex.var 3) (Ex.var 2)) (Ex.con (Val.int 1))) Exs.nil)))) Exs.nil))) [4] [some Tr.bag, some (strsT l), some (Tr.int lo), some (Tr.int hi), none]) Tr.str (fun p : Str × Int => Tr.tup [.str p.1, .int p.2]) (fun x p => p.1 = x ∧ lo ≤ p.2 ∧ p.2 ≤ hi) l g (fun x _ g => by
    obtain ⟨y, g1, k1, k2⟩ := draw (FR := FR) (G := G) (T := T) (fuel := fuel) (d := d) g (m := hi - lo + 1) (by omega) (by omega)
    refine ⟨(x, lo + y), g1, ?_, rfl, by show lo ≤ lo + (y : Int); omega, by show lo + (y : Int) ≤ hi; omega⟩
    simp only [h_bin, h_bin1, h_bin2, h_cmp, h_cmp1, h_cmp2, h_neg, h_neg1, h_nt, h_nt1, h_nt2, h_and, h_and1, h_andt, h_andf, h_or, h_or1, h_ort, h_orf, h_isn, h_isn1, h_isn2, h_ch, h_ch1, h_ch2, h_ch3, h_ch4, h_ite, h_ite1, h_itet, h_itef, h_tup, h_tup1, h_lst, h_lst1, h_idx, h_idx1, h_idx2, h_sl, h_sl1, h_sl2, h_sl3, h_call, h_call1, h_bi, h_bi1, h_me, h_me1, h_me2, h_me3, h_me4, h_lc, h_lc1, h_tn, h_tn1, h_tn2, h_tn3, h_tn4, h_nil, h_cons, h_cons1, h_cons2, h_star, h_star1, h_star2, h_star3, h_o0, h_o1, h_o2, h_c0, h_c1, h_c2, h_seq, h_seq1, h_seq2, h_seq3, h_r1, h_r11, h_r2, h_r21, h_r22, h_zip, h_zip1, h_zip2, h_zip3, h_enum, h_enum1, h_var, h_var1, h_int, h_str, h_bl, h_non, h_glo, h_done, h_then, h_then1, h_then2, h_asg, h_asg1, h_asg2, h_asg3, h_asg4, h_augN, h_augN1, h_augN2, h_augN3, h_mu_append, h_mu_clear, h_mu_extend, h_mu_insert, h_mu1, h_mu2, h_mu3, h_ex1, h_ret, h_ret1, h_if, h_if1, h_ift, h_iff, h_for, h_for1, h_body, h_body1, h_cond, h_whl, h_pass, h_fn1, h_fn2, b_nm, b_tp, b_all0, b_all, w_0, w_1, tt_non, tt_bl, tt_int, tt_tup, tt_lst, tt_dct, o_add, o_adds, o_addt, o_addl, o_sub, o_mul, o_mull, o_mult, o_fdiv, o_mod, o_pow, i_tup, i_lst, i_str, i_dct, i_dci, sl_tup, sl_lst', sl_str, mu_app, mu_clr, mu_ext, mu_ins, isN_non, notN_non, tb_some, tof_some, Option.map_some, Option.map_none, List.map_cons, List.map_nil, List.length_cons, List.length_nil, List.replicate_succ, List.replicate_zero, List.cons_append, List.nil_append, Nat.add_sub_cancel, Nat.sub_self, Nat.zero_add, Nat.reduceAdd, Nat.reduceSub, List.set_cons_zero, List.set_cons_succ, List.getElem?_cons_zero, List.getElem?_cons_succ, List.append_nil, if_true, if_false, Bool.false_eq_true, reduceIte, Bool.not_true, Bool.not_false, len_tup, len_lst, len_dct, int_int, int_bl, abs_int, tuple_lst, tuple_tup, list_lst, list_tup, sum_lst, sum_tup, all_bls, any_bls, ceq_int, cne_int, ceq_str, clt_int, cle_int, cgt_int, cge_int, List.length_map, k1, if_pos (show 2 ≤ lim by decide)])
  rw [h1]
  have hk : ys.map (·.1) = l := by
    apply List.ext_getElem (by simp [h2])
    intro i a b
    rw [List.getElem_map]
    rw [List.length_map] at a
    exact (h3 i l[i] ys[i] (List.getElem?_eq_getElem b) (List.getElem?_eq_getElem a)).1
  have hv : ∀ p ∈ ys, lo ≤ p.2 ∧ p.2 ≤ hi := fun p hp => by
    obtain ⟨i, hi2, rfl⟩ := List.getElem_of_mem hp
    exact (h3 i (l[i]'(by omega)) ys[i] (List.getElem?_eq_getElem (by omega)) (List.getElem?_eq_getElem hi2)).2
  simp only [h_bin, h_bin1, h_bin2, h_cmp, h_cmp1, h_cmp2, h_neg, h_neg1, h_nt, h_nt1, h_nt2, h_and, h_and1, h_andt, h_andf, h_or, h_or1, h_ort, h_orf, h_isn, h_isn1, h_isn2, h_ch, h_ch1, h_ch2, h_ch3, h_ch4, h_ite, h_ite1, h_itet, h_itef, h_tup, h_tup1, h_lst, h_lst1, h_idx, h_idx1, h_idx2, h_sl, h_sl1, h_sl2, h_sl3, h_call, h_call1, h_bi, h_bi1, h_me, h_me1, h_me2, h_me3, h_me4, h_lc, h_lc1, h_tn, h_tn1, h_tn2, h_tn3, h_tn4, h_nil, h_cons, h_cons1, h_cons2, h_star, h_star1, h_star2, h_star3, h_o0, h_o1, h_o2, h_c0, h_c1, h_c2, h_seq, h_seq1, h_seq2, h_seq3, h_r1, h_r11, h_r2, h_r21, h_r22, h_zip, h_zip1, h_zip2, h_zip3, h_enum, h_enum1, h_var, h_var1, h_int, h_str, h_bl, h_non, h_glo, h_done, h_then, h_then1, h_then2, h_asg, h_asg1, h_asg2, h_asg3, h_asg4, h_augN, h_augN1, h_augN2, h_augN3, h_mu_append, h_mu_clear, h_mu_extend, h_mu_insert, h_mu1, h_mu2, h_mu3, h_ex1, h_ret, h_ret1, h_if, h_if1, h_ift, h_iff, h_for, h_for1, h_body, h_body1, h_cond, h_whl, h_pass, h_fn1, h_fn2, b_nm, b_tp, b_all0, b_all, w_0, w_1, tt_non, tt_bl, tt_int, tt_tup, tt_lst, tt_dct, o_add, o_adds, o_addt, o_addl, o_sub, o_mul, o_mull, o_mult, o_fdiv, o_mod, o_pow, i_tup, i_lst, i_str, i_dct, i_dci, sl_tup, sl_lst', sl_str, mu_app, mu_clr, mu_ext, mu_ins, isN_non, notN_non, tb_some, tof_some, Option.map_some, Option.map_none, List.map_cons, List.map_nil, List.length_cons, List.length_nil, List.replicate_succ, List.replicate_zero, List.cons_append, List.nil_append, Nat.add_sub_cancel, Nat.sub_self, Nat.zero_add, Nat.reduceAdd, Nat.reduceSub, List.set_cons_zero, List.set_cons_succ, List.getElem?_cons_zero, List.getElem?_cons_succ, List.append_nil, if_true, if_false, Bool.false_eq_true, reduceIte, Bool.not_true, Bool.not_false, len_tup, len_lst, len_dct, int_int, int_bl, abs_int, tuple_lst, tuple_tup, list_lst, list_tup, sum_lst, sum_tup, all_bls, any_bls, ceq_int, cne_int, ceq_str, clt_int, cle_int, cgt_int, cge_int, List.length_map, if_pos (mem_lim (show ys.length ≤ 16777216 by omega)), dict_strs]
  refine ⟨ys, fun x => match tlook (.inr x) (dctOf ys) with | some (.int v) => v | _ => 0, g', rfl, hk, hv, ?_⟩
  have key : ∀ x ∈ l, ∃ v : Int, tlook (.inr x) (dctOf ys) = some (.int v) ∧ lo ≤ v ∧ v ≤ hi := fun x hx => by
    rw [← hk] at hx
    obtain ⟨p, hp, rfl⟩ := List.mem_map.mp hx
    obtain ⟨v, q1, q2⟩ := look_fold (x := p.1) (qs := ys.map fun p => ((.inr p.1 : KeyV), Tr.int p.2)) (D := []) (P := fun t => ∃ v : Int, t = .int v ∧ lo ≤ v ∧ v ≤ hi) (fun q hq => by
      obtain ⟨p, hp, rfl⟩ := List.mem_map.mp hq
      exact ⟨p.2, rfl, hv p hp⟩) (.inl ⟨_, List.mem_map.mpr ⟨p, hp, rfl⟩, rfl⟩)
    obtain ⟨z, rfl, q3⟩ := q2
    exact ⟨z, q1, q3⟩
  refine ⟨fun x hx => ?_, fun x hx => ?_, fun x hx => ?_⟩
  · obtain ⟨v, q, _⟩ := key x hx; rw [q]
  · obtain ⟨v, q, q2⟩ := key x hx; rw [q]; exact q2.1
  · obtain ⟨v, q, q2⟩ := key x hx; rw [q]; exact q2.2
theorem worth_t [Has FR T ("_law_worth" : Str) f__law_worth] {D : List (KeyV × Tr)} {W : Str → Int} {s : List Str} {g : Bg} (hs : s.length ≤ 1000) (h : ∀ x ∈ s, tlook (.inr x) D = some (.int (W x))) : trun FR G T fuel (d + 1) "_law_worth" [.dct D, strsT s] g = some (.int (s.map W).sum, g) := by
  rw [trun_eq (f := "_law_worth") (by rfl)]
  unfold f__law_worth
  simp only [h_bin, h_bin1, h_bin2, h_cmp, h_cmp1, h_cmp2, h_neg, h_neg1, h_nt, h_nt1, h_nt2, h_and, h_and1, h_andt, h_andf, h_or, h_or1, h_ort, h_orf, h_isn, h_isn1, h_isn2, h_ch, h_ch1, h_ch2, h_ch3, h_ch4, h_ite, h_ite1, h_itet, h_itef, h_tup, h_tup1, h_lst, h_lst1, h_idx, h_idx1, h_idx2, h_sl, h_sl1, h_sl2, h_sl3, h_call, h_call1, h_bi, h_bi1, h_me, h_me1, h_me2, h_me3, h_me4, h_lc, h_lc1, h_tn, h_tn1, h_tn2, h_tn3, h_tn4, h_nil, h_cons, h_cons1, h_cons2, h_star, h_star1, h_star2, h_star3, h_o0, h_o1, h_o2, h_c0, h_c1, h_c2, h_seq, h_seq1, h_seq2, h_seq3, h_r1, h_r11, h_r2, h_r21, h_r22, h_zip, h_zip1, h_zip2, h_zip3, h_enum, h_enum1, h_var, h_var1, h_int, h_str, h_bl, h_non, h_glo, h_done, h_then, h_then1, h_then2, h_asg, h_asg1, h_asg2, h_asg3, h_asg4, h_augN, h_augN1, h_augN2, h_augN3, h_mu_append, h_mu_clear, h_mu_extend, h_mu_insert, h_mu1, h_mu2, h_mu3, h_ex1, h_ret, h_ret1, h_if, h_if1, h_ift, h_iff, h_for, h_for1, h_body, h_body1, h_cond, h_whl, h_pass, h_fn1, h_fn2, b_nm, b_tp, b_all0, b_all, w_0, w_1, tt_non, tt_bl, tt_int, tt_tup, tt_lst, tt_dct, o_add, o_adds, o_addt, o_addl, o_sub, o_mul, o_mull, o_mult, o_fdiv, o_mod, o_pow, i_tup, i_lst, i_str, i_dct, i_dci, sl_tup, sl_lst', sl_str, mu_app, mu_clr, mu_ext, mu_ins, isN_non, notN_non, tb_some, tof_some, Option.map_some, Option.map_none, List.map_cons, List.map_nil, List.length_cons, List.length_nil, List.replicate_succ, List.replicate_zero, List.cons_append, List.nil_append, Nat.add_sub_cancel, Nat.sub_self, Nat.zero_add, Nat.reduceAdd, Nat.reduceSub, List.set_cons_zero, List.set_cons_succ, List.getElem?_cons_zero, List.getElem?_cons_succ, List.append_nil, if_true, if_false, Bool.false_eq_true, reduceIte, Bool.not_true, Bool.not_false, len_tup, len_lst, len_dct, int_int, int_bl, abs_int, tuple_lst, tuple_tup, list_lst, list_tup, sum_lst, sum_tup, all_bls, any_bls, ceq_int, cne_int, ceq_str, clt_int, cle_int, cgt_int, cge_int, List.length_map]
  rw [turns_each Tr.str (fun x => .int (W x)) s (fun x hx g => by simp only [h_bin, h_bin1, h_bin2, h_cmp, h_cmp1, h_cmp2, h_neg, h_neg1, h_nt, h_nt1, h_nt2, h_and, h_and1, h_andt, h_andf, h_or, h_or1, h_ort, h_orf, h_isn, h_isn1, h_isn2, h_ch, h_ch1, h_ch2, h_ch3, h_ch4, h_ite, h_ite1, h_itet, h_itef, h_tup, h_tup1, h_lst, h_lst1, h_idx, h_idx1, h_idx2, h_sl, h_sl1, h_sl2, h_sl3, h_call, h_call1, h_bi, h_bi1, h_me, h_me1, h_me2, h_me3, h_me4, h_lc, h_lc1, h_tn, h_tn1, h_tn2, h_tn3, h_tn4, h_nil, h_cons, h_cons1, h_cons2, h_star, h_star1, h_star2, h_star3, h_o0, h_o1, h_o2, h_c0, h_c1, h_c2, h_seq, h_seq1, h_seq2, h_seq3, h_r1, h_r11, h_r2, h_r21, h_r22, h_zip, h_zip1, h_zip2, h_zip3, h_enum, h_enum1, h_var, h_var1, h_int, h_str, h_bl, h_non, h_glo, h_done, h_then, h_then1, h_then2, h_asg, h_asg1, h_asg2, h_asg3, h_asg4, h_augN, h_augN1, h_augN2, h_augN3, h_mu_append, h_mu_clear, h_mu_extend, h_mu_insert, h_mu1, h_mu2, h_mu3, h_ex1, h_ret, h_ret1, h_if, h_if1, h_ift, h_iff, h_for, h_for1, h_body, h_body1, h_cond, h_whl, h_pass, h_fn1, h_fn2, b_nm, b_tp, b_all0, b_all, w_0, w_1, tt_non, tt_bl, tt_int, tt_tup, tt_lst, tt_dct, o_add, o_adds, o_addt, o_addl, o_sub, o_mul, o_mull, o_mult, o_fdiv, o_mod, o_pow, i_tup, i_lst, i_str, i_dct, i_dci, sl_tup, sl_lst', sl_str, mu_app, mu_clr, mu_ext, mu_ins, isN_non, notN_non, tb_some, tof_some, Option.map_some, Option.map_none, List.map_cons, List.map_nil, List.length_cons, List.length_nil, List.replicate_succ, List.replicate_zero, List.cons_append, List.nil_append, Nat.add_sub_cancel, Nat.sub_self, Nat.zero_add, Nat.reduceAdd, Nat.reduceSub, List.set_cons_zero, List.set_cons_succ, List.getElem?_cons_zero, List.getElem?_cons_succ, List.append_nil, if_true, if_false, Bool.false_eq_true, reduceIte, Bool.not_true, Bool.not_false, len_tup, len_lst, len_dct, int_int, int_bl, abs_int, tuple_lst, tuple_tup, list_lst, list_tup, sum_lst, sum_tup, all_bls, any_bls, ceq_int, cne_int, ceq_str, clt_int, cle_int, cgt_int, cge_int, List.length_map, h x hx])]
  have e : (s.map fun x => Tr.int (W x)) = (s.map W).map .int := by rw [List.map_map]; rfl
  rw [e]
  simp only [h_bin, h_bin1, h_bin2, h_cmp, h_cmp1, h_cmp2, h_neg, h_neg1, h_nt, h_nt1, h_nt2, h_and, h_and1, h_andt, h_andf, h_or, h_or1, h_ort, h_orf, h_isn, h_isn1, h_isn2, h_ch, h_ch1, h_ch2, h_ch3, h_ch4, h_ite, h_ite1, h_itet, h_itef, h_tup, h_tup1, h_lst, h_lst1, h_idx, h_idx1, h_idx2, h_sl, h_sl1, h_sl2, h_sl3, h_call, h_call1, h_bi, h_bi1, h_me, h_me1, h_me2, h_me3, h_me4, h_lc, h_lc1, h_tn, h_tn1, h_tn2, h_tn3, h_tn4, h_nil, h_cons, h_cons1, h_cons2, h_star, h_star1, h_star2, h_star3, h_o0, h_o1, h_o2, h_c0, h_c1, h_c2, h_seq, h_seq1, h_seq2, h_seq3, h_r1, h_r11, h_r2, h_r21, h_r22, h_zip, h_zip1, h_zip2, h_zip3, h_enum, h_enum1, h_var, h_var1, h_int, h_str, h_bl, h_non, h_glo, h_done, h_then, h_then1, h_then2, h_asg, h_asg1, h_asg2, h_asg3, h_asg4, h_augN, h_augN1, h_augN2, h_augN3, h_mu_append, h_mu_clear, h_mu_extend, h_mu_insert, h_mu1, h_mu2, h_mu3, h_ex1, h_ret, h_ret1, h_if, h_if1, h_ift, h_iff, h_for, h_for1, h_body, h_body1, h_cond, h_whl, h_pass, h_fn1, h_fn2, b_nm, b_tp, b_all0, b_all, w_0, w_1, tt_non, tt_bl, tt_int, tt_tup, tt_lst, tt_dct, o_add, o_adds, o_addt, o_addl, o_sub, o_mul, o_mull, o_mult, o_fdiv, o_mod, o_pow, i_tup, i_lst, i_str, i_dct, i_dci, sl_tup, sl_lst', sl_str, mu_app, mu_clr, mu_ext, mu_ins, isN_non, notN_non, tb_some, tof_some, Option.map_some, Option.map_none, List.map_cons, List.map_nil, List.length_cons, List.length_nil, List.replicate_succ, List.replicate_zero, List.cons_append, List.nil_append, Nat.add_sub_cancel, Nat.sub_self, Nat.zero_add, Nat.reduceAdd, Nat.reduceSub, List.set_cons_zero, List.set_cons_succ, List.getElem?_cons_zero, List.getElem?_cons_succ, List.append_nil, if_true, if_false, Bool.false_eq_true, reduceIte, Bool.not_true, Bool.not_false, len_tup, len_lst, len_dct, int_int, int_bl, abs_int, tuple_lst, tuple_tup, list_lst, list_tup, sum_lst, sum_tup, all_bls, any_bls, ceq_int, cne_int, ceq_str, clt_int, cle_int, cgt_int, cge_int, List.length_map, if_pos (mem_lim (show s.length ≤ 16777216 by omega))]
end
theorem sum_map_add {α : Type} (f h : α → Int) : ∀ l : List α, (l.map fun x => f x + h x).sum = (l.map f).sum + (l.map h).sum
  | [] => rfl
  | x :: l => by simp only [List.map_cons, List.sum_cons, sum_map_add f h l]; omega
theorem sum_map_sub {α : Type} (f h : α → Int) : ∀ l : List α, (l.map fun x => f x - h x).sum = (l.map f).sum - (l.map h).sum
  | [] => rfl
  | x :: l => by simp only [List.map_cons, List.sum_cons, sum_map_sub f h l]; omega
theorem sum_map_zero {α : Type} (f : α → Int) : ∀ l : List α, (∀ x ∈ l, f x = 0) → (l.map f).sum = 0
  | [], _ => rfl
  | x :: l, h => by rw [List.map_cons, List.sum_cons, h x List.mem_cons_self, sum_map_zero f l fun y hy => h y (List.mem_cons_of_mem _ hy)]; rfl
theorem sum_one (W : Str → Int) {y : Str} : ∀ {l : List Str}, l.Nodup → y ∈ l → (l.map fun x => (if (y == x) = true then (1 : Int) else 0) * W x).sum = W y
  | [], _, h => by cases h
  | x :: l, nd, h => by
    rw [List.nodup_cons] at nd
    rw [List.map_cons, List.sum_cons]
    by_cases e : y = x
    · subst e
      rw [if_pos (beq_self_eq_true y), sum_map_zero]
      · omega
      · intro z hz
        rw [if_neg (by rw [beq_iff_eq]; rintro rfl; exact nd.1 hz), Int.zero_mul]
    · rcases List.mem_cons.mp h with z | z
      · exact absurd z e
      · rw [if_neg (by rw [beq_iff_eq]; exact e), Int.zero_mul, sum_one W nd.2 z]; omega
theorem sum_count (W : Str → Int) {l : List Str} (nd : l.Nodup) : ∀ {a : List Str}, (∀ x ∈ a, x ∈ l) → (l.map fun x => ((a.count x : Nat) : Int) * W x).sum = (a.map W).sum
  | [], _ => by
    rw [sum_map_zero]
    · rfl
    · intro x _; simp
  | y :: a, h => by
    have e : (l.map fun x => (((y :: a).count x : Nat) : Int) * W x) = l.map fun x => ((a.count x : Nat) : Int) * W x + (if (y == x) = true then (1 : Int) else 0) * W x := by
      apply List.map_congr_left
      intro x _
      rw [List.count_cons, ← Int.add_mul]
      congr 1
      split <;> simp
    rw [e, sum_map_add, sum_count W nd fun x hx => h x (List.mem_cons_of_mem _ hx), sum_one W nd (h y List.mem_cons_self), List.map_cons, List.sum_cons]
    omega
theorem dot_rowOf (W : Str → Int) {l a b : List Str} (nd : l.Nodup) (ha : ∀ x ∈ a, x ∈ l) (hb : ∀ x ∈ b, x ∈ l) : vDot (rowOf l a b) (l.map W) = (a.map W).sum - (b.map W).sum := by
  unfold vDot rowOf
  rw [← sum_count W nd ha, ← sum_count W nd hb, ← sum_map_sub]
  congr 1
  rw [List.zip_map', List.map_map]
  apply List.map_congr_left
  intro x _
  simp only [Function.comp]
  rw [Int.sub_mul]
theorem sum_rowOf {l a b : List Str} (nd : l.Nodup) (ha : ∀ x ∈ a, x ∈ l) (hb : ∀ x ∈ b, x ∈ l) : (rowOf l a b).sum = (a.length : Int) - (b.length : Int) := by
  have h := dot_rowOf (fun _ => 1) nd ha hb
  have e : ∀ s : List Str, (s.map fun _ => (1 : Int)).sum = s.length := fun s => by induction s with
    | nil => rfl
    | cons x s ih => rw [List.map_cons, List.sum_cons, ih, List.length_cons]; omega
  rw [e, e] at h
  rw [← h]
  unfold vDot rowOf
  rw [List.zip_map', List.map_map]
  congr 1
  apply List.map_congr_left
  intro x _
  simp
end A46
end
section
namespace A46.K13
open PySem (Str PyData)
def f__law_drawn_row : Fn :=
  ⟨["_law_bag_here", "_law_many"], ["_law_bag_here", "_law_many", "_law_top", "_law_k"], (.cons (.asg (.tg (.nm 2)) (.idx (.lst (.cons (.con (.int 3)) (.cons (.con (.int 30)) (.cons (.bin .pow (.con (.int 10)) (.con (.int 39))) .nil)))) (.call "_law_take" (.cons (.var 0) (.cons (.con (.int 3)) .nil)))))
  (.cons (.ret (.bi .tuple (.cons (.lc (.range1 (.var 1)) (.nm 3) .none (.bin .mul (.call "_law_take" (.cons (.var 0) (.cons (.bin .add (.var 2) (.con (.int 1))) .nil))) (.bin .sub (.con (.int 1)) (.bin .mul (.con (.int 2)) (.call "_law_take" (.cons (.var 0) (.cons (.con (.int 2)) .nil)))))) [3]) .nil))) .nil))⟩
def f__law_pair_right : Fn :=
  ⟨["_law_bag_here", "_law_things_here"], ["_law_bag_here", "_law_things_here", "_law_pair_here", "_law_due", "_law_row_here", "_law_worths_here", "_law_name"], (.cons (.asg (.tg (.nm 2)) (.call "_law_pair" (.cons (.var 0) (.cons (.var 1) .nil))))
  (.cons (.asg (.tg (.tp [4, 5])) (.tup (.cons (.call "row_of" (.cons (.var 1) (.cons (.var 2) .nil))) (.cons (.call "_law_worths" (.cons (.var 0) (.cons (.var 1) (.cons (.neg (.con (.int 9))) (.cons (.con (.int 9)) .nil))))) .nil))))
  (.cons (.ite (.or (.nt (.call "_law_alike" (.cons (.var 4) (.cons (.call "_law_row" (.cons (.var 1) (.cons (.var 2) .nil))) .nil)))) (.nt (.call "_law_alike" (.cons (.call "is_balanced" (.cons (.var 4) .nil)) (.cons (.cmp .eq (.bi .len (.cons (.idx (.var 2) (.con (.int 0))) .nil)) (.bi .len (.cons (.idx (.var 2) (.con (.int 1))) .nil))) .nil))))) (.cons (.ret (.con (.bl false))) .nil) (.nil))
  (.cons (.asg (.tg (.nm 3)) (.bin .sub (.call "_law_worth" (.cons (.var 5) (.cons (.idx (.var 2) (.con (.int 0))) .nil))) (.call "_law_worth" (.cons (.var 5) (.cons (.idx (.var 2) (.con (.int 1))) .nil)))))
  (.cons (.ret (.cmp .eq (.call "dot" (.cons (.var 4) (.cons (.bi .tuple (.cons (.lc (.seq (.var 1)) (.nm 6) .none (.idx (.var 5) (.var 6)) [6]) .nil)) .nil))) (.var 3))) .nil)))))⟩
def f__law_rows_right : Fn :=
  ⟨["_law_bag_here", "_law_many"], ["_law_bag_here", "_law_many", "_law_found", "_law_due", "_law_rows", "_law_numbers", "_law_handed", "_law_one_here", "_law_other", "_law_number", "_law_k", "_law_row_here", "_law_part"], (.cons (.asg (.tg (.tp [7, 8, 9])) (.tup (.cons (.call "_law_drawn_row" (.cons (.var 0) (.cons (.var 1) .nil))) (.cons (.call "_law_drawn_row" (.cons (.var 0) (.cons (.var 1) .nil))) (.cons (.bin .sub (.call "_law_take" (.cons (.var 0) (.cons (.con (.int 41)) .nil))) (.con (.int 20))) .nil)))))
  (.cons (.asg (.tg (.nm 2)) (.lst (.cons (.call "added" (.cons (.var 7) (.cons (.var 8) .nil))) (.cons (.call "taken" (.cons (.var 7) (.cons (.var 8) .nil))) (.cons (.call "times" (.cons (.var 7) (.cons (.var 9) .nil))) (.cons (.call "dot" (.cons (.var 7) (.cons (.var 8) .nil))) (.cons (.call "is_balanced" (.cons (.var 7) .nil)) .nil)))))))
  (.cons (.asg (.tg (.nm 3)) (.lst (.cons (.bi .tuple (.cons (.lc (.range1 (.var 1)) (.nm 10) .none (.bin .add (.idx (.var 7) (.var 10)) (.idx (.var 8) (.var 10))) [10]) .nil)) (.cons (.bi .tuple (.cons (.lc (.range1 (.var 1)) (.nm 10) .none (.bin .sub (.idx (.var 7) (.var 10)) (.idx (.var 8) (.var 10))) [10]) .nil)) .nil))))
  (.cons (.asg (.tg (.nm 3)) (.bin .add (.var 3) (.lst (.cons (.bi .tuple (.cons (.lc (.seq (.var 7)) (.nm 12) .none (.bin .mul (.var 9) (.var 12)) [12]) .nil)) (.cons (.call "_law_dot" (.cons (.var 7) (.cons (.var 8) .nil))) (.cons (.cmp .eq (.bi .sum (.cons (.var 7) .nil)) (.con (.int 0))) .nil))))))
  (.cons (.ite (.nt (.call "_law_alike" (.cons (.var 2) (.cons (.var 3) .nil)))) (.cons (.ret (.con (.bl false))) .nil) (.nil))
  (.cons (.asg (.tg (.nm 4)) (.lc (.range1 (.call "_law_take" (.cons (.var 0) (.cons (.con (.int 9)) .nil)))) (.nm 10) .none (.call "_law_drawn_row" (.cons (.var 0) (.cons (.var 1) .nil))) [10]))
  (.cons (.asg (.tg (.nm 5)) (.lc (.seq (.var 4)) (.nm 11) .none (.bin .sub (.call "_law_take" (.cons (.var 0) (.cons (.con (.int 21)) .nil))) (.con (.int 10))) [11]))
  (.cons (.asg (.tg (.nm 6)) (.lst (.cons (.bi .list (.cons (.var 4) .nil)) (.cons (.bi .list (.cons (.var 5) .nil)) .nil))))
  (.cons (.ite (.nt (.call "_law_alike" (.cons (.call "mixture" (.cons (.idx (.var 6) (.con (.int 0))) (.cons (.idx (.var 6) (.con (.int 1))) (.cons (.var 1) .nil)))) (.cons (.call "_law_mixture" (.cons (.var 4) (.cons (.var 5) (.cons (.var 1) .nil)))) .nil)))) (.cons (.ret (.con (.bl false))) .nil) (.nil))
  (.cons (.ret (.cmp .eq (.var 6) (.lst (.cons (.var 4) (.cons (.var 5) .nil))))) .nil))))))))))⟩
def f_law : Fn :=
  ⟨["_law_script"], ["_law_script", "_law_bag_here", "_law_turn", "_law_things_here", "_law_k"], (.cons (.asg (.tg (.nm 1)) (.call "_law_bag" (.cons (.var 0) .nil)))
  (.cons (.for_ (.range1 (.con (.int 4))) (.nm 2) (.cons (.asg (.tg (.nm 3)) (.call "_law_things" (.cons (.var 1) (.cons (.call "_law_take" (.cons (.var 1) (.cons (.con (.int 7)) .nil))) .nil))))
    (.cons (.for_ (.range1 (.con (.int 4))) (.nm 4) (.cons (.ite (.or (.nt (.call "_law_pair_right" (.cons (.var 1) (.cons (.var 3) .nil)))) (.nt (.call "_law_rows_right" (.cons (.var 1) (.cons (.call "_law_take" (.cons (.var 1) (.cons (.con (.int 7)) .nil))) .nil))))) (.cons (.ret (.con (.bl false))) .nil) (.nil)) .nil)) .nil)))
  (.cons (.ret (.con (.bl true))) .nil)))⟩
def T : List (Str × Fn) := [("row_of", f_row_of), ("added", f_added), ("taken", f_taken), ("times", f_times), ("mixture", f_mixture), ("dot", f_dot), ("is_balanced", f_is_balanced), ("_law_bag", bagFn), ("_law_take", f__law_take), ("_law_alike", f__law_alike), ("_law_one", f__law_one), ("_law_things", f__law_things), ("_law_sum", f__law_sum), ("_law_pair", f__law_pair), ("_law_row", f__law_row), ("_law_dot", f__law_dot), ("_law_mixture", f__law_mixture), ("_law_worths", f__law_worths), ("_law_worth", ⟨["_law_worths_here", "_law_one_here"], ["_law_worths_here", "_law_one_here", "_law_name"], f__law_worth.body⟩), ("_law_drawn_row", f__law_drawn_row), ("_law_pair_right", f__law_pair_right), ("_law_rows_right", f__law_rows_right), ("law", f_law)]
def FR : List Str := frOf T
instance : Has FR T "row_of" f_row_of := ⟨⟨f_row_of, by rfl, by decide +kernel, ⟨rfl, rfl, rfl⟩⟩, by decide⟩
instance : Has FR T "added" f_added := ⟨⟨f_added, by rfl, by decide +kernel, ⟨rfl, rfl, rfl⟩⟩, by decide⟩
instance : Has FR T "taken" f_taken := ⟨⟨f_taken, by rfl, by decide +kernel, ⟨rfl, rfl, rfl⟩⟩, by decide⟩
instance : Has FR T "times" f_times := ⟨⟨f_times, by rfl, by decide +kernel, ⟨rfl, rfl, rfl⟩⟩, by decide⟩
instance : Has FR T "mixture" f_mixture := ⟨⟨f_mixture, by rfl, by decide +kernel, ⟨rfl, rfl, rfl⟩⟩, by decide⟩
instance : Has FR T "dot" f_dot := ⟨⟨f_dot, by rfl, by decide +kernel, ⟨rfl, rfl, rfl⟩⟩, by decide⟩
instance : Has FR T "is_balanced" f_is_balanced := ⟨⟨f_is_balanced, by rfl, by decide +kernel, ⟨rfl, rfl, rfl⟩⟩, by decide⟩
instance : Has FR T "_law_alike" f__law_alike := ⟨⟨f__law_alike, by rfl, by decide +kernel, ⟨rfl, rfl, rfl⟩⟩, by decide⟩
instance : Has FR T "_law_one" f__law_one := ⟨⟨f__law_one, by rfl, by decide +kernel, ⟨rfl, rfl, rfl⟩⟩, by decide⟩
instance : Has FR T "_law_things" f__law_things := ⟨⟨f__law_things, by rfl, by decide +kernel, ⟨rfl, rfl, rfl⟩⟩, by decide⟩
instance : Has FR T "_law_sum" f__law_sum := ⟨⟨f__law_sum, by rfl, by decide +kernel, ⟨rfl, rfl, rfl⟩⟩, by decide⟩
instance : Has FR T "_law_pair" f__law_pair := ⟨⟨f__law_pair, by rfl, by decide +kernel, ⟨rfl, rfl, rfl⟩⟩, by decide⟩
instance : Has FR T "_law_row" f__law_row := ⟨⟨f__law_row, by rfl, by decide +kernel, ⟨rfl, rfl, rfl⟩⟩, by decide⟩
instance : Has FR T "_law_dot" f__law_dot := ⟨⟨f__law_dot, by rfl, by decide +kernel, ⟨rfl, rfl, rfl⟩⟩, by decide⟩
instance : Has FR T "_law_mixture" f__law_mixture := ⟨⟨f__law_mixture, by rfl, by decide +kernel, ⟨rfl, rfl, rfl⟩⟩, by decide⟩
instance : Has FR T "_law_worths" f__law_worths := ⟨⟨f__law_worths, by rfl, by decide +kernel, ⟨rfl, rfl, rfl⟩⟩, by decide⟩
instance : Has FR T "_law_worth" f__law_worth := ⟨⟨⟨["_law_worths_here", "_law_one_here"], ["_law_worths_here", "_law_one_here", "_law_name"], f__law_worth.body⟩, by rfl, by decide +kernel, ⟨rfl, rfl, rfl⟩⟩, by decide⟩
instance : Has FR T "_law_drawn_row" f__law_drawn_row := ⟨⟨f__law_drawn_row, by rfl, by decide +kernel, ⟨rfl, rfl, rfl⟩⟩, by decide⟩
instance : Has FR T "_law_pair_right" f__law_pair_right := ⟨⟨f__law_pair_right, by rfl, by decide +kernel, ⟨rfl, rfl, rfl⟩⟩, by decide⟩
instance : Has FR T "_law_rows_right" f__law_rows_right := ⟨⟨f__law_rows_right, by rfl, by decide +kernel, ⟨rfl, rfl, rfl⟩⟩, by decide⟩
end A46.K13
end
section
namespace A46.K13
open PySem (Str PyData)
abbrev GT : Str → Option Tr := fun _ => none
abbrev fuel : Nat := 100
abbrev F (d : Nat) : TF := trun FR GT T fuel d
def big : Int := 1000000000000000000000000000000000000000
theorem log_nat {i : Int} {k : Nat} (h : i.natAbs < 2 ^ k) (hk : 0 < k) : i.natAbs.log2 < k := by
  by_cases h0 : i.natAbs = 0
  · rw [h0]; exact hk
  · exact (Nat.log2_lt h0).mpr h
theorem mul_of {i j : Int} (hi : i.natAbs ≤ 1000000000000000000000000000000000000000) (hj : j.natAbs ≤ 1000000000000000000000000000000000000000) : mulOk i j = true := by
  unfold mulOk
  rw [Bool.or_eq_true]
  right
  rw [decide_eq_true_eq]
  have h1 := log_nat (i := i) (k := 200) (Nat.lt_of_le_of_lt hi (by decide)) (by decide)
  have h2 := log_nat (i := j) (k := 200) (Nat.lt_of_le_of_lt hj (by decide)) (by decide)
  omega
theorem drawn_row {n : Nat} (hn : n ≤ 6) (g : Bg) (d : Nat) : ∃ (xs : List Int) (g' : Bg), F (d + 2) "_law_drawn_row" [.bag, .int n] g = some (rowT xs, g') ∧ xs.length = n ∧ ∀ x ∈ xs, x.natAbs ≤ 1000000000000000000000000000000000000000 := by
  rw [F, trun_eq (f := "_law_drawn_row") (by rfl)]
  unfold f__law_drawn_row
  obtain ⟨x, g1, h1, hx⟩ := draw (FR := FR) (G := GT) (T := T) (fuel := fuel) (d := d) g (m := 3) (by decide) (by decide)
  have e10 : (10 : Int) ^ (39 : Int).toNat = 1000000000000000000000000000000000000000 := by decide
  obtain ⟨m, hp, hm0, hm1⟩ : ∃ m : Int, pick [Tr.int 3, Tr.int 30, Tr.int 1000000000000000000000000000000000000000] (x : Int) = some (.int m) ∧ 0 ≤ m ∧ m ≤ 1000000000000000000000000000000000000000 := by
    have : x = 0 ∨ x = 1 ∨ x = 2 := by omega
    rcases this with rfl | rfl | rfl
    · exact ⟨3, rfl, by decide, by decide⟩
    · exact ⟨30, rfl, by decide, by decide⟩
    · exact ⟨1000000000000000000000000000000000000000, rfl, by decide, by decide⟩
  simp only [h_bin, h_bin1, h_bin2, h_cmp, h_cmp1, h_cmp2, h_neg, h_neg1, h_nt, h_nt1, h_nt2, h_and, h_and1, h_andt, h_andf, h_or, h_or1, h_ort, h_orf, h_isn, h_isn1, h_isn2, h_ch, h_ch1, h_ch2, h_ch3, h_ch4, h_ite, h_ite1, h_itet, h_itef, h_tup, h_tup1, h_lst, h_lst1, h_idx, h_idx1, h_idx2, h_sl, h_sl1, h_sl2, h_sl3, h_call, h_call1, h_bi, h_bi1, h_me, h_me1, h_me2, h_me3, h_me4, h_lc, h_lc1, h_tn, h_tn1, h_tn2, h_tn3, h_tn4, h_nil, h_cons, h_cons1, h_cons2, h_star, h_star1, h_star2, h_star3, h_o0, h_o1, h_o2, h_c0, h_c1, h_c2, h_seq, h_seq1, h_seq2, h_seq3, h_r1, h_r11, h_r2, h_r21, h_r22, h_zip, h_zip1, h_zip2, h_zip3, h_enum, h_enum1, h_var, h_var1, h_int, h_str, h_bl, h_non, h_glo, h_done, h_then, h_then1, h_then2, h_asg, h_asg1, h_asg2, h_asg3, h_asg4, h_augN, h_augN1, h_augN2, h_augN3, h_mu_append, h_mu_clear, h_mu_extend, h_mu_insert, h_mu1, h_mu2, h_mu3, h_ex1, h_ret, h_ret1, h_if, h_if1, h_ift, h_iff, h_for, h_for1, h_body, h_body1, h_cond, h_whl, h_pass, h_fn1, h_fn2, b_nm, b_tp, b_all0, b_all, w_0, w_1, tt_non, tt_bl, tt_int, tt_tup, tt_lst, tt_dct, o_add, o_adds, o_addt, o_addl, o_sub, o_mul, o_mull, o_mult, o_fdiv, o_mod, o_pow, i_tup, i_lst, i_str, i_dct, i_dci, sl_tup, sl_lst', sl_str, mu_app, mu_clr, mu_ext, mu_ins, isN_non, notN_non, tb_some, tof_some, Option.map_some, Option.map_none, List.map_cons, List.map_nil, List.length_cons, List.length_nil, List.replicate_succ, List.replicate_zero, List.cons_append, List.nil_append, Nat.add_sub_cancel, Nat.sub_self, Nat.zero_add, Nat.reduceAdd, Nat.reduceSub, List.set_cons_zero, List.set_cons_succ, List.getElem?_cons_zero, List.getElem?_cons_succ, List.append_nil, if_true, if_false, Bool.false_eq_true, reduceIte, Bool.not_true, Bool.not_false, len_tup, len_lst, len_dct, int_int, int_bl, abs_int, tuple_lst, tuple_tup, list_lst, list_tup, sum_lst, sum_tup, all_bls, any_bls, ceq_int, cne_int, ceq_str, clt_int, cle_int, cgt_int, cge_int, List.length_map, h1, show (decide ((0 : Int) ≤ 39) && decide ((39 : Int) ≤ 1000000) && decide ((10 : Int).natAbs < 2 ^ 64)) = true by decide, e10, if_pos (show 3 ≤ lim by decide), hp, trangeOf1 (show n < 2 ^ 62 by omega)]
  obtain ⟨ys, g', k1, k2, k3⟩ := turns_draw (step := turnOf GT (trun FR GT T fuel (d + 1)) (Tg.nm 3) Exo.none (Ex.bin Bo.mul (Ex.call "_law_take" (Exs.cons (Ex.var 0) (Exs.cons (Ex.bin Bo.add (Ex.var 2) (Ex.con (Val.int 1))) Exs.nil))) (Ex.bin Bo.sub (Ex.con (Val.int 1)) (Ex.bin Bo.mul (Ex.con (Val.int 2)) (Ex.call "_law_take" (Exs.cons (Ex.var 0) (Exs.cons (Ex.con (Val.int 2)) Exs.nil)))))) [3] [some Tr.bag, some (Tr.int n), some (Tr.int m), none]) (fun i : Nat => Tr.int i) Tr.int (fun _ y => y.natAbs ≤ 1000000000000000000000000000000000000000) (List.range n) g1 (fun i _ g => by
    obtain ⟨y, g2, q1, q2⟩ := draw (FR := FR) (G := GT) (T := T) (fuel := fuel) (d := d) g (m := m + 1) (by omega) (by omega)
    obtain ⟨z, g3, q3, q4⟩ := draw (FR := FR) (G := GT) (T := T) (fuel := fuel) (d := d) g2 (m := 2) (by decide) (by decide)
    refine ⟨(y : Int) * (1 - 2 * (z : Int)), g3, ?_, ?_⟩
    · simp only [h_bin, h_bin1, h_bin2, h_cmp, h_cmp1, h_cmp2, h_neg, h_neg1, h_nt, h_nt1, h_nt2, h_and, h_and1, h_andt, h_andf, h_or, h_or1, h_ort, h_orf, h_isn, h_isn1, h_isn2, h_ch, h_ch1, h_ch2, h_ch3, h_ch4, h_ite, h_ite1, h_itet, h_itef, h_tup, h_tup1, h_lst, h_lst1, h_idx, h_idx1, h_idx2, h_sl, h_sl1, h_sl2, h_sl3, h_call, h_call1, h_bi, h_bi1, h_me, h_me1, h_me2, h_me3, h_me4, h_lc, h_lc1, h_tn, h_tn1, h_tn2, h_tn3, h_tn4, h_nil, h_cons, h_cons1, h_cons2, h_star, h_star1, h_star2, h_star3, h_o0, h_o1, h_o2, h_c0, h_c1, h_c2, h_seq, h_seq1, h_seq2, h_seq3, h_r1, h_r11, h_r2, h_r21, h_r22, h_zip, h_zip1, h_zip2, h_zip3, h_enum, h_enum1, h_var, h_var1, h_int, h_str, h_bl, h_non, h_glo, h_done, h_then, h_then1, h_then2, h_asg, h_asg1, h_asg2, h_asg3, h_asg4, h_augN, h_augN1, h_augN2, h_augN3, h_mu_append, h_mu_clear, h_mu_extend, h_mu_insert, h_mu1, h_mu2, h_mu3, h_ex1, h_ret, h_ret1, h_if, h_if1, h_ift, h_iff, h_for, h_for1, h_body, h_body1, h_cond, h_whl, h_pass, h_fn1, h_fn2, b_nm, b_tp, b_all0, b_all, w_0, w_1, tt_non, tt_bl, tt_int, tt_tup, tt_lst, tt_dct, o_add, o_adds, o_addt, o_addl, o_sub, o_mul, o_mull, o_mult, o_fdiv, o_mod, o_pow, i_tup, i_lst, i_str, i_dct, i_dci, sl_tup, sl_lst', sl_str, mu_app, mu_clr, mu_ext, mu_ins, isN_non, notN_non, tb_some, tof_some, Option.map_some, Option.map_none, List.map_cons, List.map_nil, List.length_cons, List.length_nil, List.replicate_succ, List.replicate_zero, List.cons_append, List.nil_append, Nat.add_sub_cancel, Nat.sub_self, Nat.zero_add, Nat.reduceAdd, Nat.reduceSub, List.set_cons_zero, List.set_cons_succ, List.getElem?_cons_zero, List.getElem?_cons_succ, List.append_nil, if_true, if_false, Bool.false_eq_true, reduceIte, Bool.not_true, Bool.not_false, len_tup, len_lst, len_dct, int_int, int_bl, abs_int, tuple_lst, tuple_tup, list_lst, list_tup, sum_lst, sum_tup, all_bls, any_bls, ceq_int, cne_int, ceq_str, clt_int, cle_int, cgt_int, cge_int, List.length_map, q1, q3, mulD (i := 2) (j := (z : Int)) (by decide), mulC (i := (y : Int)) (j := 1 - 2 * (z : Int)) (by omega)]
    · have : z = 0 ∨ z = 1 := by omega
      rcases this with rfl | rfl <;> omega)
  rw [k1]
  rw [List.length_range] at k2
  simp only [h_bin, h_bin1, h_bin2, h_cmp, h_cmp1, h_cmp2, h_neg, h_neg1, h_nt, h_nt1, h_nt2, h_and, h_and1, h_andt, h_andf, h_or, h_or1, h_ort, h_orf, h_isn, h_isn1, h_isn2, h_ch, h_ch1, h_ch2, h_ch3, h_ch4, h_ite, h_ite1, h_itet, h_itef, h_tup, h_tup1, h_lst, h_lst1, h_idx, h_idx1, h_idx2, h_sl, h_sl1, h_sl2, h_sl3, h_call, h_call1, h_bi, h_bi1, h_me, h_me1, h_me2, h_me3, h_me4, h_lc, h_lc1, h_tn, h_tn1, h_tn2, h_tn3, h_tn4, h_nil, h_cons, h_cons1, h_cons2, h_star, h_star1, h_star2, h_star3, h_o0, h_o1, h_o2, h_c0, h_c1, h_c2, h_seq, h_seq1, h_seq2, h_seq3, h_r1, h_r11, h_r2, h_r21, h_r22, h_zip, h_zip1, h_zip2, h_zip3, h_enum, h_enum1, h_var, h_var1, h_int, h_str, h_bl, h_non, h_glo, h_done, h_then, h_then1, h_then2, h_asg, h_asg1, h_asg2, h_asg3, h_asg4, h_augN, h_augN1, h_augN2, h_augN3, h_mu_append, h_mu_clear, h_mu_extend, h_mu_insert, h_mu1, h_mu2, h_mu3, h_ex1, h_ret, h_ret1, h_if, h_if1, h_ift, h_iff, h_for, h_for1, h_body, h_body1, h_cond, h_whl, h_pass, h_fn1, h_fn2, b_nm, b_tp, b_all0, b_all, w_0, w_1, tt_non, tt_bl, tt_int, tt_tup, tt_lst, tt_dct, o_add, o_adds, o_addt, o_addl, o_sub, o_mul, o_mull, o_mult, o_fdiv, o_mod, o_pow, i_tup, i_lst, i_str, i_dct, i_dci, sl_tup, sl_lst', sl_str, mu_app, mu_clr, mu_ext, mu_ins, isN_non, notN_non, tb_some, tof_some, Option.map_some, Option.map_none, List.map_cons, List.map_nil, List.length_cons, List.length_nil, List.replicate_succ, List.replicate_zero, List.cons_append, List.nil_append, Nat.add_sub_cancel, Nat.sub_self, Nat.zero_add, Nat.reduceAdd, Nat.reduceSub, List.set_cons_zero, List.set_cons_succ, List.getElem?_cons_zero, List.getElem?_cons_succ, List.append_nil, if_true, if_false, Bool.false_eq_true, reduceIte, Bool.not_true, Bool.not_false, len_tup, len_lst, len_dct, int_int, int_bl, abs_int, tuple_lst, tuple_tup, list_lst, list_tup, sum_lst, sum_tup, all_bls, any_bls, ceq_int, cne_int, ceq_str, clt_int, cle_int, cgt_int, cge_int, List.length_map, k2, if_pos (mem_lim (show n ≤ 16777216 by omega))]
  refine ⟨ys, g', rfl, k2, fun y hy => ?_⟩
  obtain ⟨i, hi, rfl⟩ := List.getElem_of_mem hy
  exact k3 i i _ (by rw [List.getElem?_range (by omega)]) (List.getElem?_eq_getElem hi)
theorem pair_right {l : List Str} (hl : Things l) (g : Bg) (d : Nat) : ∃ g', F (d + 5) "_law_pair_right" [.bag, strsT l] g = some (.bl true, g') := by
  rw [F, trun_eq (f := "_law_pair_right") (by rfl)]
  unfold f__law_pair_right
  have l6 := hl.len
  obtain ⟨a, b, g1, h1, ha, hb⟩ := pair_t (FR := FR) (G := GT) (T := T) (fuel := fuel) (d := d) hl g
  obtain ⟨ps, W, g2, h2, _, _, hW⟩ := worths_t (FR := FR) (G := GT) (T := T) (fuel := fuel) (d := d + 2) (l := l) (by omega) (lo := -9) (hi := 9) (by decide) (by decide) g1
  have hr : (rowOf l a b).length = l.length := by simp [rowOf]
  have la := ha.len
  have lb := hb.len
  have ca : ∀ x, a.count x ≤ 3 := fun x => Nat.le_trans List.count_le_length la
  have cb : ∀ x, b.count x ≤ 3 := fun x => Nat.le_trans List.count_le_length lb
  have ent : ∀ x ∈ rowOf l a b, x.natAbs ≤ 3 := fun x hx => by
    obtain ⟨y, _, rfl⟩ := List.mem_map.mp hx
    have := ca y
    have := cb y
    omega
  have ok1 : Okt 11 (6 * 11) 1 (rowT (rowOf l a b)) := okt_tup (w := 10) (d := 0) (fun t ht => by
    obtain ⟨x, hx, rfl⟩ := List.mem_map.mp ht
    exact okt_int (log_nat (Nat.lt_of_le_of_lt (ent x hx) (by decide)) (by decide)) (by decide) (by decide)) (by rw [List.length_map, hr]; exact l6)
  have e2 : ((rowOf l a b).sum == 0) = (((a.length : Nat) : Int) == ((b.length : Nat) : Int)) := by
    rw [sum_rowOf hl.nd ha.mem hb.mem]
    cases e : (((a.length : Nat) : Int) == ((b.length : Nat) : Int)) with
    | true => rw [beq_iff_eq] at e ⊢; omega
    | false => rw [beq_eq_false_iff_ne] at e ⊢; omega
  have p0 : pick [strsT a, strsT b] 0 = some (strsT a) := rfl
  have p1 : pick [strsT a, strsT b] 1 = some (strsT b) := rfl
  simp only [h_bin, h_bin1, h_bin2, h_cmp, h_cmp1, h_cmp2, h_neg, h_neg1, h_nt, h_nt1, h_nt2, h_and, h_and1, h_andt, h_andf, h_or, h_or1, h_ort, h_orf, h_isn, h_isn1, h_isn2, h_ch, h_ch1, h_ch2, h_ch3, h_ch4, h_ite, h_ite1, h_itet, h_itef, h_tup, h_tup1, h_lst, h_lst1, h_idx, h_idx1, h_idx2, h_sl, h_sl1, h_sl2, h_sl3, h_call, h_call1, h_bi, h_bi1, h_me, h_me1, h_me2, h_me3, h_me4, h_lc, h_lc1, h_tn, h_tn1, h_tn2, h_tn3, h_tn4, h_nil, h_cons, h_cons1, h_cons2, h_star, h_star1, h_star2, h_star3, h_o0, h_o1, h_o2, h_c0, h_c1, h_c2, h_seq, h_seq1, h_seq2, h_seq3, h_r1, h_r11, h_r2, h_r21, h_r22, h_zip, h_zip1, h_zip2, h_zip3, h_enum, h_enum1, h_var, h_var1, h_int, h_str, h_bl, h_non, h_glo, h_done, h_then, h_then1, h_then2, h_asg, h_asg1, h_asg2, h_asg3, h_asg4, h_augN, h_augN1, h_augN2, h_augN3, h_mu_append, h_mu_clear, h_mu_extend, h_mu_insert, h_mu1, h_mu2, h_mu3, h_ex1, h_ret, h_ret1, h_if, h_if1, h_ift, h_iff, h_for, h_for1, h_body, h_body1, h_cond, h_whl, h_pass, h_fn1, h_fn2, b_nm, b_tp, b_all0, b_all, w_0, w_1, tt_non, tt_bl, tt_int, tt_tup, tt_lst, tt_dct, o_add, o_adds, o_addt, o_addl, o_sub, o_mul, o_mull, o_mult, o_fdiv, o_mod, o_pow, i_tup, i_lst, i_str, i_dct, i_dci, sl_tup, sl_lst', sl_str, mu_app, mu_clr, mu_ext, mu_ins, isN_non, notN_non, tb_some, tof_some, Option.map_some, Option.map_none, List.map_cons, List.map_nil, List.length_cons, List.length_nil, List.replicate_succ, List.replicate_zero, List.cons_append, List.nil_append, Nat.add_sub_cancel, Nat.sub_self, Nat.zero_add, Nat.reduceAdd, Nat.reduceSub, List.set_cons_zero, List.set_cons_succ, List.getElem?_cons_zero, List.getElem?_cons_succ, List.append_nil, if_true, if_false, Bool.false_eq_true, reduceIte, Bool.not_true, Bool.not_false, len_tup, len_lst, len_dct, int_int, int_bl, abs_int, tuple_lst, tuple_tup, list_lst, list_tup, sum_lst, sum_tup, all_bls, any_bls, ceq_int, cne_int, ceq_str, clt_int, cle_int, cgt_int, cge_int, List.length_map, h1, row_of_t (FR := FR) (G := GT) (T := T) (fuel := fuel) (d := d + 3) (g := g1) (l := l) (a := a) (b := b) (by omega), h2, if_pos (show 2 ≤ lim by decide),
    lrow_t (FR := FR) (G := GT) (T := T) (fuel := fuel) (d := d + 3) (g := g2) (l := l) (a := a) (b := b) (by omega), alike_t (FR := FR) (G := GT) (T := T) (fuel := fuel) (d := d + 3) (g := g2) ok1 (by decide) (by decide) (by decide),
    balanced_t (FR := FR) (G := GT) (T := T) (fuel := fuel) (d := d + 3) (g := g2) (xs := rowOf l a b), p0, p1, e2, alike_t (FR := FR) (G := GT) (T := T) (fuel := fuel) (d := d + 3) (g := g2) (B := 8) (w := 0) (k := 0) (okt_bl (b := (((a.length : Nat) : Int) == ((b.length : Nat) : Int)))) (by decide) (by decide) (by decide),
    worth_t (FR := FR) (G := GT) (T := T) (fuel := fuel) (d := d + 3) (g := g2) (D := dctOf ps) (W := W) (s := a) (by omega) (fun x hx => hW.at_ x (ha.mem x hx)), worth_t (FR := FR) (G := GT) (T := T) (fuel := fuel) (d := d + 3) (g := g2) (D := dctOf ps) (W := W) (s := b) (by omega) (fun x hx => hW.at_ x (hb.mem x hx))]
  rw [turns_each Tr.str (fun x => .int (W x)) l (fun x hx g => by simp only [h_bin, h_bin1, h_bin2, h_cmp, h_cmp1, h_cmp2, h_neg, h_neg1, h_nt, h_nt1, h_nt2, h_and, h_and1, h_andt, h_andf, h_or, h_or1, h_ort, h_orf, h_isn, h_isn1, h_isn2, h_ch, h_ch1, h_ch2, h_ch3, h_ch4, h_ite, h_ite1, h_itet, h_itef, h_tup, h_tup1, h_lst, h_lst1, h_idx, h_idx1, h_idx2, h_sl, h_sl1, h_sl2, h_sl3, h_call, h_call1, h_bi, h_bi1, h_me, h_me1, h_me2, h_me3, h_me4, h_lc, h_lc1, h_tn, h_tn1, h_tn2, h_tn3, h_tn4, h_nil, h_cons, h_cons1, h_cons2, h_star, h_star1, h_star2, h_star3, h_o0, h_o1, h_o2, h_c0, h_c1, h_c2, h_seq, h_seq1, h_seq2, h_seq3, h_r1, h_r11, h_r2, h_r21, h_r22, h_zip, h_zip1, h_zip2, h_zip3, h_enum, h_enum1, h_var, h_var1, h_int, h_str, h_bl, h_non, h_glo, h_done, h_then, h_then1, h_then2, h_asg, h_asg1, h_asg2, h_asg3, h_asg4, h_augN, h_augN1, h_augN2, h_augN3, h_mu_append, h_mu_clear, h_mu_extend, h_mu_insert, h_mu1, h_mu2, h_mu3, h_ex1, h_ret, h_ret1, h_if, h_if1, h_ift, h_iff, h_for, h_for1, h_body, h_body1, h_cond, h_whl, h_pass, h_fn1, h_fn2, b_nm, b_tp, b_all0, b_all, w_0, w_1, tt_non, tt_bl, tt_int, tt_tup, tt_lst, tt_dct, o_add, o_adds, o_addt, o_addl, o_sub, o_mul, o_mull, o_mult, o_fdiv, o_mod, o_pow, i_tup, i_lst, i_str, i_dct, i_dci, sl_tup, sl_lst', sl_str, mu_app, mu_clr, mu_ext, mu_ins, isN_non, notN_non, tb_some, tof_some, Option.map_some, Option.map_none, List.map_cons, List.map_nil, List.length_cons, List.length_nil, List.replicate_succ, List.replicate_zero, List.cons_append, List.nil_append, Nat.add_sub_cancel, Nat.sub_self, Nat.zero_add, Nat.reduceAdd, Nat.reduceSub, List.set_cons_zero, List.set_cons_succ, List.getElem?_cons_zero, List.getElem?_cons_succ, List.append_nil, if_true, if_false, Bool.false_eq_true, reduceIte, Bool.not_true, Bool.not_false, len_tup, len_lst, len_dct, int_int, int_bl, abs_int, tuple_lst, tuple_tup, list_lst, list_tup, sum_lst, sum_tup, all_bls, any_bls, ceq_int, cne_int, ceq_str, clt_int, cle_int, cgt_int, cge_int, List.length_map, hW.at_ x hx])]
  have e : (l.map fun x => Tr.int (W x)) = (l.map W).map .int := by rw [List.map_map]; rfl
  rw [e]
  simp only [h_bin, h_bin1, h_bin2, h_cmp, h_cmp1, h_cmp2, h_neg, h_neg1, h_nt, h_nt1, h_nt2, h_and, h_and1, h_andt, h_andf, h_or, h_or1, h_ort, h_orf, h_isn, h_isn1, h_isn2, h_ch, h_ch1, h_ch2, h_ch3, h_ch4, h_ite, h_ite1, h_itet, h_itef, h_tup, h_tup1, h_lst, h_lst1, h_idx, h_idx1, h_idx2, h_sl, h_sl1, h_sl2, h_sl3, h_call, h_call1, h_bi, h_bi1, h_me, h_me1, h_me2, h_me3, h_me4, h_lc, h_lc1, h_tn, h_tn1, h_tn2, h_tn3, h_tn4, h_nil, h_cons, h_cons1, h_cons2, h_star, h_star1, h_star2, h_star3, h_o0, h_o1, h_o2, h_c0, h_c1, h_c2, h_seq, h_seq1, h_seq2, h_seq3, h_r1, h_r11, h_r2, h_r21, h_r22, h_zip, h_zip1, h_zip2, h_zip3, h_enum, h_enum1, h_var, h_var1, h_int, h_str, h_bl, h_non, h_glo, h_done, h_then, h_then1, h_then2, h_asg, h_asg1, h_asg2, h_asg3, h_asg4, h_augN, h_augN1, h_augN2, h_augN3, h_mu_append, h_mu_clear, h_mu_extend, h_mu_insert, h_mu1, h_mu2, h_mu3, h_ex1, h_ret, h_ret1, h_if, h_if1, h_ift, h_iff, h_for, h_for1, h_body, h_body1, h_cond, h_whl, h_pass, h_fn1, h_fn2, b_nm, b_tp, b_all0, b_all, w_0, w_1, tt_non, tt_bl, tt_int, tt_tup, tt_lst, tt_dct, o_add, o_adds, o_addt, o_addl, o_sub, o_mul, o_mull, o_mult, o_fdiv, o_mod, o_pow, i_tup, i_lst, i_str, i_dct, i_dci, sl_tup, sl_lst', sl_str, mu_app, mu_clr, mu_ext, mu_ins, isN_non, notN_non, tb_some, tof_some, Option.map_some, Option.map_none, List.map_cons, List.map_nil, List.length_cons, List.length_nil, List.replicate_succ, List.replicate_zero, List.cons_append, List.nil_append, Nat.add_sub_cancel, Nat.sub_self, Nat.zero_add, Nat.reduceAdd, Nat.reduceSub, List.set_cons_zero, List.set_cons_succ, List.getElem?_cons_zero, List.getElem?_cons_succ, List.append_nil, if_true, if_false, Bool.false_eq_true, reduceIte, Bool.not_true, Bool.not_false, len_tup, len_lst, len_dct, int_int, int_bl, abs_int, tuple_lst, tuple_tup, list_lst, list_tup, sum_lst, sum_tup, all_bls, any_bls, ceq_int, cne_int, ceq_str, clt_int, cle_int, cgt_int, cge_int, List.length_map, if_pos (mem_lim (show l.length ≤ 16777216 by omega)), dot_t (FR := FR) (G := GT) (T := T) (fuel := fuel) (d := d + 3) (g := g2) (xs := rowOf l a b) (ys := l.map W) (by omega) (fun p hp => by
    have := ent p.1 (List.of_mem_zip hp).1
    exact mulD (by omega)), dot_rowOf W hl.nd ha.mem hb.mem, beq_self_eq_true]
  exact ⟨_, rfl⟩
theorem sum_bd {B : Nat} : ∀ {xs : List Int}, (∀ x ∈ xs, x.natAbs ≤ B) → xs.sum.natAbs ≤ xs.length * B
  | [], _ => by simp
  | x :: xs, h => by
    have h1 := h x List.mem_cons_self
    have h2 := sum_bd fun y hy => h y (List.mem_cons_of_mem _ hy)
    rw [List.sum_cons, List.length_cons, Nat.add_mul]
    omega
theorem okt_row {xs : List Int} {k : Nat} (hk : 0 < k) (hk2 : k ≤ 1920) (h : ∀ x ∈ xs, x.natAbs < 2 ^ k) (hl : xs.length ≤ 6) : Okt (k + 1) (6 * (k + 1)) 1 (rowT xs) := okt_tup (w := k) (d := 0) (fun t ht => by
    obtain ⟨x, hx, rfl⟩ := List.mem_map.mp ht
    exact okt_int (log_nat (h x hx) hk) hk hk2) (by rw [List.length_map]; exact hl)
theorem mix_bd {n : Nat} : ∀ {ps : List (List Int × Int)} {acc : List Int} {B : Nat}, (∀ x ∈ acc, x.natAbs ≤ B) → (∀ p ∈ ps, p.2.natAbs ≤ 10 ∧ ∀ x ∈ p.1, x.natAbs ≤ 1000000000000000000000000000000000000000) →
    ∀ x ∈ ps.foldl (fun acc p => vAdd acc (vMul p.2 p.1)) acc, x.natAbs ≤ B + ps.length * 10000000000000000000000000000000000000000
  | [], acc, B, h, _ => fun x hx => by
    have := h x hx
    simp only [List.length_nil]
    omega
  | p :: ps, acc, B, h, k => fun x hx => by
    rw [List.foldl_cons] at hx
    have hp := k p List.mem_cons_self
    have := mix_bd (n := n) (ps := ps) (acc := vAdd acc (vMul p.2 p.1)) (B := B + 10000000000000000000000000000000000000000) (fun y hy => by
      unfold vAdd at hy
      obtain ⟨q, hq, rfl⟩ := List.mem_map.mp hy
      have h1 := h q.1 (List.of_mem_zip hq).1
      have h2 := (List.of_mem_zip hq).2
      unfold vMul at h2
      obtain ⟨z, hz, e⟩ := List.mem_map.mp h2
      have h3 := hp.2 z hz
      have h4 : (p.2 * z).natAbs ≤ 10 * 1000000000000000000000000000000000000000 := by rw [Int.natAbs_mul]; exact Nat.mul_le_mul hp.1 h3
      rw [← e]
      omega) (fun q hq => k q (List.mem_cons_of_mem _ hq)) x hx
    rw [List.length_cons, Nat.add_mul]
    omega
theorem zip_bd {xs ys : List Int} {B : Nat} (f : Int → Int → Int) (h : ∀ x ∈ xs, ∀ y ∈ ys, (f x y).natAbs ≤ B) : ∀ z ∈ (xs.zip ys).map (fun p => f p.1 p.2), z.natAbs ≤ B := fun z hz => by
  obtain ⟨p, hp, rfl⟩ := List.mem_map.mp hz
  exact h _ (List.of_mem_zip hp).1 _ (List.of_mem_zip hp).2
theorem rows_right {n : Nat} (hn : n ≤ 6) (g : Bg) (d : Nat) : ∃ g', F (d + 5) "_law_rows_right" [.bag, .int n] g = some (.bl true, g') := by
  rw [F, trun_eq (f := "_law_rows_right") (by rfl)]
  unfold f__law_rows_right
  obtain ⟨xs, g1, h1, lx, bx⟩ := drawn_row hn g (d + 2)
  obtain ⟨ys, g2, h2, ly, by_⟩ := drawn_row hn g1 (d + 2)
  obtain ⟨m, g3, h3, hm⟩ := draw (FR := FR) (G := GT) (T := T) (fuel := fuel) (d := d + 3) g2 (m := 41) (by decide) (by decide)
  rw [F] at h1 h2
  have mz : ∀ p ∈ xs.zip ys, mulOk p.1 p.2 = true := fun p hp => mul_of (bx _ (List.of_mem_zip hp).1) (by_ _ (List.of_mem_zip hp).2)
  have mt : ∀ x ∈ xs, mulOk ((m : Int) - 20) x = true := fun x hx => mulD (by omega)
  have r1 : (List.range n).map (fun k => Tr.int (xs.getD k 0 + ys.getD k 0)) = (vAdd xs ys).map .int := by
    rw [range_zip (fun a b => Tr.int (a + b)) lx ly, vAdd, List.map_map]; rfl
  have r2 : (List.range n).map (fun k => Tr.int (xs.getD k 0 - ys.getD k 0)) = (vSub xs ys).map .int := by
    rw [range_zip (fun a b => Tr.int (a - b)) lx ly, vSub, List.map_map]; rfl
  have r3 : (xs.map fun x => Tr.int (((m : Int) - 20) * x)) = (vMul ((m : Int) - 20) xs).map .int := by
    rw [vMul, List.map_map]; rfl
  have la : (vAdd xs ys).length = n := by rw [vAdd_len]; omega
  have ls : (vSub xs ys).length = n := by rw [vSub_len]; omega
  have lm : (vMul ((m : Int) - 20) xs).length = n := by rw [vMul_len]; exact lx
  have up : ∀ {x : Int} {B : Nat}, x.natAbs ≤ B → B < 2 ^ 300 → x.natAbs < 2 ^ 300 := fun h k => Nat.lt_of_le_of_lt h k
  have ba : ∀ z ∈ vAdd xs ys, z.natAbs < 2 ^ 300 := fun z hz => up (zip_bd (B := 2000000000000000000000000000000000000000) (fun a b => a + b) (fun x hx y hy => by have := bx x hx; have := by_ y hy; omega) z hz) (by decide)
  have bs : ∀ z ∈ vSub xs ys, z.natAbs < 2 ^ 300 := fun z hz => up (zip_bd (B := 2000000000000000000000000000000000000000) (fun a b => a - b) (fun x hx y hy => by have := bx x hx; have := by_ y hy; omega) z hz) (by decide)
  have bm : ∀ z ∈ vMul ((m : Int) - 20) xs, z.natAbs < 2 ^ 300 := fun z hz => by
    obtain ⟨x, hx, rfl⟩ := List.mem_map.mp hz
    refine up (B := 20 * 1000000000000000000000000000000000000000) ?_ (by decide)
    rw [Int.natAbs_mul]
    exact Nat.mul_le_mul (by omega) (bx x hx)
  have bd : (vDot xs ys).natAbs < 2 ^ 300 := by
    refine up (B := 6 * (1000000000000000000000000000000000000000 * 1000000000000000000000000000000000000000)) ?_ (by decide)
    unfold vDot
    refine Nat.le_trans (sum_bd (zip_bd (B := 1000000000000000000000000000000000000000 * 1000000000000000000000000000000000000000) (fun a b => a * b) (fun x hx y hy => by rw [Int.natAbs_mul]; exact Nat.mul_le_mul (bx x hx) (by_ y hy)))) ?_
    refine Nat.mul_le_mul_right _ ?_
    rw [List.length_map, List.length_zip]
    omega
  have okL : Okt 301 (5 * (1806 + 1)) 2 (.lst [rowT (vAdd xs ys), rowT (vSub xs ys), rowT (vMul ((m : Int) - 20) xs), .int (vDot xs ys), .bl (xs.sum == 0)]) := okt_lst (w := 1806) (d := 1) (fun t ht => by
    simp only [List.mem_cons, List.not_mem_nil, or_false] at ht
    rcases ht with rfl | rfl | rfl | rfl | rfl
    · exact okt_row (k := 300) (by decide) (by decide) ba (by omega)
    · exact okt_row (k := 300) (by decide) (by decide) bs (by omega)
    · exact okt_row (k := 300) (by decide) (by decide) bm (by omega)
    · exact (okt_int (log_nat bd (by decide)) (by decide) (by decide)).mono (by decide) (by decide) (by decide)
    · exact okt_bl) (by simp)
  simp only [h_bin, h_bin1, h_bin2, h_cmp, h_cmp1, h_cmp2, h_neg, h_neg1, h_nt, h_nt1, h_nt2, h_and, h_and1, h_andt, h_andf, h_or, h_or1, h_ort, h_orf, h_isn, h_isn1, h_isn2, h_ch, h_ch1, h_ch2, h_ch3, h_ch4, h_ite, h_ite1, h_itet, h_itef, h_tup, h_tup1, h_lst, h_lst1, h_idx, h_idx1, h_idx2, h_sl, h_sl1, h_sl2, h_sl3, h_call, h_call1, h_bi, h_bi1, h_me, h_me1, h_me2, h_me3, h_me4, h_lc, h_lc1, h_tn, h_tn1, h_tn2, h_tn3, h_tn4, h_nil, h_cons, h_cons1, h_cons2, h_star, h_star1, h_star2, h_star3, h_o0, h_o1, h_o2, h_c0, h_c1, h_c2, h_seq, h_seq1, h_seq2, h_seq3, h_r1, h_r11, h_r2, h_r21, h_r22, h_zip, h_zip1, h_zip2, h_zip3, h_enum, h_enum1, h_var, h_var1, h_int, h_str, h_bl, h_non, h_glo, h_done, h_then, h_then1, h_then2, h_asg, h_asg1, h_asg2, h_asg3, h_asg4, h_augN, h_augN1, h_augN2, h_augN3, h_mu_append, h_mu_clear, h_mu_extend, h_mu_insert, h_mu1, h_mu2, h_mu3, h_ex1, h_ret, h_ret1, h_if, h_if1, h_ift, h_iff, h_for, h_for1, h_body, h_body1, h_cond, h_whl, h_pass, h_fn1, h_fn2, b_nm, b_tp, b_all0, b_all, w_0, w_1, tt_non, tt_bl, tt_int, tt_tup, tt_lst, tt_dct, o_add, o_adds, o_addt, o_addl, o_sub, o_mul, o_mull, o_mult, o_fdiv, o_mod, o_pow, i_tup, i_lst, i_str, i_dct, i_dci, sl_tup, sl_lst', sl_str, mu_app, mu_clr, mu_ext, mu_ins, isN_non, notN_non, tb_some, tof_some, Option.map_some, Option.map_none, List.map_cons, List.map_nil, List.length_cons, List.length_nil, List.replicate_succ, List.replicate_zero, List.cons_append, List.nil_append, Nat.add_sub_cancel, Nat.sub_self, Nat.zero_add, Nat.reduceAdd, Nat.reduceSub, List.set_cons_zero, List.set_cons_succ, List.getElem?_cons_zero, List.getElem?_cons_succ, List.append_nil, if_true, if_false, Bool.false_eq_true, reduceIte, Bool.not_true, Bool.not_false, len_tup, len_lst, len_dct, int_int, int_bl, abs_int, tuple_lst, tuple_tup, list_lst, list_tup, sum_lst, sum_tup, all_bls, any_bls, ceq_int, cne_int, ceq_str, clt_int, cle_int, cgt_int, cge_int, List.length_map, h1, h2, h3, if_pos (show 3 ≤ lim by decide), added_t (FR := FR) (G := GT) (T := T) (fuel := fuel) (d := d + 3) (g := g3) (xs := xs) (ys := ys) (by omega), taken_t (FR := FR) (G := GT) (T := T) (fuel := fuel) (d := d + 3) (g := g3) (xs := xs) (ys := ys) (by omega), times_t (FR := FR) (G := GT) (T := T) (fuel := fuel) (d := d + 3) (g := g3) (xs := xs) (n := (m : Int) - 20) (by omega) mt,
    dot_t (FR := FR) (G := GT) (T := T) (fuel := fuel) (d := d + 3) (g := g3) (xs := xs) (ys := ys) (by omega) mz, balanced_t (FR := FR) (G := GT) (T := T) (fuel := fuel) (d := d + 3) (g := g3) (xs := xs), if_pos (show 5 ≤ lim by decide), trangeOf1 (show n < 2 ^ 62 by omega)]
  rw [turns_each (fun k : Nat => Tr.int k) (fun k : Nat => .int (xs.getD k 0 + ys.getD k 0)) (List.range n) (fun k hk g => by
    have hk := List.mem_range.mp hk
    simp only [h_bin, h_bin1, h_bin2, h_cmp, h_cmp1, h_cmp2, h_neg, h_neg1, h_nt, h_nt1, h_nt2, h_and, h_and1, h_andt, h_andf, h_or, h_or1, h_ort, h_orf, h_isn, h_isn1, h_isn2, h_ch, h_ch1, h_ch2, h_ch3, h_ch4, h_ite, h_ite1, h_itet, h_itef, h_tup, h_tup1, h_lst, h_lst1, h_idx, h_idx1, h_idx2, h_sl, h_sl1, h_sl2, h_sl3, h_call, h_call1, h_bi, h_bi1, h_me, h_me1, h_me2, h_me3, h_me4, h_lc, h_lc1, h_tn, h_tn1, h_tn2, h_tn3, h_tn4, h_nil, h_cons, h_cons1, h_cons2, h_star, h_star1, h_star2, h_star3, h_o0, h_o1, h_o2, h_c0, h_c1, h_c2, h_seq, h_seq1, h_seq2, h_seq3, h_r1, h_r11, h_r2, h_r21, h_r22, h_zip, h_zip1, h_zip2, h_zip3, h_enum, h_enum1, h_var, h_var1, h_int, h_str, h_bl, h_non, h_glo, h_done, h_then, h_then1, h_then2, h_asg, h_asg1, h_asg2, h_asg3, h_asg4, h_augN, h_augN1, h_augN2, h_augN3, h_mu_append, h_mu_clear, h_mu_extend, h_mu_insert, h_mu1, h_mu2, h_mu3, h_ex1, h_ret, h_ret1, h_if, h_if1, h_ift, h_iff, h_for, h_for1, h_body, h_body1, h_cond, h_whl, h_pass, h_fn1, h_fn2, b_nm, b_tp, b_all0, b_all, w_0, w_1, tt_non, tt_bl, tt_int, tt_tup, tt_lst, tt_dct, o_add, o_adds, o_addt, o_addl, o_sub, o_mul, o_mull, o_mult, o_fdiv, o_mod, o_pow, i_tup, i_lst, i_str, i_dct, i_dci, sl_tup, sl_lst', sl_str, mu_app, mu_clr, mu_ext, mu_ins, isN_non, notN_non, tb_some, tof_some, Option.map_some, Option.map_none, List.map_cons, List.map_nil, List.length_cons, List.length_nil, List.replicate_succ, List.replicate_zero, List.cons_append, List.nil_append, Nat.add_sub_cancel, Nat.sub_self, Nat.zero_add, Nat.reduceAdd, Nat.reduceSub, List.set_cons_zero, List.set_cons_succ, List.getElem?_cons_zero, List.getElem?_cons_succ, List.append_nil, if_true, if_false, Bool.false_eq_true, reduceIte, Bool.not_true, Bool.not_false, len_tup, len_lst, len_dct, int_int, int_bl, abs_int, tuple_lst, tuple_tup, list_lst, list_tup, sum_lst, sum_tup, all_bls, any_bls, ceq_int, cne_int, ceq_str, clt_int, cle_int, cgt_int, cge_int, List.length_map, pick_row (show k < xs.length by omega), pick_row (show k < ys.length by omega)]), r1]
  simp only [h_bin, h_bin1, h_bin2, h_cmp, h_cmp1, h_cmp2, h_neg, h_neg1, h_nt, h_nt1, h_nt2, h_and, h_and1, h_andt, h_andf, h_or, h_or1, h_ort, h_orf, h_isn, h_isn1, h_isn2, h_ch, h_ch1, h_ch2, h_ch3, h_ch4, h_ite, h_ite1, h_itet, h_itef, h_tup, h_tup1, h_lst, h_lst1, h_idx, h_idx1, h_idx2, h_sl, h_sl1, h_sl2, h_sl3, h_call, h_call1, h_bi, h_bi1, h_me, h_me1, h_me2, h_me3, h_me4, h_lc, h_lc1, h_tn, h_tn1, h_tn2, h_tn3, h_tn4, h_nil, h_cons, h_cons1, h_cons2, h_star, h_star1, h_star2, h_star3, h_o0, h_o1, h_o2, h_c0, h_c1, h_c2, h_seq, h_seq1, h_seq2, h_seq3, h_r1, h_r11, h_r2, h_r21, h_r22, h_zip, h_zip1, h_zip2, h_zip3, h_enum, h_enum1, h_var, h_var1, h_int, h_str, h_bl, h_non, h_glo, h_done, h_then, h_then1, h_then2, h_asg, h_asg1, h_asg2, h_asg3, h_asg4, h_augN, h_augN1, h_augN2, h_augN3, h_mu_append, h_mu_clear, h_mu_extend, h_mu_insert, h_mu1, h_mu2, h_mu3, h_ex1, h_ret, h_ret1, h_if, h_if1, h_ift, h_iff, h_for, h_for1, h_body, h_body1, h_cond, h_whl, h_pass, h_fn1, h_fn2, b_nm, b_tp, b_all0, b_all, w_0, w_1, tt_non, tt_bl, tt_int, tt_tup, tt_lst, tt_dct, o_add, o_adds, o_addt, o_addl, o_sub, o_mul, o_mull, o_mult, o_fdiv, o_mod, o_pow, i_tup, i_lst, i_str, i_dct, i_dci, sl_tup, sl_lst', sl_str, mu_app, mu_clr, mu_ext, mu_ins, isN_non, notN_non, tb_some, tof_some, Option.map_some, Option.map_none, List.map_cons, List.map_nil, List.length_cons, List.length_nil, List.replicate_succ, List.replicate_zero, List.cons_append, List.nil_append, Nat.add_sub_cancel, Nat.sub_self, Nat.zero_add, Nat.reduceAdd, Nat.reduceSub, List.set_cons_zero, List.set_cons_succ, List.getElem?_cons_zero, List.getElem?_cons_succ, List.append_nil, if_true, if_false, Bool.false_eq_true, reduceIte, Bool.not_true, Bool.not_false, len_tup, len_lst, len_dct, int_int, int_bl, abs_int, tuple_lst, tuple_tup, list_lst, list_tup, sum_lst, sum_tup, all_bls, any_bls, ceq_int, cne_int, ceq_str, clt_int, cle_int, cgt_int, cge_int, List.length_map, la, if_pos (mem_lim (show n ≤ 16777216 by omega)), trangeOf1 (show n < 2 ^ 62 by omega)]
  rw [turns_each (fun k : Nat => Tr.int k) (fun k : Nat => .int (xs.getD k 0 - ys.getD k 0)) (List.range n) (fun k hk g => by
    have hk := List.mem_range.mp hk
    simp only [h_bin, h_bin1, h_bin2, h_cmp, h_cmp1, h_cmp2, h_neg, h_neg1, h_nt, h_nt1, h_nt2, h_and, h_and1, h_andt, h_andf, h_or, h_or1, h_ort, h_orf, h_isn, h_isn1, h_isn2, h_ch, h_ch1, h_ch2, h_ch3, h_ch4, h_ite, h_ite1, h_itet, h_itef, h_tup, h_tup1, h_lst, h_lst1, h_idx, h_idx1, h_idx2, h_sl, h_sl1, h_sl2, h_sl3, h_call, h_call1, h_bi, h_bi1, h_me, h_me1, h_me2, h_me3, h_me4, h_lc, h_lc1, h_tn, h_tn1, h_tn2, h_tn3, h_tn4, h_nil, h_cons, h_cons1, h_cons2, h_star, h_star1, h_star2, h_star3, h_o0, h_o1, h_o2, h_c0, h_c1, h_c2, h_seq, h_seq1, h_seq2, h_seq3, h_r1, h_r11, h_r2, h_r21, h_r22, h_zip, h_zip1, h_zip2, h_zip3, h_enum, h_enum1, h_var, h_var1, h_int, h_str, h_bl, h_non, h_glo, h_done, h_then, h_then1, h_then2, h_asg, h_asg1, h_asg2, h_asg3, h_asg4, h_augN, h_augN1, h_augN2, h_augN3, h_mu_append, h_mu_clear, h_mu_extend, h_mu_insert, h_mu1, h_mu2, h_mu3, h_ex1, h_ret, h_ret1, h_if, h_if1, h_ift, h_iff, h_for, h_for1, h_body, h_body1, h_cond, h_whl, h_pass, h_fn1, h_fn2, b_nm, b_tp, b_all0, b_all, w_0, w_1, tt_non, tt_bl, tt_int, tt_tup, tt_lst, tt_dct, o_add, o_adds, o_addt, o_addl, o_sub, o_mul, o_mull, o_mult, o_fdiv, o_mod, o_pow, i_tup, i_lst, i_str, i_dct, i_dci, sl_tup, sl_lst', sl_str, mu_app, mu_clr, mu_ext, mu_ins, isN_non, notN_non, tb_some, tof_some, Option.map_some, Option.map_none, List.map_cons, List.map_nil, List.length_cons, List.length_nil, List.replicate_succ, List.replicate_zero, List.cons_append, List.nil_append, Nat.add_sub_cancel, Nat.sub_self, Nat.zero_add, Nat.reduceAdd, Nat.reduceSub, List.set_cons_zero, List.set_cons_succ, List.getElem?_cons_zero, List.getElem?_cons_succ, List.append_nil, if_true, if_false, Bool.false_eq_true, reduceIte, Bool.not_true, Bool.not_false, len_tup, len_lst, len_dct, int_int, int_bl, abs_int, tuple_lst, tuple_tup, list_lst, list_tup, sum_lst, sum_tup, all_bls, any_bls, ceq_int, cne_int, ceq_str, clt_int, cle_int, cgt_int, cge_int, List.length_map, pick_row (show k < xs.length by omega), pick_row (show k < ys.length by omega)]), r2]
  simp only [h_bin, h_bin1, h_bin2, h_cmp, h_cmp1, h_cmp2, h_neg, h_neg1, h_nt, h_nt1, h_nt2, h_and, h_and1, h_andt, h_andf, h_or, h_or1, h_ort, h_orf, h_isn, h_isn1, h_isn2, h_ch, h_ch1, h_ch2, h_ch3, h_ch4, h_ite, h_ite1, h_itet, h_itef, h_tup, h_tup1, h_lst, h_lst1, h_idx, h_idx1, h_idx2, h_sl, h_sl1, h_sl2, h_sl3, h_call, h_call1, h_bi, h_bi1, h_me, h_me1, h_me2, h_me3, h_me4, h_lc, h_lc1, h_tn, h_tn1, h_tn2, h_tn3, h_tn4, h_nil, h_cons, h_cons1, h_cons2, h_star, h_star1, h_star2, h_star3, h_o0, h_o1, h_o2, h_c0, h_c1, h_c2, h_seq, h_seq1, h_seq2, h_seq3, h_r1, h_r11, h_r2, h_r21, h_r22, h_zip, h_zip1, h_zip2, h_zip3, h_enum, h_enum1, h_var, h_var1, h_int, h_str, h_bl, h_non, h_glo, h_done, h_then, h_then1, h_then2, h_asg, h_asg1, h_asg2, h_asg3, h_asg4, h_augN, h_augN1, h_augN2, h_augN3, h_mu_append, h_mu_clear, h_mu_extend, h_mu_insert, h_mu1, h_mu2, h_mu3, h_ex1, h_ret, h_ret1, h_if, h_if1, h_ift, h_iff, h_for, h_for1, h_body, h_body1, h_cond, h_whl, h_pass, h_fn1, h_fn2, b_nm, b_tp, b_all0, b_all, w_0, w_1, tt_non, tt_bl, tt_int, tt_tup, tt_lst, tt_dct, o_add, o_adds, o_addt, o_addl, o_sub, o_mul, o_mull, o_mult, o_fdiv, o_mod, o_pow, i_tup, i_lst, i_str, i_dct, i_dci, sl_tup, sl_lst', sl_str, mu_app, mu_clr, mu_ext, mu_ins, isN_non, notN_non, tb_some, tof_some, Option.map_some, Option.map_none, List.map_cons, List.map_nil, List.length_cons, List.length_nil, List.replicate_succ, List.replicate_zero, List.cons_append, List.nil_append, Nat.add_sub_cancel, Nat.sub_self, Nat.zero_add, Nat.reduceAdd, Nat.reduceSub, List.set_cons_zero, List.set_cons_succ, List.getElem?_cons_zero, List.getElem?_cons_succ, List.append_nil, if_true, if_false, Bool.false_eq_true, reduceIte, Bool.not_true, Bool.not_false, len_tup, len_lst, len_dct, int_int, int_bl, abs_int, tuple_lst, tuple_tup, list_lst, list_tup, sum_lst, sum_tup, all_bls, any_bls, ceq_int, cne_int, ceq_str, clt_int, cle_int, cgt_int, cge_int, List.length_map, ls, if_pos (mem_lim (show n ≤ 16777216 by omega)), if_pos (show 2 ≤ lim by decide)]
  rw [turns_each Tr.int (fun x => .int (((m : Int) - 20) * x)) xs (fun x hx g => by simp only [h_bin, h_bin1, h_bin2, h_cmp, h_cmp1, h_cmp2, h_neg, h_neg1, h_nt, h_nt1, h_nt2, h_and, h_and1, h_andt, h_andf, h_or, h_or1, h_ort, h_orf, h_isn, h_isn1, h_isn2, h_ch, h_ch1, h_ch2, h_ch3, h_ch4, h_ite, h_ite1, h_itet, h_itef, h_tup, h_tup1, h_lst, h_lst1, h_idx, h_idx1, h_idx2, h_sl, h_sl1, h_sl2, h_sl3, h_call, h_call1, h_bi, h_bi1, h_me, h_me1, h_me2, h_me3, h_me4, h_lc, h_lc1, h_tn, h_tn1, h_tn2, h_tn3, h_tn4, h_nil, h_cons, h_cons1, h_cons2, h_star, h_star1, h_star2, h_star3, h_o0, h_o1, h_o2, h_c0, h_c1, h_c2, h_seq, h_seq1, h_seq2, h_seq3, h_r1, h_r11, h_r2, h_r21, h_r22, h_zip, h_zip1, h_zip2, h_zip3, h_enum, h_enum1, h_var, h_var1, h_int, h_str, h_bl, h_non, h_glo, h_done, h_then, h_then1, h_then2, h_asg, h_asg1, h_asg2, h_asg3, h_asg4, h_augN, h_augN1, h_augN2, h_augN3, h_mu_append, h_mu_clear, h_mu_extend, h_mu_insert, h_mu1, h_mu2, h_mu3, h_ex1, h_ret, h_ret1, h_if, h_if1, h_ift, h_iff, h_for, h_for1, h_body, h_body1, h_cond, h_whl, h_pass, h_fn1, h_fn2, b_nm, b_tp, b_all0, b_all, w_0, w_1, tt_non, tt_bl, tt_int, tt_tup, tt_lst, tt_dct, o_add, o_adds, o_addt, o_addl, o_sub, o_mul, o_mull, o_mult, o_fdiv, o_mod, o_pow, i_tup, i_lst, i_str, i_dct, i_dci, sl_tup, sl_lst', sl_str, mu_app, mu_clr, mu_ext, mu_ins, isN_non, notN_non, tb_some, tof_some, Option.map_some, Option.map_none, List.map_cons, List.map_nil, List.length_cons, List.length_nil, List.replicate_succ, List.replicate_zero, List.cons_append, List.nil_append, Nat.add_sub_cancel, Nat.sub_self, Nat.zero_add, Nat.reduceAdd, Nat.reduceSub, List.set_cons_zero, List.set_cons_succ, List.getElem?_cons_zero, List.getElem?_cons_succ, List.append_nil, if_true, if_false, Bool.false_eq_true, reduceIte, Bool.not_true, Bool.not_false, len_tup, len_lst, len_dct, int_int, int_bl, abs_int, tuple_lst, tuple_tup, list_lst, list_tup, sum_lst, sum_tup, all_bls, any_bls, ceq_int, cne_int, ceq_str, clt_int, cle_int, cgt_int, cge_int, List.length_map, mt x hx]), r3]
  simp only [h_bin, h_bin1, h_bin2, h_cmp, h_cmp1, h_cmp2, h_neg, h_neg1, h_nt, h_nt1, h_nt2, h_and, h_and1, h_andt, h_andf, h_or, h_or1, h_ort, h_orf, h_isn, h_isn1, h_isn2, h_ch, h_ch1, h_ch2, h_ch3, h_ch4, h_ite, h_ite1, h_itet, h_itef, h_tup, h_tup1, h_lst, h_lst1, h_idx, h_idx1, h_idx2, h_sl, h_sl1, h_sl2, h_sl3, h_call, h_call1, h_bi, h_bi1, h_me, h_me1, h_me2, h_me3, h_me4, h_lc, h_lc1, h_tn, h_tn1, h_tn2, h_tn3, h_tn4, h_nil, h_cons, h_cons1, h_cons2, h_star, h_star1, h_star2, h_star3, h_o0, h_o1, h_o2, h_c0, h_c1, h_c2, h_seq, h_seq1, h_seq2, h_seq3, h_r1, h_r11, h_r2, h_r21, h_r22, h_zip, h_zip1, h_zip2, h_zip3, h_enum, h_enum1, h_var, h_var1, h_int, h_str, h_bl, h_non, h_glo, h_done, h_then, h_then1, h_then2, h_asg, h_asg1, h_asg2, h_asg3, h_asg4, h_augN, h_augN1, h_augN2, h_augN3, h_mu_append, h_mu_clear, h_mu_extend, h_mu_insert, h_mu1, h_mu2, h_mu3, h_ex1, h_ret, h_ret1, h_if, h_if1, h_ift, h_iff, h_for, h_for1, h_body, h_body1, h_cond, h_whl, h_pass, h_fn1, h_fn2, b_nm, b_tp, b_all0, b_all, w_0, w_1, tt_non, tt_bl, tt_int, tt_tup, tt_lst, tt_dct, o_add, o_adds, o_addt, o_addl, o_sub, o_mul, o_mull, o_mult, o_fdiv, o_mod, o_pow, i_tup, i_lst, i_str, i_dct, i_dci, sl_tup, sl_lst', sl_str, mu_app, mu_clr, mu_ext, mu_ins, isN_non, notN_non, tb_some, tof_some, Option.map_some, Option.map_none, List.map_cons, List.map_nil, List.length_cons, List.length_nil, List.replicate_succ, List.replicate_zero, List.cons_append, List.nil_append, Nat.add_sub_cancel, Nat.sub_self, Nat.zero_add, Nat.reduceAdd, Nat.reduceSub, List.set_cons_zero, List.set_cons_succ, List.getElem?_cons_zero, List.getElem?_cons_succ, List.append_nil, if_true, if_false, Bool.false_eq_true, reduceIte, Bool.not_true, Bool.not_false, len_tup, len_lst, len_dct, int_int, int_bl, abs_int, tuple_lst, tuple_tup, list_lst, list_tup, sum_lst, sum_tup, all_bls, any_bls, ceq_int, cne_int, ceq_str, clt_int, cle_int, cgt_int, cge_int, List.length_map, lm, if_pos (mem_lim (show n ≤ 16777216 by omega)), ldot_t (FR := FR) (G := GT) (T := T) (fuel := fuel) (d := d + 3) (g := g3) (xs := xs) (ys := ys) lx ly (by omega) mz, if_pos (show 3 ≤ lim by decide), if_pos (show 5 ≤ lim by decide),
    alike_t (FR := FR) (G := GT) (T := T) (fuel := fuel) (d := d + 3) (g := g3) okL (by decide) (by decide) (by decide)]
  obtain ⟨c, g4, h4, hc⟩ := draw (FR := FR) (G := GT) (T := T) (fuel := fuel) (d := d + 3) g3 (m := 9) (by decide) (by decide)
  have hc : c ≤ 8 := by omega
  simp only [h_bin, h_bin1, h_bin2, h_cmp, h_cmp1, h_cmp2, h_neg, h_neg1, h_nt, h_nt1, h_nt2, h_and, h_and1, h_andt, h_andf, h_or, h_or1, h_ort, h_orf, h_isn, h_isn1, h_isn2, h_ch, h_ch1, h_ch2, h_ch3, h_ch4, h_ite, h_ite1, h_itet, h_itef, h_tup, h_tup1, h_lst, h_lst1, h_idx, h_idx1, h_idx2, h_sl, h_sl1, h_sl2, h_sl3, h_call, h_call1, h_bi, h_bi1, h_me, h_me1, h_me2, h_me3, h_me4, h_lc, h_lc1, h_tn, h_tn1, h_tn2, h_tn3, h_tn4, h_nil, h_cons, h_cons1, h_cons2, h_star, h_star1, h_star2, h_star3, h_o0, h_o1, h_o2, h_c0, h_c1, h_c2, h_seq, h_seq1, h_seq2, h_seq3, h_r1, h_r11, h_r2, h_r21, h_r22, h_zip, h_zip1, h_zip2, h_zip3, h_enum, h_enum1, h_var, h_var1, h_int, h_str, h_bl, h_non, h_glo, h_done, h_then, h_then1, h_then2, h_asg, h_asg1, h_asg2, h_asg3, h_asg4, h_augN, h_augN1, h_augN2, h_augN3, h_mu_append, h_mu_clear, h_mu_extend, h_mu_insert, h_mu1, h_mu2, h_mu3, h_ex1, h_ret, h_ret1, h_if, h_if1, h_ift, h_iff, h_for, h_for1, h_body, h_body1, h_cond, h_whl, h_pass, h_fn1, h_fn2, b_nm, b_tp, b_all0, b_all, w_0, w_1, tt_non, tt_bl, tt_int, tt_tup, tt_lst, tt_dct, o_add, o_adds, o_addt, o_addl, o_sub, o_mul, o_mull, o_mult, o_fdiv, o_mod, o_pow, i_tup, i_lst, i_str, i_dct, i_dci, sl_tup, sl_lst', sl_str, mu_app, mu_clr, mu_ext, mu_ins, isN_non, notN_non, tb_some, tof_some, Option.map_some, Option.map_none, List.map_cons, List.map_nil, List.length_cons, List.length_nil, List.replicate_succ, List.replicate_zero, List.cons_append, List.nil_append, Nat.add_sub_cancel, Nat.sub_self, Nat.zero_add, Nat.reduceAdd, Nat.reduceSub, List.set_cons_zero, List.set_cons_succ, List.getElem?_cons_zero, List.getElem?_cons_succ, List.append_nil, if_true, if_false, Bool.false_eq_true, reduceIte, Bool.not_true, Bool.not_false, len_tup, len_lst, len_dct, int_int, int_bl, abs_int, tuple_lst, tuple_tup, list_lst, list_tup, sum_lst, sum_tup, all_bls, any_bls, ceq_int, cne_int, ceq_str, clt_int, cle_int, cgt_int, cge_int, List.length_map, h4, trangeOf1 (show c < 2 ^ 62 by omega)]
  obtain ⟨rows, g5, h5, lr, hr⟩ := turns_draw (step := turnOf GT (trun FR GT T fuel (d + 4)) (Tg.nm 10) Exo.none (Ex.call "_law_drawn_row" (Exs.cons (Ex.var 0) (Exs.cons (Ex.var 1) Exs.nil))) [10] [some Tr.bag, some (Tr.int n), some (.lst [rowT (vAdd xs ys), rowT (vSub xs ys), rowT (vMul ((m : Int) - 20) xs), .int (vDot xs ys), .bl (xs.sum == 0)]), some (.lst [rowT (vAdd xs ys), rowT (vSub xs ys), rowT (vMul ((m : Int) - 20) xs), .int (vDot xs ys), .bl (xs.sum == 0)]), none, none, none, some (rowT xs), some (rowT ys), some (.int ((m : Int) - 20)), none, none, none]) (fun i : Nat => Tr.int i) rowT (fun _ r => r.length = n ∧ ∀ x ∈ r, x.natAbs ≤ 1000000000000000000000000000000000000000) (List.range c) g4 (fun i _ g => by
    obtain ⟨zs, g1, q1, q2, q3⟩ := drawn_row hn g (d + 2)
    rw [F] at q1
    refine ⟨zs, g1, ?_, q2, q3⟩
    simp only [h_bin, h_bin1, h_bin2, h_cmp, h_cmp1, h_cmp2, h_neg, h_neg1, h_nt, h_nt1, h_nt2, h_and, h_and1, h_andt, h_andf, h_or, h_or1, h_ort, h_orf, h_isn, h_isn1, h_isn2, h_ch, h_ch1, h_ch2, h_ch3, h_ch4, h_ite, h_ite1, h_itet, h_itef, h_tup, h_tup1, h_lst, h_lst1, h_idx, h_idx1, h_idx2, h_sl, h_sl1, h_sl2, h_sl3, h_call, h_call1, h_bi, h_bi1, h_me, h_me1, h_me2, h_me3, h_me4, h_lc, h_lc1, h_tn, h_tn1, h_tn2, h_tn3, h_tn4, h_nil, h_cons, h_cons1, h_cons2, h_star, h_star1, h_star2, h_star3, h_o0, h_o1, h_o2, h_c0, h_c1, h_c2, h_seq, h_seq1, h_seq2, h_seq3, h_r1, h_r11, h_r2, h_r21, h_r22, h_zip, h_zip1, h_zip2, h_zip3, h_enum, h_enum1, h_var, h_var1, h_int, h_str, h_bl, h_non, h_glo, h_done, h_then, h_then1, h_then2, h_asg, h_asg1, h_asg2, h_asg3, h_asg4, h_augN, h_augN1, h_augN2, h_augN3, h_mu_append, h_mu_clear, h_mu_extend, h_mu_insert, h_mu1, h_mu2, h_mu3, h_ex1, h_ret, h_ret1, h_if, h_if1, h_ift, h_iff, h_for, h_for1, h_body, h_body1, h_cond, h_whl, h_pass, h_fn1, h_fn2, b_nm, b_tp, b_all0, b_all, w_0, w_1, tt_non, tt_bl, tt_int, tt_tup, tt_lst, tt_dct, o_add, o_adds, o_addt, o_addl, o_sub, o_mul, o_mull, o_mult, o_fdiv, o_mod, o_pow, i_tup, i_lst, i_str, i_dct, i_dci, sl_tup, sl_lst', sl_str, mu_app, mu_clr, mu_ext, mu_ins, isN_non, notN_non, tb_some, tof_some, Option.map_some, Option.map_none, List.map_cons, List.map_nil, List.length_cons, List.length_nil, List.replicate_succ, List.replicate_zero, List.cons_append, List.nil_append, Nat.add_sub_cancel, Nat.sub_self, Nat.zero_add, Nat.reduceAdd, Nat.reduceSub, List.set_cons_zero, List.set_cons_succ, List.getElem?_cons_zero, List.getElem?_cons_succ, List.append_nil, if_true, if_false, Bool.false_eq_true, reduceIte, Bool.not_true, Bool.not_false, len_tup, len_lst, len_dct, int_int, int_bl, abs_int, tuple_lst, tuple_tup, list_lst, list_tup, sum_lst, sum_tup, all_bls, any_bls, ceq_int, cne_int, ceq_str, clt_int, cle_int, cgt_int, cge_int, List.length_map, q1])
  rw [List.length_range] at lr
  rw [h5]
  have hrows : ∀ r ∈ rows, r.length = n ∧ ∀ x ∈ r, x.natAbs ≤ 1000000000000000000000000000000000000000 := fun r hr2 => by
    obtain ⟨i, hi, rfl⟩ := List.getElem_of_mem hr2
    exact hr i i _ (by rw [List.getElem?_range (by omega)]) (List.getElem?_eq_getElem hi)
  simp only [h_bin, h_bin1, h_bin2, h_cmp, h_cmp1, h_cmp2, h_neg, h_neg1, h_nt, h_nt1, h_nt2, h_and, h_and1, h_andt, h_andf, h_or, h_or1, h_ort, h_orf, h_isn, h_isn1, h_isn2, h_ch, h_ch1, h_ch2, h_ch3, h_ch4, h_ite, h_ite1, h_itet, h_itef, h_tup, h_tup1, h_lst, h_lst1, h_idx, h_idx1, h_idx2, h_sl, h_sl1, h_sl2, h_sl3, h_call, h_call1, h_bi, h_bi1, h_me, h_me1, h_me2, h_me3, h_me4, h_lc, h_lc1, h_tn, h_tn1, h_tn2, h_tn3, h_tn4, h_nil, h_cons, h_cons1, h_cons2, h_star, h_star1, h_star2, h_star3, h_o0, h_o1, h_o2, h_c0, h_c1, h_c2, h_seq, h_seq1, h_seq2, h_seq3, h_r1, h_r11, h_r2, h_r21, h_r22, h_zip, h_zip1, h_zip2, h_zip3, h_enum, h_enum1, h_var, h_var1, h_int, h_str, h_bl, h_non, h_glo, h_done, h_then, h_then1, h_then2, h_asg, h_asg1, h_asg2, h_asg3, h_asg4, h_augN, h_augN1, h_augN2, h_augN3, h_mu_append, h_mu_clear, h_mu_extend, h_mu_insert, h_mu1, h_mu2, h_mu3, h_ex1, h_ret, h_ret1, h_if, h_if1, h_ift, h_iff, h_for, h_for1, h_body, h_body1, h_cond, h_whl, h_pass, h_fn1, h_fn2, b_nm, b_tp, b_all0, b_all, w_0, w_1, tt_non, tt_bl, tt_int, tt_tup, tt_lst, tt_dct, o_add, o_adds, o_addt, o_addl, o_sub, o_mul, o_mull, o_mult, o_fdiv, o_mod, o_pow, i_tup, i_lst, i_str, i_dct, i_dci, sl_tup, sl_lst', sl_str, mu_app, mu_clr, mu_ext, mu_ins, isN_non, notN_non, tb_some, tof_some, Option.map_some, Option.map_none, List.map_cons, List.map_nil, List.length_cons, List.length_nil, List.replicate_succ, List.replicate_zero, List.cons_append, List.nil_append, Nat.add_sub_cancel, Nat.sub_self, Nat.zero_add, Nat.reduceAdd, Nat.reduceSub, List.set_cons_zero, List.set_cons_succ, List.getElem?_cons_zero, List.getElem?_cons_succ, List.append_nil, if_true, if_false, Bool.false_eq_true, reduceIte, Bool.not_true, Bool.not_false, len_tup, len_lst, len_dct, int_int, int_bl, abs_int, tuple_lst, tuple_tup, list_lst, list_tup, sum_lst, sum_tup, all_bls, any_bls, ceq_int, cne_int, ceq_str, clt_int, cle_int, cgt_int, cge_int, List.length_map, if_pos (mem_lim (show rows.length ≤ 16777216 by omega))]
  obtain ⟨ns, g6, h6, ln, hns⟩ := turns_draw (step := turnOf GT (trun FR GT T fuel (d + 4)) (Tg.nm 11) Exo.none (Ex.bin Bo.sub (Ex.call "_law_take" (Exs.cons (Ex.var 0) (Exs.cons (Ex.con (Val.int 21)) Exs.nil))) (Ex.con (Val.int 10))) [11] [some Tr.bag, some (Tr.int n), some (.lst [rowT (vAdd xs ys), rowT (vSub xs ys), rowT (vMul ((m : Int) - 20) xs), .int (vDot xs ys), .bl (xs.sum == 0)]), some (.lst [rowT (vAdd xs ys), rowT (vSub xs ys), rowT (vMul ((m : Int) - 20) xs), .int (vDot xs ys), .bl (xs.sum == 0)]), some (.lst (rows.map rowT)), none, none, some (rowT xs), some (rowT ys), some (.int ((m : Int) - 20)), none, none, none]) rowT Tr.int (fun _ y => y.natAbs ≤ 10) rows g5 (fun r _ g => by
    obtain ⟨y, g1, q1, q2⟩ := draw (FR := FR) (G := GT) (T := T) (fuel := fuel) (d := d + 3) g (m := 21) (by decide) (by decide)
    refine ⟨(y : Int) - 10, g1, ?_, by omega⟩
    simp only [h_bin, h_bin1, h_bin2, h_cmp, h_cmp1, h_cmp2, h_neg, h_neg1, h_nt, h_nt1, h_nt2, h_and, h_and1, h_andt, h_andf, h_or, h_or1, h_ort, h_orf, h_isn, h_isn1, h_isn2, h_ch, h_ch1, h_ch2, h_ch3, h_ch4, h_ite, h_ite1, h_itet, h_itef, h_tup, h_tup1, h_lst, h_lst1, h_idx, h_idx1, h_idx2, h_sl, h_sl1, h_sl2, h_sl3, h_call, h_call1, h_bi, h_bi1, h_me, h_me1, h_me2, h_me3, h_me4, h_lc, h_lc1, h_tn, h_tn1, h_tn2, h_tn3, h_tn4, h_nil, h_cons, h_cons1, h_cons2, h_star, h_star1, h_star2, h_star3, h_o0, h_o1, h_o2, h_c0, h_c1, h_c2, h_seq, h_seq1, h_seq2, h_seq3, h_r1, h_r11, h_r2, h_r21, h_r22, h_zip, h_zip1, h_zip2, h_zip3, h_enum, h_enum1, h_var, h_var1, h_int, h_str, h_bl, h_non, h_glo, h_done, h_then, h_then1, h_then2, h_asg, h_asg1, h_asg2, h_asg3, h_asg4, h_augN, h_augN1, h_augN2, h_augN3, h_mu_append, h_mu_clear, h_mu_extend, h_mu_insert, h_mu1, h_mu2, h_mu3, h_ex1, h_ret, h_ret1, h_if, h_if1, h_ift, h_iff, h_for, h_for1, h_body, h_body1, h_cond, h_whl, h_pass, h_fn1, h_fn2, b_nm, b_tp, b_all0, b_all, w_0, w_1, tt_non, tt_bl, tt_int, tt_tup, tt_lst, tt_dct, o_add, o_adds, o_addt, o_addl, o_sub, o_mul, o_mull, o_mult, o_fdiv, o_mod, o_pow, i_tup, i_lst, i_str, i_dct, i_dci, sl_tup, sl_lst', sl_str, mu_app, mu_clr, mu_ext, mu_ins, isN_non, notN_non, tb_some, tof_some, Option.map_some, Option.map_none, List.map_cons, List.map_nil, List.length_cons, List.length_nil, List.replicate_succ, List.replicate_zero, List.cons_append, List.nil_append, Nat.add_sub_cancel, Nat.sub_self, Nat.zero_add, Nat.reduceAdd, Nat.reduceSub, List.set_cons_zero, List.set_cons_succ, List.getElem?_cons_zero, List.getElem?_cons_succ, List.append_nil, if_true, if_false, Bool.false_eq_true, reduceIte, Bool.not_true, Bool.not_false, len_tup, len_lst, len_dct, int_int, int_bl, abs_int, tuple_lst, tuple_tup, list_lst, list_tup, sum_lst, sum_tup, all_bls, any_bls, ceq_int, cne_int, ceq_str, clt_int, cle_int, cgt_int, cge_int, List.length_map, q1])
  rw [h6]
  have hnums : ∀ y ∈ ns, y.natAbs ≤ 10 := fun y hy => by
    obtain ⟨i, hi, rfl⟩ := List.getElem_of_mem hy
    exact hns i (rows[i]'(by omega)) _ (List.getElem?_eq_getElem (by omega)) (List.getElem?_eq_getElem hi)
  have mm : ∀ p ∈ rows.zip ns, ∀ x ∈ p.1, mulOk p.2 x = true := fun p hp x _ => mulD (by
    have := hnums _ (List.of_mem_zip hp).2
    omega)
  have okm : Okt 301 (6 * 301) 1 (rowT (mixL n (rows.zip ns))) := okt_row (k := 300) (by decide) (by decide) (fun x hx => by
    unfold mixL at hx
    have := mix_bd (n := n) (B := 0) (fun y hy => by rw [(List.mem_replicate.mp hy).2]; decide) (fun p hp => ⟨hnums _ (List.of_mem_zip hp).2, (hrows _ (List.of_mem_zip hp).1).2⟩) x hx
    have l8 : (rows.zip ns).length ≤ 8 := by rw [List.length_zip]; omega
    refine Nat.lt_of_le_of_lt this ?_
    refine Nat.lt_of_le_of_lt (show _ ≤ 0 + 8 * 10000000000000000000000000000000000000000 from ?_) (by decide)
    exact Nat.add_le_add_left (Nat.mul_le_mul_right _ l8) _) (by rw [mixL_len fun p hp => (hrows _ (List.of_mem_zip hp).1).1]; exact hn)
  have okh : Okt 301 (2 * (8 * (6 * 301 + 1) + 1)) 3 (.lst [.lst (rows.map rowT), .lst (ns.map .int)]) := okt_lst (w := 8 * (6 * 301 + 1)) (d := 2) (fun t ht => by
    simp only [List.mem_cons, List.not_mem_nil, or_false] at ht
    rcases ht with rfl | rfl
    · refine okt_lst (w := 6 * 301) (d := 1) (fun t ht => ?_) (by rw [List.length_map]; omega)
      obtain ⟨r, hr, rfl⟩ := List.mem_map.mp ht
      exact okt_row (k := 300) (by decide) (by decide) (fun x hx => up ((hrows r hr).2 x hx) (by decide)) (by rw [(hrows r hr).1]; exact hn)
    · refine (okt_lst (B := 301) (w := 300) (d := 0) (n := 8) (fun t ht => ?_) (by rw [List.length_map]; omega)).mono (by decide) (by decide) (by decide)
      obtain ⟨y, hy, rfl⟩ := List.mem_map.mp ht
      exact okt_int (log_nat (up (hnums y hy) (by decide)) (by decide)) (by decide) (by decide)) (by simp)
  have p0 : pick [Tr.lst (rows.map rowT), Tr.lst (ns.map .int)] 0 = some (.lst (rows.map rowT)) := rfl
  have p1 : pick [Tr.lst (rows.map rowT), Tr.lst (ns.map .int)] 1 = some (.lst (ns.map .int)) := rfl
  simp only [h_bin, h_bin1, h_bin2, h_cmp, h_cmp1, h_cmp2, h_neg, h_neg1, h_nt, h_nt1, h_nt2, h_and, h_and1, h_andt, h_andf, h_or, h_or1, h_ort, h_orf, h_isn, h_isn1, h_isn2, h_ch, h_ch1, h_ch2, h_ch3, h_ch4, h_ite, h_ite1, h_itet, h_itef, h_tup, h_tup1, h_lst, h_lst1, h_idx, h_idx1, h_idx2, h_sl, h_sl1, h_sl2, h_sl3, h_call, h_call1, h_bi, h_bi1, h_me, h_me1, h_me2, h_me3, h_me4, h_lc, h_lc1, h_tn, h_tn1, h_tn2, h_tn3, h_tn4, h_nil, h_cons, h_cons1, h_cons2, h_star, h_star1, h_star2, h_star3, h_o0, h_o1, h_o2, h_c0, h_c1, h_c2, h_seq, h_seq1, h_seq2, h_seq3, h_r1, h_r11, h_r2, h_r21, h_r22, h_zip, h_zip1, h_zip2, h_zip3, h_enum, h_enum1, h_var, h_var1, h_int, h_str, h_bl, h_non, h_glo, h_done, h_then, h_then1, h_then2, h_asg, h_asg1, h_asg2, h_asg3, h_asg4, h_augN, h_augN1, h_augN2, h_augN3, h_mu_append, h_mu_clear, h_mu_extend, h_mu_insert, h_mu1, h_mu2, h_mu3, h_ex1, h_ret, h_ret1, h_if, h_if1, h_ift, h_iff, h_for, h_for1, h_body, h_body1, h_cond, h_whl, h_pass, h_fn1, h_fn2, b_nm, b_tp, b_all0, b_all, w_0, w_1, tt_non, tt_bl, tt_int, tt_tup, tt_lst, tt_dct, o_add, o_adds, o_addt, o_addl, o_sub, o_mul, o_mull, o_mult, o_fdiv, o_mod, o_pow, i_tup, i_lst, i_str, i_dct, i_dci, sl_tup, sl_lst', sl_str, mu_app, mu_clr, mu_ext, mu_ins, isN_non, notN_non, tb_some, tof_some, Option.map_some, Option.map_none, List.map_cons, List.map_nil, List.length_cons, List.length_nil, List.replicate_succ, List.replicate_zero, List.cons_append, List.nil_append, Nat.add_sub_cancel, Nat.sub_self, Nat.zero_add, Nat.reduceAdd, Nat.reduceSub, List.set_cons_zero, List.set_cons_succ, List.getElem?_cons_zero, List.getElem?_cons_succ, List.append_nil, if_true, if_false, Bool.false_eq_true, reduceIte, Bool.not_true, Bool.not_false, len_tup, len_lst, len_dct, int_int, int_bl, abs_int, tuple_lst, tuple_tup, list_lst, list_tup, sum_lst, sum_tup, all_bls, any_bls, ceq_int, cne_int, ceq_str, clt_int, cle_int, cgt_int, cge_int, List.length_map, if_pos (mem_lim (show ns.length ≤ 16777216 by omega)), if_pos (show 2 ≤ lim by decide), p0, p1, mixture_t (FR := FR) (G := GT) (T := T) (fuel := fuel) (d := d + 2) (g := g6) (rows := rows) (ns := ns) (n := n) (by omega) (fun r hr => (hrows r hr).1) mm,
    lmixture_t (FR := FR) (G := GT) (T := T) (fuel := fuel) (d := d + 2) (g := g6) (rows := rows) (ns := ns) (n := n) (by omega) ln (by omega) (fun r hr => (hrows r hr).1) mm, alike_t (FR := FR) (G := GT) (T := T) (fuel := fuel) (d := d + 3) (g := g6) okm (by decide) (by decide) (by decide), tcmp_eq (okt_same okh (by decide))]
  exact ⟨_, rfl⟩
def inner : Sms := Sms.cons (Sm.ite (Ex.or (Ex.nt (Ex.call "_law_pair_right" (Exs.cons (Ex.var 1) (Exs.cons (Ex.var 3) Exs.nil)))) (Ex.nt (Ex.call "_law_rows_right" (Exs.cons (Ex.var 1) (Exs.cons (Ex.call "_law_take" (Exs.cons (Ex.var 1) (Exs.cons (Ex.con (Val.int 7)) Exs.nil))) Exs.nil))))) (Sms.cons (Sm.ret (Ex.con (Val.bl false))) Sms.nil) Sms.nil) Sms.nil
def outer : Sms := Sms.cons (Sm.asg (Ta.tg (Tg.nm 3)) (Ex.call "_law_things" (Exs.cons (Ex.var 1) (Exs.cons (Ex.call "_law_take" (Exs.cons (Ex.var 1) (Exs.cons (Ex.con (Val.int 7)) Exs.nil))) Exs.nil)))) (Sms.cons (Sm.for_ (Itr.range1 (Ex.con (Val.int 4))) (Tg.nm 4) inner) Sms.nil)
def rest : Sms := Sms.cons (Sm.for_ (Itr.range1 (Ex.con (Val.int 4))) (Tg.nm 2) outer) (Sms.cons (Sm.ret (Ex.con (Val.bl true))) Sms.nil)
theorem range4 : trangeOf [.int 4] = some ((List.range 4).map fun i : Nat => .int i) := trangeOf1 (n := 4) (by decide)
theorem plain (g : Bg) : ∃ ρ g', tsms GT (F 10) fuel rest (none :: some .bag :: List.replicate (f_law.nm.length - 2) none) g = some ((.rt (.bl true), ρ), g') := by
  have e : f_law.nm.length - 2 = 3 := rfl
  rw [e]
  unfold rest
  simp only [h_bin, h_bin1, h_bin2, h_cmp, h_cmp1, h_cmp2, h_neg, h_neg1, h_nt, h_nt1, h_nt2, h_and, h_and1, h_andt, h_andf, h_or, h_or1, h_ort, h_orf, h_isn, h_isn1, h_isn2, h_ch, h_ch1, h_ch2, h_ch3, h_ch4, h_ite, h_ite1, h_itet, h_itef, h_tup, h_tup1, h_lst, h_lst1, h_idx, h_idx1, h_idx2, h_sl, h_sl1, h_sl2, h_sl3, h_call, h_call1, h_bi, h_bi1, h_me, h_me1, h_me2, h_me3, h_me4, h_lc, h_lc1, h_tn, h_tn1, h_tn2, h_tn3, h_tn4, h_nil, h_cons, h_cons1, h_cons2, h_star, h_star1, h_star2, h_star3, h_o0, h_o1, h_o2, h_c0, h_c1, h_c2, h_seq, h_seq1, h_seq2, h_seq3, h_r1, h_r11, h_r2, h_r21, h_r22, h_zip, h_zip1, h_zip2, h_zip3, h_enum, h_enum1, h_var, h_var1, h_int, h_str, h_bl, h_non, h_glo, h_done, h_then, h_then1, h_then2, h_asg, h_asg1, h_asg2, h_asg3, h_asg4, h_augN, h_augN1, h_augN2, h_augN3, h_mu_append, h_mu_clear, h_mu_extend, h_mu_insert, h_mu1, h_mu2, h_mu3, h_ex1, h_ret, h_ret1, h_if, h_if1, h_ift, h_iff, h_for, h_for1, h_body, h_body1, h_cond, h_whl, h_pass, h_fn1, h_fn2, b_nm, b_tp, b_all0, b_all, w_0, w_1, tt_non, tt_bl, tt_int, tt_tup, tt_lst, tt_dct, o_add, o_adds, o_addt, o_addl, o_sub, o_mul, o_mull, o_mult, o_fdiv, o_mod, o_pow, i_tup, i_lst, i_str, i_dct, i_dci, sl_tup, sl_lst', sl_str, mu_app, mu_clr, mu_ext, mu_ins, isN_non, notN_non, tb_some, tof_some, Option.map_some, Option.map_none, List.map_cons, List.map_nil, List.length_cons, List.length_nil, List.replicate_succ, List.replicate_zero, List.cons_append, List.nil_append, Nat.add_sub_cancel, Nat.sub_self, Nat.zero_add, Nat.reduceAdd, Nat.reduceSub, List.set_cons_zero, List.set_cons_succ, List.getElem?_cons_zero, List.getElem?_cons_succ, List.append_nil, if_true, if_false, Bool.false_eq_true, reduceIte, Bool.not_true, Bool.not_false, len_tup, len_lst, len_dct, int_int, int_bl, abs_int, tuple_lst, tuple_tup, list_lst, list_tup, sum_lst, sum_tup, all_bls, any_bls, ceq_int, cne_int, ceq_str, clt_int, cle_int, cgt_int, cge_int, List.length_map, range4]
  obtain ⟨r1, g1, h1, h2⟩ := loop_inv (step := bodyOf GT (F 10) fuel (Tg.nm 2) outer) (fun _ r => ∃ a b c, r = [none, some .bag, a, b, c]) ((List.range 4).map fun i : Nat => .int i) 0 [none, some .bag, none, none, none] g ⟨_, _, _, rfl⟩ (fun i x r g _ ⟨a, b, c, hr⟩ => by
    subst hr
    unfold outer
    obtain ⟨m, g1, q1, q2⟩ := draw (FR := FR) (G := GT) (T := T) (fuel := fuel) (d := 9) g (m := 7) (by decide) (by decide)
    obtain ⟨l, g2, q3, q4, q5⟩ := things_t (FR := FR) (G := GT) (T := T) (fuel := fuel) (d := 8) (m := m) (by omega) g1
    simp only [h_bin, h_bin1, h_bin2, h_cmp, h_cmp1, h_cmp2, h_neg, h_neg1, h_nt, h_nt1, h_nt2, h_and, h_and1, h_andt, h_andf, h_or, h_or1, h_ort, h_orf, h_isn, h_isn1, h_isn2, h_ch, h_ch1, h_ch2, h_ch3, h_ch4, h_ite, h_ite1, h_itet, h_itef, h_tup, h_tup1, h_lst, h_lst1, h_idx, h_idx1, h_idx2, h_sl, h_sl1, h_sl2, h_sl3, h_call, h_call1, h_bi, h_bi1, h_me, h_me1, h_me2, h_me3, h_me4, h_lc, h_lc1, h_tn, h_tn1, h_tn2, h_tn3, h_tn4, h_nil, h_cons, h_cons1, h_cons2, h_star, h_star1, h_star2, h_star3, h_o0, h_o1, h_o2, h_c0, h_c1, h_c2, h_seq, h_seq1, h_seq2, h_seq3, h_r1, h_r11, h_r2, h_r21, h_r22, h_zip, h_zip1, h_zip2, h_zip3, h_enum, h_enum1, h_var, h_var1, h_int, h_str, h_bl, h_non, h_glo, h_done, h_then, h_then1, h_then2, h_asg, h_asg1, h_asg2, h_asg3, h_asg4, h_augN, h_augN1, h_augN2, h_augN3, h_mu_append, h_mu_clear, h_mu_extend, h_mu_insert, h_mu1, h_mu2, h_mu3, h_ex1, h_ret, h_ret1, h_if, h_if1, h_ift, h_iff, h_for, h_for1, h_body, h_body1, h_cond, h_whl, h_pass, h_fn1, h_fn2, b_nm, b_tp, b_all0, b_all, w_0, w_1, tt_non, tt_bl, tt_int, tt_tup, tt_lst, tt_dct, o_add, o_adds, o_addt, o_addl, o_sub, o_mul, o_mull, o_mult, o_fdiv, o_mod, o_pow, i_tup, i_lst, i_str, i_dct, i_dci, sl_tup, sl_lst', sl_str, mu_app, mu_clr, mu_ext, mu_ins, isN_non, notN_non, tb_some, tof_some, Option.map_some, Option.map_none, List.map_cons, List.map_nil, List.length_cons, List.length_nil, List.replicate_succ, List.replicate_zero, List.cons_append, List.nil_append, Nat.add_sub_cancel, Nat.sub_self, Nat.zero_add, Nat.reduceAdd, Nat.reduceSub, List.set_cons_zero, List.set_cons_succ, List.getElem?_cons_zero, List.getElem?_cons_succ, List.append_nil, if_true, if_false, Bool.false_eq_true, reduceIte, Bool.not_true, Bool.not_false, len_tup, len_lst, len_dct, int_int, int_bl, abs_int, tuple_lst, tuple_tup, list_lst, list_tup, sum_lst, sum_tup, all_bls, any_bls, ceq_int, cne_int, ceq_str, clt_int, cle_int, cgt_int, cge_int, List.length_map, F, q1, q3, range4]
    obtain ⟨r2, g3, k1, k2⟩ := loop_inv (step := bodyOf GT (trun FR GT T fuel 10) fuel (Tg.nm 4) inner) (fun _ r => ∃ c, r = [none, some .bag, some x, some (strsT l), c]) ((List.range 4).map fun i : Nat => .int i) 0 [none, some .bag, some x, some (strsT l), c] g2 ⟨_, rfl⟩ (fun i y r g _ ⟨c, hr⟩ => by
      subst hr
      unfold inner
      obtain ⟨g1, w1⟩ := pair_right q4 g 5
      obtain ⟨m, g2, w2, w3⟩ := draw (FR := FR) (G := GT) (T := T) (fuel := fuel) (d := 9) g1 (m := 7) (by decide) (by decide)
      obtain ⟨g3, w4⟩ := rows_right (n := m) (by omega) g2 5
      rw [F] at w1 w4
      simp only [h_bin, h_bin1, h_bin2, h_cmp, h_cmp1, h_cmp2, h_neg, h_neg1, h_nt, h_nt1, h_nt2, h_and, h_and1, h_andt, h_andf, h_or, h_or1, h_ort, h_orf, h_isn, h_isn1, h_isn2, h_ch, h_ch1, h_ch2, h_ch3, h_ch4, h_ite, h_ite1, h_itet, h_itef, h_tup, h_tup1, h_lst, h_lst1, h_idx, h_idx1, h_idx2, h_sl, h_sl1, h_sl2, h_sl3, h_call, h_call1, h_bi, h_bi1, h_me, h_me1, h_me2, h_me3, h_me4, h_lc, h_lc1, h_tn, h_tn1, h_tn2, h_tn3, h_tn4, h_nil, h_cons, h_cons1, h_cons2, h_star, h_star1, h_star2, h_star3, h_o0, h_o1, h_o2, h_c0, h_c1, h_c2, h_seq, h_seq1, h_seq2, h_seq3, h_r1, h_r11, h_r2, h_r21, h_r22, h_zip, h_zip1, h_zip2, h_zip3, h_enum, h_enum1, h_var, h_var1, h_int, h_str, h_bl, h_non, h_glo, h_done, h_then, h_then1, h_then2, h_asg, h_asg1, h_asg2, h_asg3, h_asg4, h_augN, h_augN1, h_augN2, h_augN3, h_mu_append, h_mu_clear, h_mu_extend, h_mu_insert, h_mu1, h_mu2, h_mu3, h_ex1, h_ret, h_ret1, h_if, h_if1, h_ift, h_iff, h_for, h_for1, h_body, h_body1, h_cond, h_whl, h_pass, h_fn1, h_fn2, b_nm, b_tp, b_all0, b_all, w_0, w_1, tt_non, tt_bl, tt_int, tt_tup, tt_lst, tt_dct, o_add, o_adds, o_addt, o_addl, o_sub, o_mul, o_mull, o_mult, o_fdiv, o_mod, o_pow, i_tup, i_lst, i_str, i_dct, i_dci, sl_tup, sl_lst', sl_str, mu_app, mu_clr, mu_ext, mu_ins, isN_non, notN_non, tb_some, tof_some, Option.map_some, Option.map_none, List.map_cons, List.map_nil, List.length_cons, List.length_nil, List.replicate_succ, List.replicate_zero, List.cons_append, List.nil_append, Nat.add_sub_cancel, Nat.sub_self, Nat.zero_add, Nat.reduceAdd, Nat.reduceSub, List.set_cons_zero, List.set_cons_succ, List.getElem?_cons_zero, List.getElem?_cons_succ, List.append_nil, if_true, if_false, Bool.false_eq_true, reduceIte, Bool.not_true, Bool.not_false, len_tup, len_lst, len_dct, int_int, int_bl, abs_int, tuple_lst, tuple_tup, list_lst, list_tup, sum_lst, sum_tup, all_bls, any_bls, ceq_int, cne_int, ceq_str, clt_int, cle_int, cgt_int, cge_int, List.length_map, w1, w2, w4]
      exact ⟨_, _, rfl, _, rfl⟩)
    rw [k1]
    obtain ⟨c, rfl⟩ := k2
    simp only [h_bin, h_bin1, h_bin2, h_cmp, h_cmp1, h_cmp2, h_neg, h_neg1, h_nt, h_nt1, h_nt2, h_and, h_and1, h_andt, h_andf, h_or, h_or1, h_ort, h_orf, h_isn, h_isn1, h_isn2, h_ch, h_ch1, h_ch2, h_ch3, h_ch4, h_ite, h_ite1, h_itet, h_itef, h_tup, h_tup1, h_lst, h_lst1, h_idx, h_idx1, h_idx2, h_sl, h_sl1, h_sl2, h_sl3, h_call, h_call1, h_bi, h_bi1, h_me, h_me1, h_me2, h_me3, h_me4, h_lc, h_lc1, h_tn, h_tn1, h_tn2, h_tn3, h_tn4, h_nil, h_cons, h_cons1, h_cons2, h_star, h_star1, h_star2, h_star3, h_o0, h_o1, h_o2, h_c0, h_c1, h_c2, h_seq, h_seq1, h_seq2, h_seq3, h_r1, h_r11, h_r2, h_r21, h_r22, h_zip, h_zip1, h_zip2, h_zip3, h_enum, h_enum1, h_var, h_var1, h_int, h_str, h_bl, h_non, h_glo, h_done, h_then, h_then1, h_then2, h_asg, h_asg1, h_asg2, h_asg3, h_asg4, h_augN, h_augN1, h_augN2, h_augN3, h_mu_append, h_mu_clear, h_mu_extend, h_mu_insert, h_mu1, h_mu2, h_mu3, h_ex1, h_ret, h_ret1, h_if, h_if1, h_ift, h_iff, h_for, h_for1, h_body, h_body1, h_cond, h_whl, h_pass, h_fn1, h_fn2, b_nm, b_tp, b_all0, b_all, w_0, w_1, tt_non, tt_bl, tt_int, tt_tup, tt_lst, tt_dct, o_add, o_adds, o_addt, o_addl, o_sub, o_mul, o_mull, o_mult, o_fdiv, o_mod, o_pow, i_tup, i_lst, i_str, i_dct, i_dci, sl_tup, sl_lst', sl_str, mu_app, mu_clr, mu_ext, mu_ins, isN_non, notN_non, tb_some, tof_some, Option.map_some, Option.map_none, List.map_cons, List.map_nil, List.length_cons, List.length_nil, List.replicate_succ, List.replicate_zero, List.cons_append, List.nil_append, Nat.add_sub_cancel, Nat.sub_self, Nat.zero_add, Nat.reduceAdd, Nat.reduceSub, List.set_cons_zero, List.set_cons_succ, List.getElem?_cons_zero, List.getElem?_cons_succ, List.append_nil, if_true, if_false, Bool.false_eq_true, reduceIte, Bool.not_true, Bool.not_false, len_tup, len_lst, len_dct, int_int, int_bl, abs_int, tuple_lst, tuple_tup, list_lst, list_tup, sum_lst, sum_tup, all_bls, any_bls, ceq_int, cne_int, ceq_str, clt_int, cle_int, cgt_int, cge_int, List.length_map]
    exact ⟨_, _, rfl, _, _, _, rfl⟩)
  rw [h1]
  simp only [h_bin, h_bin1, h_bin2, h_cmp, h_cmp1, h_cmp2, h_neg, h_neg1, h_nt, h_nt1, h_nt2, h_and, h_and1, h_andt, h_andf, h_or, h_or1, h_ort, h_orf, h_isn, h_isn1, h_isn2, h_ch, h_ch1, h_ch2, h_ch3, h_ch4, h_ite, h_ite1, h_itet, h_itef, h_tup, h_tup1, h_lst, h_lst1, h_idx, h_idx1, h_idx2, h_sl, h_sl1, h_sl2, h_sl3, h_call, h_call1, h_bi, h_bi1, h_me, h_me1, h_me2, h_me3, h_me4, h_lc, h_lc1, h_tn, h_tn1, h_tn2, h_tn3, h_tn4, h_nil, h_cons, h_cons1, h_cons2, h_star, h_star1, h_star2, h_star3, h_o0, h_o1, h_o2, h_c0, h_c1, h_c2, h_seq, h_seq1, h_seq2, h_seq3, h_r1, h_r11, h_r2, h_r21, h_r22, h_zip, h_zip1, h_zip2, h_zip3, h_enum, h_enum1, h_var, h_var1, h_int, h_str, h_bl, h_non, h_glo, h_done, h_then, h_then1, h_then2, h_asg, h_asg1, h_asg2, h_asg3, h_asg4, h_augN, h_augN1, h_augN2, h_augN3, h_mu_append, h_mu_clear, h_mu_extend, h_mu_insert, h_mu1, h_mu2, h_mu3, h_ex1, h_ret, h_ret1, h_if, h_if1, h_ift, h_iff, h_for, h_for1, h_body, h_body1, h_cond, h_whl, h_pass, h_fn1, h_fn2, b_nm, b_tp, b_all0, b_all, w_0, w_1, tt_non, tt_bl, tt_int, tt_tup, tt_lst, tt_dct, o_add, o_adds, o_addt, o_addl, o_sub, o_mul, o_mull, o_mult, o_fdiv, o_mod, o_pow, i_tup, i_lst, i_str, i_dct, i_dci, sl_tup, sl_lst', sl_str, mu_app, mu_clr, mu_ext, mu_ins, isN_non, notN_non, tb_some, tof_some, Option.map_some, Option.map_none, List.map_cons, List.map_nil, List.length_cons, List.length_nil, List.replicate_succ, List.replicate_zero, List.cons_append, List.nil_append, Nat.add_sub_cancel, Nat.sub_self, Nat.zero_add, Nat.reduceAdd, Nat.reduceSub, List.set_cons_zero, List.set_cons_succ, List.getElem?_cons_zero, List.getElem?_cons_succ, List.append_nil, if_true, if_false, Bool.false_eq_true, reduceIte, Bool.not_true, Bool.not_false, len_tup, len_lst, len_dct, int_int, int_bl, abs_int, tuple_lst, tuple_tup, list_lst, list_tup, sum_lst, sum_tup, all_bls, any_bls, ceq_int, cne_int, ceq_str, clt_int, cle_int, cgt_int, cge_int, List.length_map]
  exact ⟨_, _, rfl⟩
theorem all (zs : List Int) (hz : zs.length ≤ 63) : ∃ S, run (fun _ => none) T fuel 11 "law" [.scr (zs.map .int)] [] = .ok (.bl true) S :=
  law_by (FR := FR) (GT := GT) (fun b x t h => by cases h) (fk := f__law_take) (fl := f_law) (by rfl) ⟨rfl, rfl, rfl⟩ (by rfl) (by decide +kernel) (by rfl) rfl (by decide) (body := rest) rfl (by decide +kernel) (by decide +kernel) (d := 9) plain hz
end A46.K13
end
section
open PySem PySem.Spec L2 PyProof.Rows
namespace A46.K13
abbrev row : PySem.W.OpenLaw := PySem.Challenge.rw_asmuchas_k13_rows_reckoned
def top (i : Nat) : Stmt := PySem.Challenge.pw_asmuchas_k13_rows_reckoned.main.body.getD i (.Pass ⟨0, 0, 0, 0⟩)
def L : List Dn := [⟨"row_of", f_row_of, top 1⟩, ⟨"added", f_added, top 2⟩, ⟨"taken", f_taken, top 3⟩, ⟨"times", f_times, top 4⟩, ⟨"mixture", f_mixture, top 5⟩, ⟨"dot", f_dot, top 6⟩, ⟨"is_balanced", f_is_balanced, top 7⟩, ⟨"_law_bag", bagFn, top 9⟩, ⟨"_law_take", f__law_take, top 10⟩, ⟨"_law_alike", f__law_alike, top 11⟩, ⟨"_law_one", f__law_one, top 12⟩, ⟨"_law_things", f__law_things, top 13⟩, ⟨"_law_sum", f__law_sum, top 14⟩, ⟨"_law_pair", f__law_pair, top 15⟩, ⟨"_law_row", f__law_row, top 16⟩, ⟨"_law_dot", f__law_dot, top 17⟩, ⟨"_law_mixture", f__law_mixture, top 18⟩, ⟨"_law_worths", f__law_worths, top 19⟩, ⟨"_law_worth", ⟨["_law_worths_here", "_law_one_here"], ["_law_worths_here", "_law_one_here", "_law_name"], f__law_worth.body⟩, top 20⟩, ⟨"_law_drawn_row", f__law_drawn_row, top 21⟩, ⟨"_law_pair_right", f__law_pair_right, top 22⟩, ⟨"_law_rows_right", f__law_rows_right, top 23⟩, ⟨"law", f_law, top 24⟩]
abbrev R : PySem.W.OpenRow := PySem.W.OpenLaw.row row
def fa : List He.Fa := faL L []
def fn : List He.DefD := datL L
abbrev hk : PySem.W.Hook := He.hookD 4 fa fn
def ob (s : PySem.W.SharedT) : He.AlD := He.obsDG 4 fa fn (HandSHeadRun.getT s)
theorem ob_eq (s : PySem.W.SharedT) : ob s = hk.obs s.abs := He.obsDG_eq (HandSHeadRun.getT_eq s)
def names : List PySem.Str := ["row_of", "added", "taken", "times", "mixture", "dot", "is_balanced", "_law_bag", "_law_take", "_law_alike", "_law_one", "_law_things", "_law_sum", "_law_pair", "_law_row", "_law_dot", "_law_mixture", "_law_worths", "_law_worth", "_law_drawn_row", "_law_pair_right", "_law_rows_right"]
theorem run_top (w : World) : HandSHeadRun.RunEq R (PySem.W.view R.prog [24]) hk ob 4000 names w := by
  intro os
  kernel_rfl
theorem chk : chL L = true := by decide +kernel
theorem same : tabL L = T := by rfl
end A46.K13
open PySem PySem.W PySem.Calls PyProof.Rows A46
theorem A46.K13.holds_of {fuel dep : Nat} (room : L2.Room (dep + 1) callerA) (plain : ∀ zs : List Int, zs.length ≤ 63 → ∃ S, run (fun _ => none) A46.K13.T fuel (dep + 1) "law" [.scr (zs.map .int)] [] = .ok (.bl true) S) : PySem.Challenge.rw_asmuchas_k13_rows_reckoned.Holds := by
  w_on; o_law
  refine HandSHeadRun.head_any (r := OpenLaw.row K13.row) (q := view (OpenLaw.row K13.row).prog [24]) (H := K13.hk) (ob := K13.ob) (M := 4000) (loose := K13.names) (d := HandSHeadRun.topDef (OpenLaw.row K13.row).prog 24) (kwd := []) K13.ob_eq
    (by kernel_rfl) (fun s => by kernel_rfl) K13.run_top (by kernel_rfl) (by kernel_rfl) (by kernel_rfl) (by rfl) (by first | assumption | decide +kernel) (by decide +kernel) ⟨rfl, rfl, rfl, rfl, rfl, by decide +kernel⟩ ?hw ?hc
  case hw => w_witness2
  case hc =>
    have nm : (HandSHeadRun.topDef (OpenLaw.row K13.row).prog 24).name = ("law" : PySem.Str) := by kernel_rfl
    refine walk_tab (l := K13.row) (n := 63) (dep := dep) (fuel := fuel) (x := "_law_script") (G := fun _ => none) (T := tabL K13.L) (fn := K13.f_law) rfl (by decide) (by kernel_rfl) room (by rw [nm]; rfl) rfl ?F (fun zs hz => ?P)
    case P =>
      rw [nm, K13.same]
      exact plain zs hz
    case F =>
      intro w mg h Y N
      obtain ⟨K, X, c⟩ := Y
      exact ⟨K, X, tab_of X N c K13.chk (fun x v e => nomatch e)⟩
end
theorem PySem.Challenge.cw_asmuchas_k13_rows_reckoned_holds : PySem.Challenge.rw_asmuchas_k13_rows_reckoned.Holds := by
  exact A46.K13.holds_of (dep := 10) (fuel := A46.K13.fuel) ⟨rfl, by decide, by decide⟩ A46.K13.all
