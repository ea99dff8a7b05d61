import PyProof.Rows.All
import PySem.Syntax
import PySem.PyData
import PyProof.TableCode
import Wide.All
import OpenK.AllK
import Wide.FinOn
import HandS.ForMost
import HandS.Exc
import HandS.Lambda
import HandS.Words
import KE.KDictKeyed
import HandS.Dict
import HandS.SetKeys
import HandS.Wide
import HandS.TupAny
import HandS.TupMul
import HandS.Style
import HandS.TupLe
import HandS.Conv
import HandS.IsInst
import HandS.Deep
import HandS.Text
import HandS.Codes
import HandS.Iter
import HandS.Zip
import HandS.Sort
import HandS.SortInts
import KE.GoesMore
import KE.GoesEnum
import KE.GoesZip
import HandS.Comp
import HandS.Strs
import HandS.ExcInit
import KE.KExcSuper
import HandS.ExcField
import HandS.SetFor
import HandS.TupSets
import KE.KDictWalk
import HandS.More
import HandS.Defaults
import HandS.HeadHook4
import HandS.HeadWalk
import HandS.Head0
import HandS.Head1
import HandS.Head2
import PySem.Challenge.RW_guessfewest_k01_whole_rows_that_are_move
section
set_option autoImplicit false
set_option linter.all false
namespace Mi
open PySem (Str)

/-- values -/
inductive PV where
  | non
  | bl (b : Bool)
  | int (i : Int)
  | str (x : Str)
  | tup (xs : List PV)
  | loc (l : Nat)
  | rng (lo hi : Int)
  | seq (ns : List Int)
deriving Inhabited

/-- what stands at a location -/
inductive MO where
  | lst (xs : List PV)
  | dct (kvs : List (PV × PV))
  | ins (c : Nat) (fs : List (Str × PV))
deriving Inhabited

abbrev MH := List MO
abbrev Env := List (Option PV)

inductive Res (α : Type) where
  | ok (a : α) (m : MH)
  | exc (c : Nat) (v : PV) (m : MH)
  | stuck

def Res.bind {α β : Type} (r : Res α) (k : α → MH → Res β) : Res β :=
  match r with
  | .ok a m => k a m
  | .exc c v m => .exc c v m
  | .stuck => .stuck

@[simp] theorem Res.bind_ok {α β : Type} (a : α) (m : MH) (k : α → MH → Res β) : (Res.ok a m).bind k = k a m := rfl
@[simp] theorem Res.bind_exc {α β : Type} (c : Nat) (v : PV) (m : MH) (k : α → MH → Res β) : (Res.exc c v m : Res α).bind k = .exc c v m := rfl
@[simp] theorem Res.bind_stuck {α β : Type} (k : α → MH → Res β) : (Res.stuck : Res α).bind k = .stuck := rfl

mutual
/-- the same tree -/
def beqP : PV → PV → Bool
  | .non, .non => true
  | .bl a, .bl b => a == b
  | .int a, .int b => a == b
  | .str a, .str b => decide (a = b)
  | .tup a, .tup b => beqPs a b
  | .loc a, .loc b => a == b
  | .rng a b, .rng c d => a == c && b == d
  | .seq a, .seq b => decide (a = b)
  | _, _ => false
def beqPs : List PV → List PV → Bool
  | [], [] => true
  | x :: xs, y :: ys => beqP x y && beqPs xs ys
  | _, _ => false
end
mutual
/-- no location within -/
def pure : PV → Bool
  | .loc _ => false
  | .rng _ _ => false
  | .seq _ => false
  | .tup xs => pures xs
  | .str x => x.cps.toList.all fun c => decide (c < 1114112)
  | _ => true
def pures : List PV → Bool
  | [] => true
  | x :: xs => pure x && pures xs
end
mutual
def depth : PV → Nat
  | .tup xs => depths xs + 1
  | _ => 0
def depths : List PV → Nat
  | [] => 0
  | x :: xs => max (depth x) (depths xs)
end
mutual
/-- Python's == of trees without locations -/
def eqv : PV → PV → Bool
  | .non, .non => true
  | .bl a, .bl b => a == b
  | .bl a, .int b => (if a then (1 : Int) else 0) == b
  | .int a, .bl b => a == (if b then (1 : Int) else 0)
  | .int a, .int b => a == b
  | .str a, .str b => decide (a = b)
  | .tup a, .tup b => eqvs a b
  | _, _ => false
def eqvs : List PV → List PV → Bool
  | [], [] => true
  | x :: xs, y :: ys => eqv x y && eqvs xs ys
  | _, _ => false
end
mutual
/-- the order of ints and of tuples of such; none: not served -/
def cmpP : PV → PV → Option Ordering
  | .int a, .int b => some (if a < b then .lt else if a = b then .eq else .gt)
  | .tup a, .tup b => cmpPs a b
  | _, _ => none
def cmpPs : List PV → List PV → Option Ordering
  | [], [] => some .eq
  | [], _ :: _ => some .lt
  | _ :: _, [] => some .gt
  | x :: xs, y :: ys => match cmpP x y with
    | some .eq => cmpPs xs ys
    | some o => (cmpPs xs ys).map fun _ => o
    | none => none
end
def ltP (a b : PV) : Option Bool := (cmpP a b).map fun o => o == .lt

/-- insertion into a rising list, behind what is not greater -/
def insP (x : PV) : List PV → Option (List PV)
  | [] => some [x]
  | y :: ys => match cmpP x y with
    | some .lt => some (x :: y :: ys)
    | some _ => (insP x ys).map (y :: ·)
    | none => none
/-- sorted, from the left -/
def sortP : List PV → Option (List PV)
  | [] => some []
  | x :: xs => match sortP xs with
    | none => none
    | some ys => insF x ys
where
  /-- ahead of what is not less -/
  insF (x : PV) : List PV → Option (List PV)
  | [] => some [x]
  | y :: ys => match cmpP y x with
    | some .lt => (insF x ys).map (y :: ·)
    | some _ => some (x :: y :: ys)
    | none => none
def memP (x : PV) : List PV → Bool
  | [] => false
  | y :: ys => beqP x y || memP x ys
/-- each once, the first place of each -/
def dedup : List PV → List PV → List PV
  | [], acc => acc.reverse
  | x :: xs, acc => if memP x acc then dedup xs acc else dedup xs (x :: acc)

def listAt (m : MH) (l : Nat) : Option (List PV) :=
  match m[l]? with
  | some (.lst xs) => some xs
  | _ => none
def wlistAt (m : MH) (l : Nat) : Option (List PV) :=
  match m[l]? with
  | some (.lst xs) => some xs
  | _ => none
def dictAt (m : MH) (l : Nat) : Option (List (PV × PV)) :=
  match m[l]? with
  | some (.dct kvs) => some kvs
  | _ => none
def insAt (m : MH) (l : Nat) : Option (Nat × List (Str × PV)) :=
  match m[l]? with
  | some (.ins c fs) => some (c, fs)
  | _ => none
def look (k : PV) : List (PV × PV) → Option PV
  | [] => none
  | (j, v) :: r => if beqP j k then some v else look k r
def put (k v : PV) : List (PV × PV) → List (PV × PV)
  | [] => [(k, v)]
  | (j, u) :: r => if beqP j k then (j, v) :: r else (j, u) :: put k v r
def fget (f : Str) : List (Str × PV) → Option PV
  | [] => none
  | (g, v) :: r => if decide (g = f) then some v else fget f r
def fput (f : Str) (v : PV) : List (Str × PV) → List (Str × PV)
  | [] => [(f, v)]
  | (g, u) :: r => if decide (g = f) then (g, v) :: r else (g, u) :: fput f v r
mutual
/-- keys: ints, texts, tuples of keys -/
def keyTr : PV → Bool
  | .int _ => true
  | .str _ => true
  | .tup xs => keyTrs xs
  | _ => false
def keyTrs : List PV → Bool
  | [] => true
  | x :: xs => keyTr x && keyTrs xs
end
def isTupP : PV → Bool
  | .tup _ => true
  | _ => false
/-- a key that is served by a dict of such keys: atoms alone, or tuples alone -/
def kOk (k : PV) (kvs : List (PV × PV)) : Bool := keyTr k && decide (depth k ≤ 7) && kvs.all fun p => isTupP p.1 == isTupP k

def lineP : Nat := 16777216

inductive Bop where
  | add | sub | mul | fdiv | mod | pow
deriving DecidableEq
inductive Cop where
  | eq | ne | lt | le | gt | ge | isn | ison | inn | nin
deriving DecidableEq
inductive Ty where
  | int | bool | str | tuple | list
deriving DecidableEq
/-- built-ins of values by name -/
inductive Bi where
  | len | abs | int | str | min2 | max2
deriving DecidableEq
/-- built-ins that take a walked thing -/
inductive Bl where
  | sum | all | any | min | max | lenset
deriving DecidableEq
inductive Tgt where
  | one (i : Nat)
  | two (i j : Nat)
  | three (i j k : Nat)
  | nest (i j k : Nat)
deriving DecidableEq
/-- methods of built-in types -/
inductive Mt where
  | append | index | count | get | pop
deriving DecidableEq

inductive Ex where
  | var (i : Nat)
  | cst (v : PV)
  | glb (g : Nat)
  | bin (op : Bop) (a b : Ex)
  | neg (a : Ex)
  | cmp (op : Cop) (a b : Ex)
  | chn (o1 o2 : Cop) (a b c : Ex)
  | and (a b : Ex)
  | or (a b : Ex)
  | not (a : Ex)
  | ife (c a b : Ex)
  | tup (es : List Ex)
  | lst (es : List Ex)
  | dct (es : List Ex)
  | pick (ks : List Str) (es : List Ex) (i : Ex)
  | idx (a i : Ex)
  | slc (a : Ex) (lo hi : Option Ex)
  | rev (a : Ex)
  | call (f : Nat) (es : List Ex)
  | callk (f : Nat) (es : List Ex) (pm : List Nat)
  | meth (c f : Nat) (o : Ex) (es : List Ex)
  | new (c f : Nat) (es : List Ex)
  | fld (o : Ex) (f : Str)
  | bi (b : Bi) (es : List Ex)
  | bl (b : Bl) (a : Ex)
  | isi (t : Ty) (a : Ex)
  | tof (a : Ex)
  | lof (a : Ex)
  | srt (a : Ex)
  | srk (a : Ex)
  | lset (a : Ex)
  | srs (a : Ex)
  | dof (a : Ex)
  | rng1 (a : Ex)
  | rng2 (a b : Ex)
  | zip (a b : Ex)
  | enu (a : Ex)
  | lcat (a b : Ex)
  | lslc (a : Ex) (lo hi : Option Ex)
  | lrep (a k : Ex)
  | mt (m : Mt) (o : Ex) (es : List Ex)
  | ext (o a : Ex)
  | join (o a : Ex)
  | split (o a : Ex)
  | sda (d k v : Ex)
  | gget (g : Nat) (k d : Ex)
  | lcm (own : List Nat) (tg : Tgt) (it : Ex) (cs : List Ex) (e : Ex)
  | lam (f : Nat) (e : Ex)

inductive St where
  | set (i : Nat) (e : Ex)
  | unp (is : List Nat) (e : Ex)
  | par (is : List Nat) (es : List Ex)
  | aug (i : Nat) (e : Ex)
  | sti (o i e : Ex)
  | fst (o : Ex) (f : Str) (e : Ex)
  | exp (e : Ex)
  | ret (e : Ex)
  | ife (c : Ex) (a b : List St)
  | wle (c : Ex) (b : List St)
  | for (tg : Tgt) (it : Ex) (b : List St)
  | rse (c : Nat) (e : Ex)
  | cat (c : Nat) (e : Ex)
  | pas

/-- how a def's result leaves: as it stands; what was made within is dropped; a list of trees is handed out; a list of lists of trees -/
inductive Lv where
  | asis | drop | list | table | raw
deriving DecidableEq
/-- such a def, asked of trees alone, runs as from nothing -/
def Lv.lifts : Lv → Bool
  | .table => false
  | .raw => false
  | _ => true
structure Def where
  np : Nat
  ns : Nat
  lv : Lv
  body : List St
structure Prog where
  glob : Nat → Option PV
  defs : Nat → Option Def

/-- an end of an expression: a value, or a list that nobody else knows -/
inductive XV where
  | val (v : PV)
  | tmp (xs : List PV)
  | its (src : List (Nat × List PV)) (xs : List PV)

def alloc (o : MO) (m : MH) : Res PV := .ok (.loc m.length) (m ++ [o])
def toV : XV → MH → Res PV
  | .val v, m => .ok v m
  | .tmp xs, m => alloc (.lst xs) m
  | .its _ _, _ => .stuck
/-- the items of a list, a tuple, a text (sign by sign), a range -/
def itemsOf (v : PV) (m : MH) : Option (List PV) :=
  match v with
  | .tup xs => some xs
  | .loc l => listAt m l
  | .str x => some (x.cps.toList.map fun c => PV.str ⟨#[c]⟩)
  | .seq ns => some (ns.map PV.int)
  | .rng lo hi => if decide (-1000000 ≤ lo) && decide (lo ≤ 1000000) && decide (-1000000 ≤ hi) && decide (hi ≤ 1000000) then some ((List.range (hi - lo).toNat).map fun (i : Nat) => PV.int (lo + (i : Int))) else none
  | _ => none
def toL : XV → MH → Res (List PV)
  | .tmp xs, m => .ok xs m
  | .its _ xs, m => .ok xs m
  | .val v, m => match itemsOf v m with
    | some xs => .ok xs m
    | none => .stuck
/-- lists alone -/
def toLL : XV → MH → Res (List PV)
  | .tmp xs, m => .ok xs m
  | .val (.loc l), m => match listAt m l with
    | some xs => .ok xs m
    | none => .stuck
  | .val (.seq ns), m => .ok (ns.map PV.int) m
  | _, _ => .stuck
/-- lists that are no script -/
def toM : XV → MH → Res (List PV)
  | .tmp xs, m => .ok xs m
  | .val (.loc l), m => match listAt m l with
    | some xs => .ok xs m
    | none => .stuck
  | _, _ => .stuck
/-- what tuple() and list() take -/
def toC : XV → MH → Res (List PV)
  | .val (.str _), _ => .stuck
  | .its _ _, _ => .stuck
  | x, m => toL x m
def ofO {α : Type} (o : Option α) (m : MH) : Res α :=
  match o with
  | some a => .ok a m
  | none => .stuck
def guard {α : Type} (b : Bool) (r : Res α) : Res α := if b then r else .stuck
def ofB (o : Option Bool) (m : MH) : Res PV := ofO (o.map PV.bl) m

def fitsI (i : Int) : Bool := decide (i.natAbs < 18446744073709551616)
def binV (op : Bop) (v w : PV) (m : MH) : Res PV :=
  match op, v, w with
  | .add, .int i, .int j => .ok (.int (i + j)) m
  | .add, .str x, .str y => guard (decide (x.length + y.length ≤ lineP)) (.ok (.str (x ++ y)) m)
  | .add, .tup xs, .tup ys => guard (decide (xs.length + ys.length ≤ lineP)) (.ok (.tup (xs ++ ys)) m)
  | .sub, .int i, .int j => .ok (.int (i - j)) m
  | .mul, .int i, .int j => guard (fitsI i || fitsI j) (.ok (.int (i * j)) m)
  | .mul, .tup xs, .int k => guard (decide (2 ≤ k) && decide (k ≤ 100) && decide (1 ≤ xs.length) && decide (xs.length ≤ 100)) (.ok (.tup (List.replicate k.toNat xs).flatten) m)
  | .mul, .str x, .int k => guard (decide (2 ≤ k) && decide (k ≤ 1000) && decide (1 ≤ x.length) && decide (x.length ≤ 100)) (.ok (.str ⟨(List.replicate k.toNat x.cps.toList).flatten.toArray⟩) m)
  | .fdiv, .int i, .int j => guard (decide (0 < j) && decide (j < 9223372036854775808)) (.ok (.int (i / j)) m)
  | .mod, .int i, .int j => guard (decide (0 < j)) (.ok (.int (i % j)) m)
  | .pow, .int i, .int j => guard (decide (0 ≤ j) && decide (j ≤ 1000) && fitsI i) (.ok (.int (i ^ j.toNat)) m)
  | _, _, _ => .stuck
/-- the tree or list as flat data for ==: a list is told by its items -/
def sideOf (v : PV) (m : MH) : Option (Bool × PV) :=
  match v with
  | .loc l => match listAt m l with
    | some xs => if pures xs && decide (depths xs ≤ 60) then some (true, .tup xs) else none
    | none => none
  | v => if pure v && decide (depth v ≤ 60) then some (false, v) else none
def eqH (m : MH) (v w : PV) : Option Bool :=
  match sideOf v m, sideOf w m with
  | some (a, x), some (b, y) => some (if a == b then eqv x y else false)
  | _, _ => none
def isIn (m : MH) (v w : PV) : Option Bool :=
  match w with
  | .str y => match v with
    | .str x => if decide (x.length = 1) then some (y.cps.toList.any fun c => decide (x = ⟨#[c]⟩)) else none
    | _ => none
  | .loc l => match m[l]? with
    | some (.dct kvs) => if kOk v kvs then some (look v kvs).isSome else none
    | some (.lst xs) => if pure v && pures xs && decide (depths (v :: xs) ≤ 60) then some (xs.any fun z => eqv z v) else none
    | _ => none
  | .tup xs => if pure v && pures xs && decide (depths (v :: xs) ≤ 60) then some (xs.any fun z => eqv z v) else none
  | _ => none
def cmpV (op : Cop) (v w : PV) (m : MH) : Option Bool :=
  match op with
  | .eq => eqH m v w
  | .ne => (eqH m v w).map (!·)
  | .lt => match v, w with
    | .int i, .int j => some (decide (i < j))
    | _, _ => none
  | .le => match v, w with
    | .int i, .int j => some (decide (i ≤ j))
    | _, _ => none
  | .gt => match v, w with
    | .int i, .int j => some (decide (j < i))
    | _, _ => none
  | .ge => match v, w with
    | .int i, .int j => some (decide (j ≤ i))
    | _, _ => none
  | .isn => match w with
    | .non => some (match v with | .non => true | _ => false)
    | .bl b => match v with
      | .bl a => some (a == b)
      | _ => none
    | _ => none
  | .ison => match w with
    | .non => some (match v with | .non => false | _ => true)
    | _ => none
  | .inn => isIn m v w
  | .nin => (isIn m v w).map (!·)
/-- the place of an index among n -/
def ixOf (n : Nat) (i : Int) : Option Nat :=
  if 0 ≤ i then (if i.toNat < n then some i.toNat else none)
  else (if 0 ≤ i + n then some (i + n).toNat else none)
def idxV (v w : PV) (m : MH) : Option PV :=
  match v, w with
  | .tup xs, .int i => (ixOf xs.length i).bind fun k => xs[k]?
  | .loc l, w => match m[l]? with
    | some (.dct kvs) => if kOk w kvs then look w kvs else none
    | some (.lst xs) => match w with
      | .int i => (ixOf xs.length i).bind fun k => xs[k]?
      | _ => none
    | _ => none
  | .seq ns, .int i => ((ixOf ns.length i).bind fun k => ns[k]?).map PV.int
  | .str x, .int i => if x.length ≤ lineP then (ixOf x.cps.toList.length i).bind fun k => (x.cps.toList[k]?).map fun c => PV.str ⟨#[c]⟩ else none
  | _, _ => none
/-- a slice's bound as a place -/
def bnd (n : Nat) (d : Nat) : Option Int → Nat
  | none => d
  | some v => if v < 0 then (v + (n : Int)).toNat else min v.toNat n
def cut {α : Type} (xs : List α) (lo hi : Option Int) : List α := (xs.drop (bnd xs.length 0 lo)).take (bnd xs.length xs.length hi - bnd xs.length 0 lo)
def slcV (v : PV) (lo hi : Option Int) (m : MH) : Option PV :=
  match v with
  | .tup xs => some (.tup (cut xs lo hi))
  | .str x => if x.length ≤ lineP then some (.str ⟨(cut x.cps.toList lo hi).toArray⟩) else none
  | _ => none
def isiV (t : Ty) (v : PV) (m : MH) : Option Bool :=
  match v with
  | .non => some false
  | .bl _ => some (t == .int || t == .bool)
  | .int _ => some (t == .int)
  | .str _ => some (t == .str)
  | .tup _ => some (t == .tuple)
  | .loc l => match m[l]? with
    | some (.lst _) => some (t == .list)
    | _ => none
  | .rng _ _ => none
  | .seq _ => none
def lenV (v : PV) (m : MH) : Option Nat :=
  match v with
  | .tup xs => some xs.length
  | .str x => if x.length ≤ lineP then some x.length else none
  | .loc l => match m[l]? with
    | some (.lst xs) => some xs.length
    | _ => none
  | .seq ns => some ns.length
  | _ => none
/-- digits of a text -/
def digs : List Nat → Nat → Option Nat
  | [], acc => some acc
  | c :: r, acc => if 48 ≤ c ∧ c ≤ 57 then digs r (acc * 10 + (c - 48)) else none
def biV (b : Bi) (vs : List PV) (m : MH) : Option PV :=
  match b, vs with
  | .len, [v] => (lenV v m).map fun n => .int (n : Nat)
  | .abs, [.int i] => some (.int (if i < 0 then -i else i))
  | .int, [.int i] => some (.int i)
  | .int, [.str x] => if false && decide (1 ≤ x.length) && decide (x.length ≤ 2) then (digs x.cps.toList 0).map fun n => .int (n : Nat) else none
  | .str, [.int i] => if fitsI i then some (.str (toString i : String)) else none
  | .min2, [.int i, .int j] => some (.int (if j < i then j else i))
  | .max2, [.int i, .int j] => some (.int (if j > i then j else i))
  | _, _ => none
def sumI : List PV → Int → Option Int
  | [], acc => some acc
  | .int i :: r, acc => sumI r (acc + i)
  | _, _ => none
def bools : List PV → Option (List Bool)
  | [] => some []
  | .bl b :: r => (bools r).map (b :: ·)
  | _ => none
/-- the least, the first of equal ones -/
def leastP : List PV → PV → Option PV
  | [], b => some b
  | x :: r, b => match cmpP x b with
    | some .lt => leastP r x
    | some _ => leastP r b
    | none => none
def leastI : List PV → Int → Option Int
  | [], b => some b
  | .int x :: r, b => leastI r (if x < b then x else b)
  | _, _ => none
def mostI : List PV → Int → Option Int
  | [], b => some b
  | .int x :: r, b => mostI r (if x > b then x else b)
  | _, _ => none
/-- ints alone -/
def intsB (xs : List PV) : Bool := xs.all fun v => match v with
  | .int _ => true
  | _ => false
/-- d small ints -/
def tupIB (d : Nat) (v : PV) : Bool := match v with
  | .tup l => decide (l.length = d) && l.all fun z => match z with
    | .int i => decide (0 ≤ i) && decide (i < 4096)
    | _ => false
  | _ => false
/-- what sets are made of: ints, or tuples of as many small ints each -/
def setOk (xs : List PV) : Bool := intsB xs || match xs with
  | .tup l :: _ => decide (1 ≤ l.length) && xs.all (tupIB l.length)
  | _ => false
def blV (b : Bl) (xs : List PV) : Option PV :=
  match b, xs with
  | .sum, xs => (sumI xs 0).map .int
  | .all, xs => (bools xs).map fun bs => .bl (bs.all id)
  | .any, xs => (bools xs).map fun bs => .bl (bs.any id)
  | .min, .int x :: r => (leastI r x).map .int
  | .max, .int x :: r => (mostI r x).map .int
  | .lenset, xs => if setOk xs && decide ((dedup xs []).length < 63) then some (.int ((dedup xs []).length : Nat)) else none
  | _, _ => none
/-- methods by values; a change of the receiver comes back as a heap -/
def splitC (c : Nat) : List Nat → List Nat → List (List Nat)
  | [], acc => [acc.reverse]
  | d :: r, acc => if d = c then acc.reverse :: splitC c r [] else splitC c r (d :: acc)
def joinC (sep : List Nat) : List PV → Option (List Nat)
  | [] => some []
  | [.str x] => some x.cps.toList
  | .str x :: y :: r => (joinC sep (y :: r)).map fun t => x.cps.toList ++ sep ++ t
  | _ => none
def indexOf (v : PV) : List PV → Nat → Option Nat
  | [], _ => none
  | x :: r, k => if eqv x v then some k else indexOf v r (k + 1)
def countOf (v : PV) : List PV → Nat
  | [] => 0
  | x :: r => (if eqv x v then 1 else 0) + countOf v r
def plainIn (v : PV) (xs : List PV) : Bool := pure v && pures xs && decide (depths (v :: xs) ≤ 60)
def appV (o : PV) (vs : List PV) (m : MH) : Res PV :=
  match o, vs with
  | .loc l, [v] => match wlistAt m l with
    | some xs => guard (decide (xs.length < lineP)) (.ok .non (m.set l (.lst (xs ++ [v]))))
    | none => .stuck
  | _, _ => .stuck
def popV (o : PV) (vs : List PV) (m : MH) : Res PV :=
  match o, vs with
  | .loc l, [] => match wlistAt m l with
    | some xs => match xs.getLast? with
      | some v => .ok v (m.set l (.lst xs.dropLast))
      | none => .stuck
    | none => .stuck
  | _, _ => .stuck
def indexV (o : PV) (vs : List PV) (m : MH) : Res PV :=
  match vs with
  | [v] => match o with
    | .loc l => match wlistAt m l with
      | some xs => guard (plainIn v xs) (ofO ((indexOf v xs 0).map fun k => PV.int (k : Nat)) m)
      | none => .stuck
    | .tup xs => guard (plainIn v xs) (ofO ((indexOf v xs 0).map fun k => PV.int (k : Nat)) m)
    | .str x => match v with
      | .str y => match y.cps.toList with
        | [c] => ofO ((x.cps.toList.findIdx? (· == c)).map fun k => PV.int (k : Nat)) m
        | _ => .stuck
      | _ => .stuck
    | _ => .stuck
  | _ => .stuck
def countV (o : PV) (vs : List PV) (m : MH) : Res PV :=
  match o, vs with
  | .tup xs, [v] => guard (plainIn v xs) (.ok (.int (countOf v xs : Nat)) m)
  | _, _ => .stuck
def getV (o : PV) (vs : List PV) (m : MH) : Res PV :=
  match o, vs with
  | .loc l, [k, d] => match dictAt m l with
    | some kvs => guard (kOk k kvs) (.ok ((look k kvs).getD d) m)
    | none => .stuck
  | _, _ => .stuck
def mtV (t : Mt) (o : PV) (vs : List PV) (m : MH) : Res PV :=
  match t with
  | .append => appV o vs m
  | .pop => popV o vs m
  | .index => indexV o vs m
  | .count => countV o vs m
  | .get => getV o vs m
/-- the receiver is of a kind that has the method -/
def recvOk (t : Mt) (o : PV) (m : MH) : Bool :=
  match t, o with
  | .get, .loc _ => false
  | .count, .loc _ => false
  | _, .loc l => (listAt m l).isSome
  | .index, .tup _ => true
  | .count, .tup _ => true
  | .index, .str _ => false
  | _, _ => false
/-- steps over lists that nobody else need know -/
def extV (o : PV) (ys : List PV) (m : MH) : Res PV :=
  match o with
  | .loc l => match wlistAt m l with
    | some xs => guard (decide (xs.length + ys.length ≤ lineP)) (.ok .non (m.set l (.lst (xs ++ ys))))
    | none => .stuck
  | _ => .stuck
def isDct (d : PV) (m : MH) : Bool := match d with
  | .loc l => (dictAt m l).isSome
  | _ => false
def sdaV (d k v : PV) (m : MH) : Res PV :=
  match d with
  | .loc l => match dictAt m l with
    | some kvs => guard (kOk k kvs && decide (kvs.length < lineP)) (match look k kvs with
      | some (.loc j) => match wlistAt m j with
        | some xs => guard (decide (xs.length < lineP)) (.ok .non (m.set j (.lst (xs ++ [v]))))
        | none => .stuck
      | some _ => .stuck
      | none => .ok .non ((m.set l (.dct (put k (.loc m.length) kvs))) ++ [.lst [v]]))
    | none => .stuck
  | _ => .stuck
def dictOf : List PV → List (PV × PV) → Option (List (PV × PV))
  | [], acc => some acc
  | .tup [k, v] :: r, acc => if kOk k acc then dictOf r (put k v acc) else none
  | _, _ => none

def enum : Nat → List PV → List PV
  | _, [] => []
  | n, x :: xs => .tup [.int (n : Nat), x] :: enum (n + 1) xs
def pairUp : List PV → Option (List PV)
  | [] => some []
  | k :: v :: r => (pairUp r).map (PV.tup [k, v] :: ·)
  | _ => none
def bindT (tg : Tgt) (v : PV) (e : Env) : Option Env :=
  match tg, v with
  | .one i, v => some (e.set i (some v))
  | .two i j, .tup [a, b] => some ((e.set i (some a)).set j (some b))
  | .three i j k, .tup [a, b, c] => some (((e.set i (some a)).set j (some b)).set k (some c))
  | .nest i j k, .tup [a, .tup [b, c]] => some (((e.set i (some a)).set j (some b)).set k (some c))
  | _, _ => none
def wipe (own : List Nat) (e : Env) : Env := own.foldl (fun e i => e.set i none) e
/-- the turns of a comprehension; src: the list that must stand as it stood -/
def srcOk (src : List (Nat × List PV)) (m : MH) : Bool := src.all fun p => match listAt m p.1 with
  | some zs => beqPs p.2 zs
  | none => false
def lcLoop (src : List (Nat × List PV)) (tg : Tgt) (f : Env → MH → Res Bool) (g : Env → MH → Res PV) (e : Env) : List PV → List PV → MH → Res (List PV)
  | [], acc, m => guard (srcOk src m) (.ok acc m)
  | x :: xs, acc, m =>
    guard (srcOk src m)
      (match bindT tg x e with
      | none => .stuck
      | some e1 => match f e1 m with
        | .ok true m1 => (match g e1 m1 with
          | .ok v m2 => guard (decide (acc.length < lineP)) (lcLoop src tg f g e xs (acc ++ [v]) m2)
          | _ => .stuck)
        | .ok false m1 => lcLoop src tg f g e xs acc m1
        | _ => .stuck)
def truth (v : PV) : Option Bool :=
  match v with
  | .bl b => some b
  | _ => none
def asB (r : Res PV) : Res Bool := r.bind fun v m => ofO (truth v) m
def srcOf (v : XV) (m : MH) : List (Nat × List PV) :=
  match v with
  | .val (.loc l) => match listAt m l with
    | some xs => [(l, xs)]
    | none => []
  | .its s _ => s
  | _ => []
/-- a list (true), a tuple (false) -/
def kindX (v : XV) (m : MH) : Option Bool :=
  match v with
  | .val (.loc l) => (listAt m l).map fun _ => true
  | .val (.seq _) => some true
  | .val (.tup _) => some false
  | .tmp _ => some true
  | _ => none
def sameK (x y : XV) (m : MH) : Bool :=
  match kindX x m, kindX y m with
  | some a, some b => !a || b
  | _, _ => false
def listK (x : XV) (m : MH) : Bool :=
  match kindX x m with
  | some a => a
  | none => false
/-- what is sorted: a dict's keys too -/
def toS (x : XV) (m : MH) : Res (List PV) :=
  match x with
  | .val (.loc l) => match m[l]? with
    | some (.dct kvs) => .ok (kvs.map (·.1)) m
    | some (.lst xs) => .ok xs m
    | _ => .stuck
  | x => toLL x m
def joinV (v : PV) (ys : List PV) : Option PV :=
  match v with
  | .str s => match joinC s.cps.toList ys with
    | some t => if t.length ≤ lineP then some (.str ⟨t.toArray⟩) else none
    | none => none
  | _ => none
def splitV (v w : PV) : Option (List PV) :=
  match v, w with
  | .str s, .str t => match t.cps.toList with
    | [c] => if s.length ≤ 100000 then some ((splitC c s.cps.toList []).map fun w => PV.str ⟨w.toArray⟩) else none
    | _ => none
  | _, _ => none
/-- a look into a written table: pairs of a text and a value -/
def ggetV (g : Option PV) (k d : PV) : Option PV :=
  match g, k with
  | some (.tup ps), .str x => some ((lookS x ps).getD d)
  | _, _ => none
where
  lookS (x : Str) : List PV → Option PV
  | .tup [.str y, v] :: r => if decide (y = x) then some v else lookS x r
  | _ => none
/-- a look into a dict display with texts as keys -/
def lookK (x : Str) : List Str → List PV → Option PV
  | k :: ks, v :: vs => if decide (k = x) then some v else lookK x ks vs
  | _, _ => none
def permute (pm : List Nat) (vs : List PV) : Option (List PV) := pm.mapM fun i => vs[i]?

section
variable (P : Prog) (C : Nat → List PV → MH → Res PV)
mutual
def evX : Ex → Env → MH → Res XV
  | .var i, e, m => (match e[i]? with
    | some (some v) => .ok (.val v) m
    | _ => .stuck)
  | .cst v, e, m => .ok (.val v) m
  | .glb g, e, m => (ofO (P.glob g) m).bind fun v m => .ok (.val v) m
  | .bin op a b, e, m => ((evX a e m).bind toV).bind fun v m => ((evX b e m).bind toV).bind fun w m => (binV op v w m).bind fun u m => .ok (.val u) m
  | .neg a, e, m => ((evX a e m).bind toV).bind fun v m => (match v with
    | .int i => .ok (.val (.int (-i))) m
    | _ => .stuck)
  | .cmp op a b, e, m => ((evX a e m).bind toV).bind fun v m => ((evX b e m).bind toV).bind fun w m => (ofB (cmpV op v w m) m).bind fun u m => .ok (.val u) m
  | .chn o1 o2 a b c, e, m => ((evX a e m).bind toV).bind fun v m => ((evX b e m).bind toV).bind fun w m => (ofO (cmpV o1 v w m) m).bind fun t m =>
      if t then ((evX c e m).bind toV).bind fun u m => (ofB (cmpV o2 w u m) m).bind fun u m => .ok (.val u) m else .ok (.val (.bl false)) m
  | .and a b, e, m => (asB ((evX a e m).bind toV)).bind fun t m => if t then evX b e m else .ok (.val (.bl false)) m
  | .or a b, e, m => (asB ((evX a e m).bind toV)).bind fun t m => if t then .ok (.val (.bl true)) m else evX b e m
  | .not a, e, m => (asB ((evX a e m).bind toV)).bind fun t m => .ok (.val (.bl (!t))) m
  | .ife c a b, e, m => (asB ((evX c e m).bind toV)).bind fun t m => if t then evX a e m else evX b e m
  | .tup es, e, m => (evs es e m).bind fun vs m => .ok (.val (.tup vs)) m
  | .lst es, e, m => (evs es e m).bind fun vs m => .ok (.tmp vs) m
  | .dct es, e, m => (evs es e m).bind fun ps m => (ofO (pairUp ps) m).bind fun ps m => (ofO (dictOf ps []) m).bind fun kvs m => (alloc (.dct kvs) m).bind fun v m => .ok (.val v) m
  | .pick ks es i, e, m => (evs es e m).bind fun vs m => ((evX i e m).bind toV).bind fun w m => (match w with
    | .str x => (ofO (lookK x ks vs) m).bind fun v m => .ok (.val v) m
    | _ => .stuck)
  | .idx a i, e, m => ((evX a e m).bind toV).bind fun v m => ((evX i e m).bind toV).bind fun w m => (ofO (idxV v w m) m).bind fun u m => .ok (.val u) m
  | .slc a lo hi, e, m => ((evX a e m).bind toV).bind fun v m => (evo lo e m).bind fun l m => (evo hi e m).bind fun h m => (ofO (slcV v l h m) m).bind fun u m => .ok (.val u) m
  | .rev a, e, m => ((evX a e m).bind toV).bind fun v m => (match v with
    | .tup xs => .ok (.val (.tup xs.reverse)) m
    | _ => .stuck)
  | .call f es, e, m => (evs es e m).bind fun vs m => (C f vs m).bind fun v m => .ok (.val v) m
  | .callk f es pm, e, m => (evs es e m).bind fun vs m => (ofO (permute pm vs) m).bind fun ws m => (C f ws m).bind fun v m => .ok (.val v) m
  | .meth c f o es, e, m => ((evX o e m).bind toV).bind fun v m => (match v with
    | .loc l => (match insAt m l with
      | some (c', _) => if c' = c then (evs es e m).bind fun vs m => (C f (.loc l :: vs) m).bind fun v m => .ok (.val v) m else .stuck
      | none => .stuck)
    | _ => .stuck)
  | .new c f es, e, m => (evs es e m).bind fun vs m => (C f (.loc m.length :: vs) (m ++ [.ins c []])).bind fun _ m' => .ok (.val (.loc m.length)) m'
  | .fld o f, e, m => ((evX o e m).bind toV).bind fun v m => (match v with
    | .loc l => (match insAt m l with
      | some (_, fs) => (ofO (fget f fs) m).bind fun v m => .ok (.val v) m
      | none => .stuck)
    | _ => .stuck)
  | .bi b es, e, m => (evs es e m).bind fun vs m => (ofO (biV b vs m) m).bind fun v m => .ok (.val v) m
  | .bl b a, e, m => (evX a e m).bind fun x m => (toLL x m).bind fun xs m => (ofO (blV b xs) m).bind fun v m => .ok (.val v) m
  | .isi t a, e, m => ((evX a e m).bind toV).bind fun v m => (ofB (isiV t v m) m).bind fun u m => .ok (.val u) m
  | .tof a, e, m => (evX a e m).bind fun x m => (toC x m).bind fun xs m => .ok (.val (.tup xs)) m
  | .lof a, e, m => (evX a e m).bind fun x m => (toC x m).bind fun xs m => .ok (.tmp xs) m
  | .srt a, e, m => (evX a e m).bind fun x m => (toLL x m).bind fun xs m => guard (intsB xs) ((ofO (sortP xs) m).bind fun ys m => .ok (.tmp ys) m)
  | .srk a, e, m => ((evX a e m).bind toV).bind fun v m => (match v with
    | .loc l => (match dictAt m l with
      | some kvs => guard (setOk (kvs.map (·.1)) && decide (kvs.length < 64)) ((ofO (sortP (kvs.map (·.1))) m).bind fun ys m => .ok (.tmp ys) m)
      | none => .stuck)
    | _ => .stuck)
  | .lset a, e, m => (evX a e m).bind fun x m => (toL x m).bind fun xs m => guard ((kindX x m).isSome && setOk xs && decide ((dedup xs []).length < 63)) (.ok (.val (.int ((dedup xs []).length : Nat))) m)
  | .srs a, e, m => (evX a e m).bind fun x m => (toL x m).bind fun xs m => guard ((kindX x m).isSome && setOk xs && decide ((dedup xs []).length < 63)) ((ofO (sortP (dedup xs [])) m).bind fun ys m => .ok (.tmp ys) m)
  | .dof a, e, m => ((evX a e m).bind toV).bind fun v m => (match v with
    | .tup ps => (ofO (dictOf ps []) m).bind fun kvs m => (alloc (.dct kvs) m).bind fun v m => .ok (.val v) m
    | _ => .stuck)
  | .rng1 a, e, m => ((evX a e m).bind toV).bind fun v m => (match v with
    | .int i => guard (decide (-1000000 ≤ i) && decide (i ≤ 1000000)) (.ok (.val (.rng 0 i)) m)
    | _ => .stuck)
  | .rng2 a b, e, m => ((evX a e m).bind toV).bind fun v m => ((evX b e m).bind toV).bind fun w m => (match v, w with
    | .int i, .int j => guard (decide (-1000000 ≤ i) && decide (i ≤ 1000000) && decide (-1000000 ≤ j) && decide (j ≤ 1000000)) (.ok (.val (.rng i j)) m)
    | _, _ => .stuck)
  | .zip a b, e, m => (evX a e m).bind fun x m => (evX b e m).bind fun y m => (toL x m).bind fun xs m => (toL y m).bind fun ys m => guard (sameK x y m) (.ok (.its (srcOf x m ++ srcOf y m) (List.zipWith (fun u v => PV.tup [u, v]) xs ys)) m)
  | .enu a, e, m => (evX a e m).bind fun x m => (toL x m).bind fun xs m => guard (kindX x m).isSome (.ok (.its (srcOf x m) (enum 0 xs)) m)
  | .lcat a b, e, m => (evX a e m).bind fun x m => (evX b e m).bind fun y m => (toM x m).bind fun xs m => (toM y m).bind fun ys m => guard (decide (xs.length + ys.length ≤ lineP)) (.ok (.tmp (xs ++ ys)) m)
  | .lslc a lo hi, e, m => (evX a e m).bind fun x m => (evo lo e m).bind fun l m => (evo hi e m).bind fun h m => (toLL x m).bind fun xs m => .ok (.tmp (cut xs l h)) m
  | .lrep a k, e, m => (evX a e m).bind fun x m => ((evX k e m).bind toV).bind fun w m => (toM x m).bind fun xs m => (match w with
    | .int k => guard (decide (0 ≤ k) && decide (k ≤ 100) && decide (xs.length ≤ 100)) (.ok (.tmp (List.replicate k.toNat xs).flatten) m)
    | _ => .stuck)
  | .ext o a, e, m => ((evX o e m).bind toV).bind fun v m => guard (recvOk .append v m) ((evX a e m).bind fun x m => (toM x m).bind fun ys m => (extV v ys m).bind fun u m => .ok (.val u) m)
  | .join o a, e, m => ((evX o e m).bind toV).bind fun v m => (evX a e m).bind fun x m => (toLL x m).bind fun ys m => (ofO (joinV v ys) m).bind fun u m => .ok (.val u) m
  | .split o a, e, m => ((evX o e m).bind toV).bind fun v m => ((evX a e m).bind toV).bind fun w m => (ofO (splitV v w) m).bind fun ys m => .ok (.tmp ys) m
  | .mt t o es, e, m => ((evX o e m).bind toV).bind fun v m => guard (recvOk t v m) ((evs es e m).bind fun vs m => (mtV t v vs m).bind fun u m => .ok (.val u) m)
  | .sda d k v, e, m => ((evX d e m).bind toV).bind fun d m => guard (isDct d m) (((evX k e m).bind toV).bind fun k m => ((evX v e m).bind toV).bind fun v m => (sdaV d k v m).bind fun u m => .ok (.val u) m)
  | .gget g k d, e, m => ((evX k e m).bind toV).bind fun k m => ((evX d e m).bind toV).bind fun d m => (ofO (ggetV (P.glob g) k d) m).bind fun u m => .ok (.val u) m
  | .lcm own tg it cs a, e, m => (evX it e m).bind fun x m => (toL x m).bind fun xs m => (lcLoop (srcOf x m) tg (fun e m => evc cs e m) (fun e m => ((evX a e m).bind toV)) (wipe own e) xs [] m).bind fun ys m => .ok (.tmp ys) m
  | .lam f a, e, m => (match ((evX a e m).bind toV) with
    | .ok _ m => .ok (.val (.str ⟨#[]⟩)) m
    | .exc c v m => if c = f then .ok (.val v) m else .stuck
    | .stuck => .stuck)
def evs : List Ex → Env → MH → Res (List PV)
  | [], e, m => .ok [] m
  | a :: r, e, m => ((evX a e m).bind toV).bind fun v m => (evs r e m).bind fun vs m => .ok (v :: vs) m
def evo : Option Ex → Env → MH → Res (Option Int)
  | none, e, m => .ok none m
  | some a, e, m => ((evX a e m).bind toV).bind fun v m => (match v with
    | .int i => .ok (some i) m
    | _ => .stuck)
def evc : List Ex → Env → MH → Res Bool
  | [], e, m => .ok true m
  | a :: r, e, m => (asB ((evX a e m).bind toV)).bind fun t m => if t then evc r e m else .ok false m
end
def ev (a : Ex) (e : Env) (m : MH) : Res PV := (evX P C a e m).bind toV
end

inductive Flow where
  | next (e : Env)
  | ret (v : PV)
def unpack (is : List Nat) (vs : List PV) (e : Env) : Option Env :=
  match is, vs with
  | [], [] => some e
  | i :: r, v :: t => unpack r t (e.set i (some v))
  | _, _ => none
/-- o[i] = v -/
def stiV (o i v : PV) (m : MH) : Option MH :=
  match o with
  | .loc l => match m[l]? with
    | some (.lst xs) => match i with
      | .int k => (ixOf xs.length k).map fun n => m.set l (.lst (xs.set n v))
      | _ => none
    | some (.dct kvs) => if kOk i kvs && decide (kvs.length < lineP) then some (m.set l (.dct (put i v kvs))) else none
    | _ => none
  | _ => none
def fstV (o : PV) (f : Str) (v : PV) (m : MH) : Option MH :=
  match o with
  | .loc l => match insAt m l with
    | some (c, fs) => if fs.length < 1000 then some (m.set l (.ins c (fput f v fs))) else none
    | none => none
  | _ => none
/-- the turns of a for -/
def forLoop (src : List (Nat × List PV)) (tg : Tgt) (f : Env → MH → Res Flow) : List PV → Env → MH → Res Flow
  | [], e, m => guard (srcOk src m) (.ok (.next e) m)
  | x :: xs, e, m =>
    guard (srcOk src m)
      (match bindT tg x e with
      | none => .stuck
      | some e1 => (f e1 m).bind fun fl m1 => match fl with
        | .next e2 => forLoop src tg f xs e2 m1
        | .ret v => .ok (.ret v) m1)
def whileLoop (c : Env → MH → Res Bool) (f : Env → MH → Res Flow) : Nat → Env → MH → Res Flow
  | 0, _, _ => .stuck
  | n + 1, e, m => (c e m).bind fun t m => if t then ((f e m).bind fun fl m => match fl with
      | .next e2 => whileLoop c f n e2 m
      | .ret v => .ok (.ret v) m) else .ok (.next e) m
def fuelW : Nat := 100000
section
variable (P : Prog) (C : Nat → List PV → MH → Res PV)
mutual
def exec : St → Env → MH → Res Flow
  | .set i a, e, m => (ev P C a e m).bind fun v m => .ok (.next (e.set i (some v))) m
  | .unp is a, e, m => (ev P C a e m).bind fun v m => (match v with
    | .tup vs => (ofO (unpack is vs e) m).bind fun e m => .ok (.next e) m
    | _ => .stuck)
  | .par is es, e, m => (evs P C es e m).bind fun vs m => (ofO (unpack is vs e) m).bind fun e m => .ok (.next e) m
  | .aug i a, e, m => (match e[i]? with
    | some (some (.int x)) => (ev P C a e m).bind fun v m => (match v with
      | .int y => .ok (.next (e.set i (some (.int (x + y))))) m
      | _ => .stuck)
    | _ => .stuck)
  | .sti o i a, e, m => (ev P C a e m).bind fun v m => (ev P C o e m).bind fun o m => (ev P C i e m).bind fun i m => (match stiV o i v m with
    | some m => .ok (.next e) m
    | none => .stuck)
  | .fst o f a, e, m => (ev P C a e m).bind fun v m => (ev P C o e m).bind fun o m => (match fstV o f v m with
    | some m => .ok (.next e) m
    | none => .stuck)
  | .exp a, e, m => (evX P C a e m).bind fun _ m => .ok (.next e) m
  | .ret a, e, m => (ev P C a e m).bind fun v m => .ok (.ret v) m
  | .ife c a b, e, m => (asB (ev P C c e m)).bind fun t m => if t then execs a e m else execs b e m
  | .wle c b, e, m => whileLoop (fun e m => asB (ev P C c e m)) (fun e m => execs b e m) fuelW e m
  | .for tg it b, e, m => (evX P C it e m).bind fun x m => (toL x m).bind fun xs m => forLoop (srcOf x m) tg (fun e m => execs b e m) xs e m
  | .rse c a, e, m => (ev P C a e m).bind fun v m => .exc c v m
  | .cat c a, e, m => (match ev P C a e m with
    | .ok _ m => .ok (.next e) m
    | .exc d v m => if d = c then .ok (.ret v) m else .stuck
    | .stuck => .stuck)
  | .pas, e, m => .ok (.next e) m
def execs : List St → Env → MH → Res Flow
  | [], e, m => .ok (.next e) m
  | s :: r, e, m => (exec s e m).bind fun fl m => (match fl with
    | .next e => execs r e m
    | .ret v => .ok (.ret v) m)
end
end
def beqKV : List (PV × PV) → List (PV × PV) → Bool
  | [], [] => true
  | (k, v) :: r, (k', v') :: r' => beqP k k' && beqP v v' && beqKV r r'
  | _, _ => false
def beqFs : List (Str × PV) → List (Str × PV) → Bool
  | [], [] => true
  | (k, v) :: r, (k', v') :: r' => decide (k = k') && beqP v v' && beqFs r r'
  | _, _ => false
def beqO : MO → MO → Bool
  | .lst a, .lst b => beqPs a b
  | .dct a, .dct b => beqKV a b
  | .ins c a, .ins d b => c == d && beqFs a b
  | _, _ => false
def pureO : MO → Bool
  | .lst xs => pures xs
  | .dct kvs => kvs.all fun p => pure p.1 && pure p.2
  | .ins _ fs => fs.all fun p => pure p.2
/-- the old objects stand as they stood, or hold trees alone -/
def oldOk : MH → MH → Bool
  | [], _ => true
  | o :: r, o' :: r' => (pureO o' || beqO o o') && oldOk r r'
  | _ :: _, [] => false
def tableOf (m : MH) : List PV → Option (List (List PV))
  | [] => some []
  | .loc l :: r => match wlistAt m l with
    | some xs => if pures xs then (tableOf m r).map (xs :: ·) else none
    | none => none
  | _ => none
def locsFrom : Nat → Nat → List PV
  | _, 0 => []
  | b, n + 1 => .loc b :: locsFrom (b + 1) n
def noDup : List PV → Bool
  | [] => true
  | x :: r => !memP x r && noDup r
def leave (lv : Lv) (m0 : MH) (v : PV) (m : MH) : Res PV :=
  match lv with
  | .asis => .ok v m
  | .raw => .ok v m
  | .drop => guard (pure v && oldOk m0 m) (.ok v (m.take m0.length))
  | .list => match v with
    | .loc l => match wlistAt m l with
      | some xs => guard (decide (m0.length ≤ l) && pures xs && oldOk m0 m) (alloc (.lst xs) (m.take m0.length))
      | none => .stuck
    | _ => .stuck
  | .table => match v with
    | .loc l => match wlistAt m l with
      | some ls => match tableOf m ls with
        | some xss => guard (decide (m0.length ≤ l) && noDup (v :: ls) && ls.all (fun x => match x with | .loc k => decide (m0.length ≤ k) | _ => false) && oldOk m0 m)
            (.ok (.loc (m0.length + xss.length)) (m.take m0.length ++ xss.map MO.lst ++ [.lst (locsFrom m0.length xss.length)]))
        | none => .stuck
      | none => .stuck
    | _ => .stuck
/-- an end reached from nothing, told from m -/
def lift (m : MH) : Res PV → Res PV
  | .ok v m1 => if pure v then .ok v m else (match v with
    | .loc l => (match listAt m1 l with
      | some xs => guard (pures xs) (.ok (.loc m.length) (m ++ [.lst xs]))
      | none => .stuck)
    | _ => .stuck)
  | .exc c v _ => guard (pure v) (.exc c v m)
  | .stuck => .stuck
def runB (P : Prog) (C : Nat → List PV → MH → Res PV) (d : Def) (vs : List PV) (m : MH) : Res PV :=
  (execs P C d.body (vs.map some ++ List.replicate (d.ns - d.np) none) m).bind fun fl m' => leave d.lv m (match fl with | .next _ => .non | .ret v => v) m'
def run (P : Prog) (C : Nat → List PV → MH → Res PV) (f : Nat) (vs : List PV) (m : MH) : Res PV :=
  match P.defs f with
  | none => .stuck
  | some d => guard (decide (vs.length = d.np)) (if d.lv.lifts && pures vs then lift m (runB P C d vs []) else runB P C d vs m)
def callD (P : Prog) : Nat → Nat → List PV → MH → Res PV
  | 0, _, _, _ => .stuck
  | n + 1, f, vs, m => run P (callD P n) f vs m
/-- what is walked: the lists that must stand, the items -/
def evI (P : Prog) (C : Nat → List PV → MH → Res PV) (a : Ex) (e : Env) (m : MH) : Res (List (Nat × List PV) × List PV) := (evX P C a e m).bind fun x m => (toL x m).bind fun xs m => .ok (srcOf x m, xs) m
end Mi
end

section
set_option autoImplicit false
set_option linter.all false
set_option maxRecDepth 100000
namespace Mi
open PySem (Str)
section
variable {P : Prog} {C : Nat → List PV → MH → Res PV}
@[simp] theorem asB_ok (b : Bool) (m : MH) : asB (.ok (.bl b) m) = .ok b m := rfl
@[simp] theorem toV_val (v : PV) (m : MH) : toV (.val v) m = .ok v m := rfl
@[simp] theorem toV_tmp (xs : List PV) (m : MH) : toV (.tmp xs) m = .ok (.loc m.length) (m ++ [.lst xs]) := rfl
@[simp] theorem toC_tmp (xs : List PV) (m : MH) : toC (.tmp xs) m = .ok xs m := rfl
@[simp] theorem toL_tmp (xs : List PV) (m : MH) : toL (.tmp xs) m = .ok xs m := rfl
@[simp] theorem toM_tmp (xs : List PV) (m : MH) : toM (.tmp xs) m = .ok xs m := rfl
@[simp] theorem toLL_tmp (xs : List PV) (m : MH) : toLL (.tmp xs) m = .ok xs m := rfl
@[simp] theorem ofO_some {α : Type} (a : α) (m : MH) : ofO (some a) m = .ok a m := rfl
@[simp] theorem ofB_some (b : Bool) (m : MH) : ofB (some b) m = .ok (.bl b) m := rfl
@[simp] theorem guard_true {α : Type} (r : Res α) : guard true r = r := rfl
theorem guard_of {α : Type} {b : Bool} (h : b = true) (r : Res α) : guard b r = r := by rw [h]; rfl
@[simp] theorem truth_bl (b : Bool) : truth (.bl b) = some b := rfl
@[simp] theorem x_cst (v : PV) (e : Env) (m : MH) : evX P C (.cst v) e m = .ok (.val v) m := by rw [evX]
@[simp] theorem x_var (i : Nat) (e : Env) (m : MH) : evX P C (.var i) e m = (match e[i]? with | some (some v) => .ok (.val v) m | _ => .stuck) := by rw [evX] <;> rfl
@[simp] theorem x_glb (g : Nat) (e : Env) (m : MH) : evX P C (.glb g) e m = (ofO (P.glob g) m).bind fun v m => .ok (.val v) m := by rw [evX]
@[simp] theorem x_bin (op : Bop) (a b : Ex) (e : Env) (m : MH) : evX P C (.bin op a b) e m = ((evX P C a e m).bind toV).bind fun v m => ((evX P C b e m).bind toV).bind fun w m => (binV op v w m).bind fun u m => .ok (.val u) m := by rw [evX]
@[simp] theorem x_cmp (op : Cop) (a b : Ex) (e : Env) (m : MH) : evX P C (.cmp op a b) e m = ((evX P C a e m).bind toV).bind fun v m => ((evX P C b e m).bind toV).bind fun w m => (ofB (cmpV op v w m) m).bind fun u m => .ok (.val u) m := by rw [evX]
@[simp] theorem x_chn (o1 o2 : Cop) (a b c : Ex) (e : Env) (m : MH) : evX P C (.chn o1 o2 a b c) e m = ((evX P C a e m).bind toV).bind fun v m => ((evX P C b e m).bind toV).bind fun w m => (ofO (cmpV o1 v w m) m).bind fun t m =>
      if t then ((evX P C c e m).bind toV).bind fun u m => (ofB (cmpV o2 w u m) m).bind fun u m => .ok (.val u) m else .ok (.val (.bl false)) m := by rw [evX]
@[simp] theorem x_and (a b : Ex) (e : Env) (m : MH) : evX P C (.and a b) e m = (asB ((evX P C a e m).bind toV)).bind fun t m => if t then evX P C b e m else .ok (.val (.bl false)) m := by rw [evX]
@[simp] theorem x_or (a b : Ex) (e : Env) (m : MH) : evX P C (.or a b) e m = (asB ((evX P C a e m).bind toV)).bind fun t m => if t then .ok (.val (.bl true)) m else evX P C b e m := by rw [evX]
@[simp] theorem x_not (a : Ex) (e : Env) (m : MH) : evX P C (.not a) e m = (asB ((evX P C a e m).bind toV)).bind fun t m => .ok (.val (.bl (!t))) m := by rw [evX]
@[simp] theorem x_ife (c a b : Ex) (e : Env) (m : MH) : evX P C (.ife c a b) e m = (asB ((evX P C c e m).bind toV)).bind fun t m => if t then evX P C a e m else evX P C b e m := by rw [evX]
@[simp] theorem x_tup (es : List Ex) (e : Env) (m : MH) : evX P C (.tup es) e m = (evs P C es e m).bind fun vs m => .ok (.val (.tup vs)) m := by rw [evX]
@[simp] theorem x_lst (es : List Ex) (e : Env) (m : MH) : evX P C (.lst es) e m = (evs P C es e m).bind fun vs m => .ok (.tmp vs) m := by rw [evX]
@[simp] theorem x_pick (ks : List Str) (es : List Ex) (i : Ex) (e : Env) (m : MH) : evX P C (.pick ks es i) e m = (evs P C es e m).bind fun vs m => ((evX P C i e m).bind toV).bind fun w m => (match w with
    | .str x => (ofO (lookK x ks vs) m).bind fun v m => .ok (.val v) m
    | _ => .stuck) := by rw [evX] <;> rfl
@[simp] theorem x_idx (a i : Ex) (e : Env) (m : MH) : evX P C (.idx a i) e m = ((evX P C a e m).bind toV).bind fun v m => ((evX P C i e m).bind toV).bind fun w m => (ofO (idxV v w m) m).bind fun u m => .ok (.val u) m := by rw [evX]
@[simp] theorem x_slc (a : Ex) (lo hi : Option Ex) (e : Env) (m : MH) : evX P C (.slc a lo hi) e m = ((evX P C a e m).bind toV).bind fun v m => (evo P C lo e m).bind fun l m => (evo P C hi e m).bind fun h m => (ofO (slcV v l h m) m).bind fun u m => .ok (.val u) m := by rw [evX]
@[simp] theorem x_call (f : Nat) (es : List Ex) (e : Env) (m : MH) : evX P C (.call f es) e m = (evs P C es e m).bind fun vs m => (C f vs m).bind fun v m => .ok (.val v) m := by rw [evX]
@[simp] theorem x_callk (f : Nat) (es : List Ex) (pm : List Nat) (e : Env) (m : MH) : evX P C (.callk f es pm) e m = (evs P C es e m).bind fun vs m => (ofO (permute pm vs) m).bind fun ws m => (C f ws m).bind fun v m => .ok (.val v) m := by rw [evX]
@[simp] theorem x_bi (b : Bi) (es : List Ex) (e : Env) (m : MH) : evX P C (.bi b es) e m = (evs P C es e m).bind fun vs m => (ofO (biV b vs m) m).bind fun v m => .ok (.val v) m := by rw [evX]
@[simp] theorem x_bl (b : Bl) (a : Ex) (e : Env) (m : MH) : evX P C (.bl b a) e m = (evX P C a e m).bind fun x m => (toLL x m).bind fun xs m => (ofO (blV b xs) m).bind fun v m => .ok (.val v) m := by rw [evX]
@[simp] theorem x_isi (t : Ty) (a : Ex) (e : Env) (m : MH) : evX P C (.isi t a) e m = ((evX P C a e m).bind toV).bind fun v m => (ofB (isiV t v m) m).bind fun u m => .ok (.val u) m := by rw [evX]
@[simp] theorem x_tof (a : Ex) (e : Env) (m : MH) : evX P C (.tof a) e m = (evX P C a e m).bind fun x m => (toC x m).bind fun xs m => .ok (.val (.tup xs)) m := by rw [evX]
@[simp] theorem x_lof (a : Ex) (e : Env) (m : MH) : evX P C (.lof a) e m = (evX P C a e m).bind fun x m => (toC x m).bind fun xs m => .ok (.tmp xs) m := by rw [evX]
@[simp] theorem x_srt (a : Ex) (e : Env) (m : MH) : evX P C (.srt a) e m = (evX P C a e m).bind fun x m => (toLL x m).bind fun xs m => guard (intsB xs) ((ofO (sortP xs) m).bind fun ys m => .ok (.tmp ys) m) := by rw [evX]
@[simp] theorem x_srk (a : Ex) (e : Env) (m : MH) : evX P C (.srk a) e m = ((evX P C a e m).bind toV).bind fun v m => (match v with
    | .loc l => (match dictAt m l with
      | some kvs => guard (setOk (kvs.map (·.1)) && decide (kvs.length < 64)) ((ofO (sortP (kvs.map (·.1))) m).bind fun ys m => .ok (.tmp ys) m)
      | none => .stuck)
    | _ => .stuck) := by rw [evX] <;> rfl
@[simp] theorem x_lset (a : Ex) (e : Env) (m : MH) : evX P C (.lset a) e m = (evX P C a e m).bind fun x m => (toL x m).bind fun xs m => guard ((kindX x m).isSome && setOk xs && decide ((dedup xs []).length < 63)) (.ok (.val (.int ((dedup xs []).length : Nat))) m) := by rw [evX]
@[simp] theorem x_dct (es : List Ex) (e : Env) (m : MH) : evX P C (.dct es) e m = (evs P C es e m).bind fun ps m => (ofO (pairUp ps) m).bind fun ps m => (ofO (dictOf ps []) m).bind fun kvs m => (alloc (.dct kvs) m).bind fun v m => .ok (.val v) m := by rw [evX]
@[simp] theorem x_sda (d k v : Ex) (e : Env) (m : MH) : evX P C (.sda d k v) e m = ((evX P C d e m).bind toV).bind fun d m => guard (isDct d m) (((evX P C k e m).bind toV).bind fun k m => ((evX P C v e m).bind toV).bind fun v m => (sdaV d k v m).bind fun u m => .ok (.val u) m) := by rw [evX]
@[simp] theorem x_srs (a : Ex) (e : Env) (m : MH) : evX P C (.srs a) e m = (evX P C a e m).bind fun x m => (toL x m).bind fun xs m => guard ((kindX x m).isSome && setOk xs && decide ((dedup xs []).length < 63)) ((ofO (sortP (dedup xs [])) m).bind fun ys m => .ok (.tmp ys) m) := by rw [evX]
@[simp] theorem x_rng1 (a : Ex) (e : Env) (m : MH) : evX P C (.rng1 a) e m = ((evX P C a e m).bind toV).bind fun v m => (match v with
    | .int i => guard (decide (-1000000 ≤ i) && decide (i ≤ 1000000)) (.ok (.val (.rng 0 i)) m)
    | _ => .stuck) := by rw [evX] <;> rfl
@[simp] theorem x_rng2 (a b : Ex) (e : Env) (m : MH) : evX P C (.rng2 a b) e m = ((evX P C a e m).bind toV).bind fun v m => ((evX P C b e m).bind toV).bind fun w m => (match v, w with
    | .int i, .int j => guard (decide (-1000000 ≤ i) && decide (i ≤ 1000000) && decide (-1000000 ≤ j) && decide (j ≤ 1000000)) (.ok (.val (.rng i j)) m)
    | _, _ => .stuck) := by rw [evX] <;> rfl
@[simp] theorem x_zip (a b : Ex) (e : Env) (m : MH) : evX P C (.zip a b) e m = (evX P C a e m).bind fun x m => (evX P C b e m).bind fun y m => (toL x m).bind fun xs m => (toL y m).bind fun ys m => guard (sameK x y m) (.ok (.its (srcOf x m ++ srcOf y m) (List.zipWith (fun u v => PV.tup [u, v]) xs ys)) m) := by rw [evX]
@[simp] theorem x_enu (a : Ex) (e : Env) (m : MH) : evX P C (.enu a) e m = (evX P C a e m).bind fun x m => (toL x m).bind fun xs m => guard (kindX x m).isSome (.ok (.its (srcOf x m) (enum 0 xs)) m) := by rw [evX]
@[simp] theorem x_lcat (a b : Ex) (e : Env) (m : MH) : evX P C (.lcat a b) e m = (evX P C a e m).bind fun x m => (evX P C b e m).bind fun y m => (toM x m).bind fun xs m => (toM y m).bind fun ys m => guard (decide (xs.length + ys.length ≤ lineP)) (.ok (.tmp (xs ++ ys)) m) := by rw [evX]
@[simp] theorem x_lslc (a : Ex) (lo hi : Option Ex) (e : Env) (m : MH) : evX P C (.lslc a lo hi) e m = (evX P C a e m).bind fun x m => (evo P C lo e m).bind fun l m => (evo P C hi e m).bind fun h m => (toLL x m).bind fun xs m => .ok (.tmp (cut xs l h)) m := by rw [evX]
@[simp] theorem x_ext (o a : Ex) (e : Env) (m : MH) : evX P C (.ext o a) e m = ((evX P C o e m).bind toV).bind fun v m => guard (recvOk .append v m) ((evX P C a e m).bind fun x m => (toM x m).bind fun ys m => (extV v ys m).bind fun u m => .ok (.val u) m) := by rw [evX]
@[simp] theorem x_mt (t : Mt) (o : Ex) (es : List Ex) (e : Env) (m : MH) : evX P C (.mt t o es) e m = ((evX P C o e m).bind toV).bind fun v m => guard (recvOk t v m) ((evs P C es e m).bind fun vs m => (mtV t v vs m).bind fun u m => .ok (.val u) m) := by rw [evX]
theorem x_lcm (own : List Nat) (tg : Tgt) (it : Ex) (cs : List Ex) (a : Ex) (e : Env) (m : MH) : evX P C (.lcm own tg it cs a) e m = (evX P C it e m).bind fun x m => (toL x m).bind fun xs m => (lcLoop (srcOf x m) tg (fun e m => evc P C cs e m) (fun e m => ((evX P C a e m).bind toV)) (wipe own e) xs [] m).bind fun ys m => .ok (.tmp ys) m := by rw [evX]
@[simp] theorem s_nil (e : Env) (m : MH) : evs P C [] e m = .ok [] m := by rw [evs]
@[simp] theorem s_cons (a : Ex) (r : List Ex) (e : Env) (m : MH) : evs P C (a :: r) e m = ((evX P C a e m).bind toV).bind fun v m => (evs P C r e m).bind fun vs m => .ok (v :: vs) m := by rw [evs]
@[simp] theorem o_none (e : Env) (m : MH) : evo P C none e m = .ok none m := by rw [evo]
@[simp] theorem o_some (a : Ex) (e : Env) (m : MH) : evo P C (some a) e m = ((evX P C a e m).bind toV).bind fun v m => (match v with
    | .int i => .ok (some i) m
    | _ => .stuck) := by rw [evo] <;> rfl
@[simp] theorem c_nil (e : Env) (m : MH) : evc P C [] e m = .ok true m := by rw [evc]
@[simp] theorem c_cons (a : Ex) (r : List Ex) (e : Env) (m : MH) : evc P C (a :: r) e m = (asB ((evX P C a e m).bind toV)).bind fun t m => if t then evc P C r e m else .ok false m := by rw [evc]
@[simp] theorem ev_def (a : Ex) (e : Env) (m : MH) : ev P C a e m = (evX P C a e m).bind toV := rfl
@[simp] theorem st_set (i : Nat) (a : Ex) (e : Env) (m : MH) : exec P C (.set i a) e m = (ev P C a e m).bind fun v m => .ok (.next (e.set i (some v))) m := by rw [exec]
@[simp] theorem st_unp (is : List Nat) (a : Ex) (e : Env) (m : MH) : exec P C (.unp is a) e m = (ev P C a e m).bind fun v m => (match v with
    | .tup vs => (ofO (unpack is vs e) m).bind fun e m => .ok (.next e) m
    | _ => .stuck) := by rw [exec] <;> rfl
@[simp] theorem st_par (is : List Nat) (es : List Ex) (e : Env) (m : MH) : exec P C (.par is es) e m = (evs P C es e m).bind fun vs m => (ofO (unpack is vs e) m).bind fun e m => .ok (.next e) m := by rw [exec]
@[simp] theorem st_aug (i : Nat) (a : Ex) (e : Env) (m : MH) : exec P C (.aug i a) e m = (match e[i]? with
    | some (some (.int x)) => (ev P C a e m).bind fun v m => (match v with
      | .int y => .ok (.next (e.set i (some (.int (x + y))))) m
      | _ => .stuck)
    | _ => .stuck) := by rw [exec] <;> rfl
@[simp] theorem st_sti (o i a : Ex) (e : Env) (m : MH) : exec P C (.sti o i a) e m = (ev P C a e m).bind fun v m => (ev P C o e m).bind fun o m => (ev P C i e m).bind fun i m => (match stiV o i v m with
    | some m => .ok (.next e) m
    | none => .stuck) := by rw [exec] <;> rfl
@[simp] theorem st_exp (a : Ex) (e : Env) (m : MH) : exec P C (.exp a) e m = (evX P C a e m).bind fun _ m => .ok (.next e) m := by rw [exec]
@[simp] theorem st_ret (a : Ex) (e : Env) (m : MH) : exec P C (.ret a) e m = (ev P C a e m).bind fun v m => .ok (.ret v) m := by rw [exec]
@[simp] theorem st_ife (c : Ex) (a b : List St) (e : Env) (m : MH) : exec P C (.ife c a b) e m = (asB (ev P C c e m)).bind fun t m => if t then execs P C a e m else execs P C b e m := by rw [exec]
theorem st_wle (c : Ex) (b : List St) (e : Env) (m : MH) : exec P C (.wle c b) e m = whileLoop (fun e m => asB (ev P C c e m)) (fun e m => execs P C b e m) fuelW e m := by rw [exec]
theorem st_for (tg : Tgt) (it : Ex) (b : List St) (e : Env) (m : MH) : exec P C (.for tg it b) e m = (evX P C it e m).bind fun x m => (toL x m).bind fun xs m => forLoop (srcOf x m) tg (fun e m => execs P C b e m) xs e m := by rw [exec]
@[simp] theorem st_rse (c : Nat) (a : Ex) (e : Env) (m : MH) : exec P C (.rse c a) e m = (ev P C a e m).bind fun v m => .exc c v m := by rw [exec]
@[simp] theorem st_pas (e : Env) (m : MH) : exec P C .pas e m = .ok (.next e) m := by rw [exec]
@[simp] theorem ss_nil (e : Env) (m : MH) : execs P C [] e m = .ok (.next e) m := by rw [execs]
theorem ss_cons (s : St) (r : List St) (e : Env) (m : MH) : execs P C (s :: r) e m = (exec P C s e m).bind fun fl m => (match fl with
    | .next e => execs P C r e m
    | .ret v => .ok (.ret v) m) := by rw [execs] <;> rfl
theorem ss_next {s : St} {r : List St} {e e' : Env} {m m' : MH} (h : exec P C s e m = .ok (.next e') m') : execs P C (s :: r) e m = execs P C r e' m' := by rw [ss_cons, h]; rfl
theorem ss_ret {s : St} {r : List St} {e : Env} {m m' : MH} {v : PV} (h : exec P C s e m = .ok (.ret v) m') : execs P C (s :: r) e m = .ok (.ret v) m' := by rw [ss_cons, h]; rfl
end
@[simp] theorem at_app (m t : MH) (j : Nat) : (m ++ t)[m.length + j]? = t[j]? := by rw [List.getElem?_append_right (by omega)]; congr 1; omega
@[simp] theorem at_app0 (m t : MH) : (m ++ t)[m.length]? = t[0]? := at_app m t 0
theorem set_app (m t : MH) (j : Nat) (o : MO) : (m ++ t).set (m.length + j) o = m ++ t.set j o := by rw [List.set_append_right _ _ (by omega)]; congr 2; omega
theorem set_app0 (m t : MH) (o : MO) : (m ++ t).set m.length o = m ++ t.set 0 o := set_app m t 0 o
section
variable {α : Type} {src : List (Nat × List PV)} {tg : Tgt}
/-- a comprehension whose turns change nothing -/
theorem lc_of {f : Env → MH → Res Bool} {g : Env → MH → Res PV} {e : Env} {m : MH} (φ : α → PV) (B : α → Env) (p : α → Bool) (q : α → PV) (hs : srcOk src m = true) : ∀ (L : List α) (acc : List PV),
    (∀ a ∈ L, bindT tg (φ a) e = some (B a) ∧ f (B a) m = .ok (p a) m ∧ (p a = true → g (B a) m = .ok (q a) m)) → acc.length + L.length ≤ lineP → lcLoop src tg f g e (L.map φ) acc m = .ok (acc ++ (L.filter p).map q) m
  | [], acc, _, _ => by simp [lcLoop, hs]
  | a :: L, acc, h, hl => by
    obtain ⟨h1, h2, h3⟩ := h a List.mem_cons_self
    have h4 : ∀ b ∈ L, _ := fun b hb => h b (List.mem_cons_of_mem _ hb)
    rw [List.length_cons] at hl
    rw [List.map_cons, lcLoop, guard_of hs, h1]
    show (match f (B a) m with
        | .ok true m1 => _
        | .ok false m1 => _
        | _ => _) = _
    rw [h2]
    cases hp : p a with
    | false =>
      simp only []
      rw [lc_of φ B p q hs L acc h4 (by omega), List.filter_cons, hp]
      rfl
    | true =>
      simp only []
      rw [h3 hp]
      simp only []
      rw [guard_of (decide_eq_true (by omega)), lc_of φ B p q hs L (acc ++ [q a]) h4 (by rw [List.length_append, List.length_singleton]; omega), List.filter_cons, hp]
      simp
theorem for_nil {f : Env → MH → Res Flow} {e : Env} {m : MH} (hs : srcOk src m = true) : forLoop src tg f [] e m = .ok (.next e) m := by rw [forLoop, guard_of hs]
theorem for_cons {f : Env → MH → Res Flow} {e e1 e2 : Env} {m m2 : MH} {x : PV} {xs : List PV} (hs : srcOk src m = true) (h1 : bindT tg x e = some e1) (h2 : f e1 m = .ok (.next e2) m2) : forLoop src tg f (x :: xs) e m = forLoop src tg f xs e2 m2 := by
  rw [forLoop, guard_of hs, h1]
  show ((f e1 m).bind _) = _
  rw [h2]
  rfl
/-- a for whose turns keep I -/
theorem for_of {f : Env → MH → Res Flow} (φ : α → PV) (I : List α → Env → MH → Prop) (hs : ∀ pre e m, I pre e m → srcOk src m = true) : ∀ (L pre : List α) (e : Env) (m : MH), I pre e m →
    (∀ pre' a rest, pre ++ L = pre' ++ a :: rest → ∀ e m, I pre' e m → ∃ e1 e2 m2, bindT tg (φ a) e = some e1 ∧ f e1 m = .ok (.next e2) m2 ∧ I (pre' ++ [a]) e2 m2) →
    ∃ e' m', forLoop src tg f (L.map φ) e m = .ok (.next e') m' ∧ I (pre ++ L) e' m'
  | [], pre, e, m, h, _ => ⟨e, m, for_nil (hs _ _ _ h), by rwa [List.append_nil]⟩
  | a :: L, pre, e, m, h, H => by
    obtain ⟨e1, e2, m2, h1, h2, h3⟩ := H pre a L rfl e m h
    obtain ⟨e', m', h4, h5⟩ := for_of φ I hs L (pre ++ [a]) e2 m2 h3 (fun pre' b rest eq => H pre' b rest (by rw [← eq, List.append_assoc]; rfl))
    refine ⟨e', m', ?_, by rw [List.append_assoc] at h5; exact h5⟩
    rw [List.map_cons, for_cons (hs _ _ _ h) h1 h2, h4]
theorem while_step {c : Env → MH → Res Bool} {f : Env → MH → Res Flow} {n : Nat} {e e2 : Env} {m m1 m2 : MH} (h1 : c e m = .ok true m1) (h2 : f e m1 = .ok (.next e2) m2) : whileLoop c f (n + 1) e m = whileLoop c f n e2 m2 := by
  rw [whileLoop, h1]
  show (Res.bind (f e m1) _) = _
  rw [h2]
  rfl
theorem while_stop {c : Env → MH → Res Bool} {f : Env → MH → Res Flow} {n : Nat} {e : Env} {m m1 : MH} (h1 : c e m = .ok false m1) : whileLoop c f (n + 1) e m = .ok (.next e) m1 := by
  rw [whileLoop, h1]
  rfl
end
section
variable {P : Prog} {C : Nat → List PV → MH → Res PV} {α : Type}
/-- a comprehension as a whole -/
theorem lcm_of {own : List Nat} {tg : Tgt} {it : Ex} {cs : List Ex} {a : Ex} {e : Env} {m : MH} {x : XV} (L : List α) (φ : α → PV) (B : α → Env) (p : α → Bool) (q : α → PV) (h1 : evX P C it e m = .ok x m) (h2 : toL x m = .ok (L.map φ) m) (h3 : srcOk (srcOf x m) m = true)
    (h : ∀ z ∈ L, bindT tg (φ z) (wipe own e) = some (B z) ∧ evc P C cs (B z) m = .ok (p z) m ∧ (p z = true → (evX P C a (B z) m).bind toV = .ok (q z) m)) (hl : L.length ≤ lineP) : evX P C (.lcm own tg it cs a) e m = .ok (.tmp ((L.filter p).map q)) m := by
  rw [x_lcm, h1]
  show (toL x m).bind _ = _
  rw [h2]
  show (lcLoop _ _ _ _ _ _ _ _).bind _ = _
  rw [lc_of φ B p q h3 L [] h (by simpa using hl)]
  rfl
theorem lcm_map {own : List Nat} {tg : Tgt} {it : Ex} {a : Ex} {e : Env} {m : MH} {x : XV} (L : List α) (φ : α → PV) (B : α → Env) (q : α → PV) (h1 : evX P C it e m = .ok x m) (h2 : toL x m = .ok (L.map φ) m) (h3 : srcOk (srcOf x m) m = true)
    (h : ∀ z ∈ L, bindT tg (φ z) (wipe own e) = some (B z) ∧ (evX P C a (B z) m).bind toV = .ok (q z) m) (hl : L.length ≤ lineP) : evX P C (.lcm own tg it [] a) e m = .ok (.tmp (L.map q)) m := by
  rw [lcm_of L φ B (fun _ => true) q h1 h2 h3 (fun z hz => ⟨(h z hz).1, c_nil _ _, fun _ => (h z hz).2⟩) hl, List.filter_eq_self.mpr fun _ _ => rfl]
theorem lcm_ofH {own : List Nat} {tg : Tgt} {it : Ex} {cs : List Ex} {a : Ex} {e : Env} {m m0 : MH} {x : XV} (L : List α) (φ : α → PV) (B : α → Env) (p : α → Bool) (q : α → PV) (h1 : evX P C it e m = .ok x m0) (h2 : toL x m0 = .ok (L.map φ) m0) (h3 : srcOk (srcOf x m0) m0 = true)
    (h : ∀ z ∈ L, bindT tg (φ z) (wipe own e) = some (B z) ∧ evc P C cs (B z) m0 = .ok (p z) m0 ∧ (p z = true → (evX P C a (B z) m0).bind toV = .ok (q z) m0)) (hl : L.length ≤ lineP) : evX P C (.lcm own tg it cs a) e m = .ok (.tmp ((L.filter p).map q)) m0 := by
  rw [x_lcm, h1]
  show (toL x m0).bind _ = _
  rw [h2]
  show (lcLoop _ _ _ _ _ _ _ _).bind _ = _
  rw [lc_of φ B p q h3 L [] h (by simpa using hl)]
  rfl
theorem lcm_mapH {own : List Nat} {tg : Tgt} {it : Ex} {a : Ex} {e : Env} {m m0 : MH} {x : XV} (L : List α) (φ : α → PV) (B : α → Env) (q : α → PV) (h1 : evX P C it e m = .ok x m0) (h2 : toL x m0 = .ok (L.map φ) m0) (h3 : srcOk (srcOf x m0) m0 = true)
    (h : ∀ z ∈ L, bindT tg (φ z) (wipe own e) = some (B z) ∧ (evX P C a (B z) m0).bind toV = .ok (q z) m0) (hl : L.length ≤ lineP) : evX P C (.lcm own tg it [] a) e m = .ok (.tmp (L.map q)) m0 := by
  rw [lcm_ofH L φ B (fun _ => true) q h1 h2 h3 (fun z hz => ⟨(h z hz).1, c_nil _ _, fun _ => (h z hz).2⟩) hl, List.filter_eq_self.mpr fun _ _ => rfl]
/-- a comprehension whose turns change the heap -/
theorem lc_eff {src : List (Nat × List PV)} {tg : Tgt} {f : Env → MH → Res Bool} {g : Env → MH → Res PV} {e : Env} (φ : α → PV) (B : α → Env) (I : List α → List PV → MH → Prop) (hs : ∀ pre acc m, I pre acc m → srcOk src m = true) : ∀ (L pre : List α) (acc : List PV) (m : MH), I pre acc m → (∀ a ∈ L, bindT tg (φ a) e = some (B a)) →
    (∀ pre' a rest acc m, pre ++ L = pre' ++ a :: rest → I pre' acc m → (∃ m1 m2 v, f (B a) m = .ok true m1 ∧ g (B a) m1 = .ok v m2 ∧ acc.length < lineP ∧ I (pre' ++ [a]) (acc ++ [v]) m2) ∨ ∃ m1, f (B a) m = .ok false m1 ∧ I (pre' ++ [a]) acc m1) →
    ∃ ys m', lcLoop src tg f g e (L.map φ) acc m = .ok ys m' ∧ I (pre ++ L) ys m'
  | [], pre, acc, m, h, _, _ => ⟨acc, m, by rw [List.map_nil, lcLoop, guard_of (hs _ _ _ h)], by rwa [List.append_nil]⟩
  | a :: L, pre, acc, m, h, hB, H => by
    have next : ∀ (acc2 : List PV) (m2 : MH), I (pre ++ [a]) acc2 m2 → ∃ ys m', lcLoop src tg f g e (L.map φ) acc2 m2 = .ok ys m' ∧ I (pre ++ a :: L) ys m' := fun acc2 m2 h2 => by
      obtain ⟨ys, m', q1, q2⟩ := lc_eff φ B I hs L (pre ++ [a]) acc2 m2 h2 (fun b hb => hB b (List.mem_cons_of_mem _ hb)) (fun pre' b rest acc m eq => H pre' b rest acc m (by rw [← eq, List.append_assoc]; rfl))
      exact ⟨ys, m', q1, by rw [List.append_assoc] at q2; exact q2⟩
    rw [List.map_cons, lcLoop, guard_of (hs _ _ _ h), hB a List.mem_cons_self]
    show ∃ ys m', (match f (B a) m with
        | .ok true m1 => (match g (B a) m1 with
          | .ok v m2 => guard (decide (acc.length < lineP)) (lcLoop src tg f g e (L.map φ) (acc ++ [v]) m2)
          | _ => .stuck)
        | .ok false m1 => lcLoop src tg f g e (L.map φ) acc m1
        | _ => .stuck) = .ok ys m' ∧ _
    rcases H pre a L acc m rfl h with ⟨m1, m2, v, q1, q2, q3, q4⟩ | ⟨m1, q1, q2⟩
    · rw [q1]
      simp only []
      rw [q2]
      simp only []
      rw [guard_of (decide_eq_true q3)]
      exact next _ _ q4
    · rw [q1]
      exact next _ _ q2
theorem lcm_eff {own : List Nat} {tg : Tgt} {it : Ex} {cs : List Ex} {a : Ex} {e : Env} {m m0 : MH} {x : XV} (L : List α) (φ : α → PV) (B : α → Env) (I : List α → List PV → MH → Prop) (h1 : evX P C it e m = .ok x m0) (h2 : toL x m0 = .ok (L.map φ) m0) (hs : ∀ pre acc m, I pre acc m → srcOk (srcOf x m0) m = true) (h0 : I [] [] m0)
    (hB : ∀ z ∈ L, bindT tg (φ z) (wipe own e) = some (B z))
    (H : ∀ pre z rest acc m, L = pre ++ z :: rest → I pre acc m → (∃ m1 m2 v, evc P C cs (B z) m = .ok true m1 ∧ (evX P C a (B z) m1).bind toV = .ok v m2 ∧ acc.length < lineP ∧ I (pre ++ [z]) (acc ++ [v]) m2) ∨ ∃ m1, evc P C cs (B z) m = .ok false m1 ∧ I (pre ++ [z]) acc m1) :
    ∃ ys m', evX P C (.lcm own tg it cs a) e m = .ok (.tmp ys) m' ∧ I L ys m' := by
  obtain ⟨ys, m', q1, q2⟩ := lc_eff (src := srcOf x m0) (tg := tg) (f := fun e m => evc P C cs e m) (g := fun e m => (evX P C a e m).bind toV) (e := wipe own e) φ B I hs L [] [] m0 h0 hB (fun pre z rest acc m eq h => H pre z rest acc m eq h)
  refine ⟨ys, m', ?_, q2⟩
  rw [x_lcm, h1]
  show (toL x m0).bind _ = _
  rw [h2]
  show (lcLoop _ _ _ _ _ _ _ _).bind _ = _
  rw [q1]
  rfl
/-- a for as a whole -/
theorem for_all {tg : Tgt} {it : Ex} {b : List St} {e : Env} {m : MH} {x : XV} (L : List α) (φ : α → PV) (I : List α → Env → MH → Prop) (h1 : evX P C it e m = .ok x m) (h2 : toL x m = .ok (L.map φ) m) (hs : ∀ pre e' m', I pre e' m' → srcOk (srcOf x m) m' = true) (h0 : I [] e m)
    (H : ∀ pre z rest, L = pre ++ z :: rest → ∀ e m, I pre e m → ∃ e1 e2 m2, bindT tg (φ z) e = some e1 ∧ execs P C b e1 m = .ok (.next e2) m2 ∧ I (pre ++ [z]) e2 m2) : ∃ e' m', exec P C (.for tg it b) e m = .ok (.next e') m' ∧ I L e' m' := by
  obtain ⟨e', m', h3, h4⟩ := for_of (src := srcOf x m) (tg := tg) (f := fun e m => execs P C b e m) φ I hs L [] e m h0 (fun pre' z rest eq => H pre' z rest eq)
  refine ⟨e', m', ?_, h4⟩
  rw [st_for, h1]
  show (toL x m).bind _ = _
  rw [h2]
  exact h3
end
/-- a for by a state -/
theorem for_fold {P : Prog} {C : Nat → List PV → MH → Res PV} {α σ : Type} {tg : Tgt} {it : Ex} {b : List St} {e : Env} {m : MH} {x : XV} (L : List α) (φ : α → PV) (step : σ → α → σ) (I : σ → Env → MH → Prop) (s0 : σ) (h1 : evX P C it e m = .ok x m) (h2 : toL x m = .ok (L.map φ) m) (hs : ∀ s e' m', I s e' m' → srcOk (srcOf x m) m' = true) (h0 : I s0 e m)
    (H : ∀ s z e m, z ∈ L → I s e m → ∃ e1 e2 m2, bindT tg (φ z) e = some e1 ∧ execs P C b e1 m = .ok (.next e2) m2 ∧ I (step s z) e2 m2) : ∃ e' m', exec P C (.for tg it b) e m = .ok (.next e') m' ∧ I (L.foldl step s0) e' m' := by
  obtain ⟨e', m', h3, h4⟩ := for_all L φ (fun pre e m => I (pre.foldl step s0) e m) h1 h2 (fun pre e' m' h => hs _ e' m' h) h0 (b := b) (tg := tg) (fun pre z rest eq e m h => by
    obtain ⟨e1, e2, m2, a1, a2, a3⟩ := H _ z e m (by rw [eq]; simp) h
    exact ⟨e1, e2, m2, a1, a2, by rw [List.foldl_append]; exact a3⟩)
  exact ⟨e', m', h3, h4⟩
@[simp] theorem srcOk_nil (m : MH) : srcOk [] m = true := rfl
mutual
theorem beq_refl : ∀ v : PV, beqP v v = true
  | .non => rfl
  | .bl b => by simp [beqP]
  | .int i => by simp [beqP]
  | .str x => by simp [beqP]
  | .tup xs => by rw [beqP]; exact beqs_refl xs
  | .loc l => by simp [beqP]
  | .rng a b => by simp [beqP]
  | .seq ns => by simp [beqP]
theorem beqs_refl : ∀ vs : List PV, beqPs vs vs = true
  | [] => rfl
  | v :: vs => by rw [beqPs, beq_refl v, beqs_refl vs]; rfl
end
theorem srcOk_one {l : Nat} {xs : List PV} {m : MH} (h : listAt m l = some xs) : srcOk [(l, xs)] m = true := by
  unfold srcOk
  rw [List.all_cons, h]
  show (beqPs xs xs && _) = true
  rw [beqs_refl]
  rfl
theorem call_succ (P : Prog) (n f : Nat) (vs : List PV) (m : MH) : callD P (n + 1) f vs m = run P (callD P n) f vs m := rfl
theorem lift_val {x : Res PV} {v : PV} (h : lift [] x = .ok v []) : pure v = true ∧ ∃ m1, x = .ok v m1 := by
  cases x with
  | ok w m1 =>
    by_cases hw : pure w = true
    · have e : lift [] (.ok w m1) = .ok w [] := if_pos hw
      rw [e] at h
      cases h
      exact ⟨hw, m1, rfl⟩
    · cases w with
      | loc l =>
        have e : lift [] (.ok (.loc l) m1) = (match listAt m1 l with
          | some xs => guard (pures xs) (.ok (.loc 0) [.lst xs])
          | none => .stuck) := rfl
        rw [e] at h
        cases ha : listAt m1 l with
        | none => rw [ha] at h; cases h
        | some zs =>
          rw [ha] at h
          cases hz : pures zs with
          | true => simp only [hz] at h; cases h
          | false => simp only [hz] at h; cases h
      | _ =>
        have e : lift [] (.ok _ m1) = .stuck := if_neg hw
        rw [e] at h
        cases h
  | exc c w m1 =>
    have e : lift [] (.exc c w m1) = guard (pure w) (.exc c w []) := rfl
    rw [e] at h
    cases hz : pure w with
    | true => rw [hz] at h; cases h
    | false => rw [hz] at h; cases h
  | stuck => cases h
theorem lift_list {x : Res PV} {xs : List PV} (h : lift [] x = .ok (.loc 0) [.lst xs]) : ∃ l m1, x = .ok (.loc l) m1 ∧ listAt m1 l = some xs ∧ pures xs = true := by
  cases x with
  | ok w m1 =>
    by_cases hw : pure w = true
    · have e : lift [] (.ok w m1) = .ok w [] := if_pos hw
      rw [e] at h
      cases h
    · cases w with
      | loc l =>
        have e : lift [] (.ok (.loc l) m1) = (match listAt m1 l with
          | some xs => guard (pures xs) (.ok (.loc 0) [.lst xs])
          | none => .stuck) := rfl
        rw [e] at h
        cases ha : listAt m1 l with
        | none => rw [ha] at h; cases h
        | some zs =>
          rw [ha] at h
          cases hz : pures zs with
          | true =>
            simp only [hz] at h
            cases h
            exact ⟨l, m1, rfl, ha, hz⟩
          | false => simp only [hz] at h; cases h
      | _ =>
        have e : lift [] (.ok _ m1) = .stuck := if_neg hw
        rw [e] at h
        cases h
  | exc c w m1 =>
    have e : lift [] (.exc c w m1) = guard (pure w) (.exc c w []) := rfl
    rw [e] at h
    cases hz : pure w with
    | true => rw [hz] at h; cases h
    | false => rw [hz] at h; cases h
  | stuck => cases h
theorem guard_inv {b : Bool} {r : Res PV} {v : PV} {m : MH} (h : guard b r = .ok v m) : b = true ∧ r = .ok v m := by
  cases b with
  | true => exact ⟨rfl, h⟩
  | false => cases h
/-- an end from nothing, told of any heap -/
theorem call_any {P : Prog} {N f : Nat} {vs : List PV} {d : Def} {v : PV} (hd : P.defs f = some d) (hl : d.lv.lifts = true) (hp : pures vs = true) (h : callD P N f vs [] = .ok v []) (m : MH) : callD P N f vs m = .ok v m := by
  cases N with
  | zero => cases h
  | succ n =>
    rw [call_succ, run, hd] at h ⊢
    simp only [hl, hp, Bool.and_self, if_true] at h ⊢
    obtain ⟨hb, h⟩ := guard_inv h
    obtain ⟨hv, m1, e⟩ := lift_val h
    rw [guard_of hb, e]
    exact if_pos hv
/-- the same of a list -/
theorem call_anyL {P : Prog} {N f : Nat} {vs : List PV} {d : Def} {xs : List PV} (hd : P.defs f = some d) (hl : d.lv.lifts = true) (hp : pures vs = true) (h : callD P N f vs [] = .ok (.loc 0) [.lst xs]) (m : MH) : callD P N f vs m = .ok (.loc m.length) (m ++ [.lst xs]) := by
  cases N with
  | zero => cases h
  | succ n =>
    rw [call_succ, run, hd] at h ⊢
    simp only [hl, hp, Bool.and_self, if_true] at h ⊢
    obtain ⟨hb, h⟩ := guard_inv h
    obtain ⟨l, m1, e, ha, hz⟩ := lift_list h
    rw [guard_of hb, e]
    show (match listAt m1 l with
          | some xs => guard (pures xs) (Res.ok (PV.loc m.length) (m ++ [MO.lst xs]))
          | none => .stuck) = _
    rw [ha]
    exact guard_of hz _
/-- a def asked of trees: by its body from nothing -/
theorem call_lift {P : Prog} {n f : Nat} {vs : List PV} {d : Def} {v : PV} {m1 : MH} (hd : P.defs f = some d) (hl : d.lv.lifts = true) (hn : vs.length = d.np) (hp : pures vs = true) (hv : pure v = true) (h : runB P (callD P n) d vs [] = .ok v m1) (m : MH) : callD P (n + 1) f vs m = .ok v m := by
  rw [call_succ, run, hd]
  simp only [hl, hp, Bool.and_self, if_true]
  rw [guard_of (decide_eq_true hn), h]
  exact if_pos hv
/-- the same, the inner heap left open -/
theorem call_lift' {P : Prog} {n f : Nat} {vs : List PV} {d : Def} {v : PV} (hd : P.defs f = some d) (hl : d.lv.lifts = true) (hn : vs.length = d.np) (hp : pures vs = true) (hv : pure v = true) (h : ∃ m1, runB P (callD P n) d vs [] = .ok v m1) (m : MH) : callD P (n + 1) f vs m = .ok v m := by
  obtain ⟨m1, h⟩ := h
  exact call_lift hd hl hn hp hv h m
theorem call_raw {P : Prog} {n f : Nat} {vs : List PV} {d : Def} (hd : P.defs f = some d) (hn : vs.length = d.np) (hp : pures vs = false) (m : MH) : callD P (n + 1) f vs m = runB P (callD P n) d vs m := by
  rw [call_succ, run, hd]
  simp only [hp, Bool.and_false]
  exact guard_of (decide_eq_true hn) _
end Mi
end

section
set_option autoImplicit false
set_option linter.all false
set_option maxRecDepth 100000
namespace Mi
def tt (l : List Int) : PV := .tup (l.map .int)
@[simp] theorem pures_ints : ∀ l : List Int, pures (l.map PV.int) = true
  | [] => rfl
  | a :: l => by rw [List.map_cons, pures, pures_ints l]; rfl
@[simp] theorem depths_ints : ∀ l : List Int, depths (l.map PV.int) = 0
  | [] => rfl
  | a :: l => by rw [List.map_cons, depths, depths_ints l]; rfl
@[simp] theorem pure_tt (l : List Int) : pure (tt l) = true := pures_ints l
@[simp] theorem depth_tt (l : List Int) : depth (tt l) = 1 := by unfold tt; rw [depth, depths_ints]
@[simp] theorem intsB_ints (l : List Int) : intsB (l.map PV.int) = true := by
  unfold intsB
  rw [List.all_eq_true]
  intro v hv
  obtain ⟨i, _, rfl⟩ := List.mem_map.mp hv
  rfl
@[simp] theorem setOk_ints (l : List Int) : setOk (l.map PV.int) = true := by
  unfold setOk
  rw [intsB_ints]
  rfl
@[simp] theorem plain_ints (h : Int) (l : List Int) : plainIn (.int h) (l.map PV.int) = true := by
  unfold plainIn
  rw [pures_ints, depths, depths_ints]
  rfl
theorem eqvs_ints : ∀ a b : List Int, eqvs (a.map PV.int) (b.map PV.int) = decide (a = b)
  | [], [] => rfl
  | [], _ :: _ => rfl
  | _ :: _, [] => rfl
  | x :: a, y :: b => by
    rw [List.map_cons, List.map_cons, eqvs, eqvs_ints a b, eqv]
    by_cases h : x = y <;> by_cases h2 : a = b <;> simp [h, h2]
theorem eqv_tt (a b : List Int) : eqv (tt a) (tt b) = decide (a = b) := by unfold tt; rw [eqv, eqvs_ints]
def countI (h : Int) : List Int → Int
  | [] => 0
  | x :: r => (if x = h then 1 else 0) + countI h r
theorem count_ints (h : Int) : ∀ l : List Int, (countOf (.int h) (l.map PV.int) : Int) = countI h l
  | [] => rfl
  | x :: l => by
    rw [List.map_cons, countOf, countI, ← count_ints h l, eqv]
    by_cases e : x = h <;> simp [e]
def memI (x : Int) : List Int → Bool
  | [] => false
  | y :: ys => x == y || memI x ys
theorem mem_ints (x : Int) : ∀ l : List Int, memP (.int x) (l.map PV.int) = memI x l
  | [] => rfl
  | y :: l => by rw [List.map_cons, memP, mem_ints x l, memI, beqP]
def dedupI : List Int → List Int → List Int
  | [], acc => acc.reverse
  | x :: xs, acc => if memI x acc then dedupI xs acc else dedupI xs (x :: acc)
theorem dedup_ints : ∀ l acc : List Int, dedup (l.map PV.int) (acc.map PV.int) = (dedupI l acc).map PV.int
  | [], acc => by rw [List.map_nil, dedup, dedupI, List.map_reverse]
  | x :: l, acc => by
    rw [List.map_cons, dedup, dedupI, mem_ints]
    split
    · exact dedup_ints l acc
    · rw [← List.map_cons]; exact dedup_ints l (x :: acc)
theorem dedup_len : ∀ l acc : List PV, (dedup l acc).length ≤ l.length + acc.length
  | [], acc => by rw [dedup, List.length_reverse]; simp
  | x :: l, acc => by
    rw [dedup]
    split
    · have := dedup_len l acc; simp only [List.length_cons]; omega
    · have := dedup_len l (x :: acc); simp only [List.length_cons] at this ⊢; omega
def insI (x : Int) : List Int → List Int
  | [] => [x]
  | y :: ys => if y < x then y :: insI x ys else x :: y :: ys
def sortI : List Int → List Int
  | [] => []
  | x :: xs => insI x (sortI xs)
theorem ins_ints (x : Int) : ∀ l : List Int, sortP.insF (.int x) (l.map PV.int) = some ((insI x l).map PV.int)
  | [] => rfl
  | y :: l => by
    rw [List.map_cons, sortP.insF, cmpP, insI]
    by_cases h : y < x
    · simp only [h, if_true]
      rw [ins_ints x l]
      rfl
    · by_cases h2 : y = x
      · simp [h, h2]
      · simp [h, h2]
theorem sort_ints : ∀ l : List Int, sortP (l.map PV.int) = some ((sortI l).map PV.int)
  | [] => rfl
  | x :: l => by
    rw [List.map_cons, sortP, sort_ints l]
    exact ins_ints x (sortI l)
theorem sumI_ints : ∀ (l : List Int) (a : Int), sumI (l.map PV.int) a = some (l.foldl (· + ·) a)
  | [], a => rfl
  | x :: l, a => by rw [List.map_cons, sumI, sumI_ints l]; rfl
theorem srs_ints (l : List Int) : sortP (dedup (l.map PV.int) []) = some ((sortI (dedupI l [])).map PV.int) := by
  have h := dedup_ints l []
  rw [List.map_nil] at h
  rw [h, sort_ints]
end Mi
end

section
set_option autoImplicit false
set_option linter.all false
set_option maxRecDepth 100000
namespace Mi
theorem insI_perm (x : Int) : ∀ l : List Int, (insI x l).Perm (x :: l)
  | [] => List.Perm.refl _
  | y :: l => by
    rw [insI]
    split
    · exact ((insI_perm x l).cons y).trans (List.Perm.swap x y l)
    · exact List.Perm.refl _
theorem sortI_perm : ∀ l : List Int, (sortI l).Perm l
  | [] => List.Perm.refl _
  | x :: l => (insI_perm x (sortI l)).trans ((sortI_perm l).cons x)
theorem insI_le (x : Int) : ∀ l : List Int, l.Pairwise (· ≤ ·) → (insI x l).Pairwise (· ≤ ·)
  | [], _ => by simp [insI]
  | y :: l, h => by
    rw [List.pairwise_cons] at h
    rw [insI]
    split
    · rw [List.pairwise_cons]
      refine ⟨fun b hb => ?_, insI_le x l h.2⟩
      rcases List.mem_cons.mp ((insI_perm x l).mem_iff.mp hb) with hb | hb
      · omega
      · exact h.1 b hb
    · rw [List.pairwise_cons, List.pairwise_cons]
      refine ⟨fun b hb => ?_, h⟩
      rcases List.mem_cons.mp hb with hb | hb
      · omega
      · have := h.1 b hb; omega
theorem sortI_le : ∀ l : List Int, (sortI l).Pairwise (· ≤ ·)
  | [] => List.Pairwise.nil
  | x :: l => insI_le x _ (sortI_le l)
theorem perm_le : ∀ (l m : List Int), l.Perm m → l.Pairwise (· ≤ ·) → m.Pairwise (· ≤ ·) → l = m
  | [], m, p, _, _ => by rw [List.nil_perm.mp p]
  | x :: l, [], p, _, _ => by have := p.length_eq; simp at this
  | x :: l, y :: m, p, h1, h2 => by
    have e : x = y := by
      rw [List.pairwise_cons] at h1 h2
      have a1 : x ∈ y :: m := p.mem_iff.mp List.mem_cons_self
      have a2 : y ∈ x :: l := p.mem_iff.mpr List.mem_cons_self
      rcases List.mem_cons.mp a1 with z | z
      · exact z
      · rcases List.mem_cons.mp a2 with z2 | z2
        · exact z2.symm
        · have b1 := h2.1 x z
          have b2 := h1.1 y z2
          omega
    subst e
    rw [perm_le l m (List.Perm.cons_inv p) (List.pairwise_cons.mp h1).2 (List.pairwise_cons.mp h2).2]
end Mi
end

section
set_option maxRecDepth 100000
namespace Mi
namespace D
/-- all_rows -/
def d10 : Def := ⟨1, 2, .asis, [.exp (.call 6 [(.var 0), (.cst (.str "game"))]), .ret (.tof (.lcm [1] (.one 1) (.rng1 (.call 4 [(.var 0)])) [] (.call 7 [(.var 0), (.var 1)])))]⟩
/-- row_at -/
def d11 : Def := ⟨2, 2, .asis, [.exp (.call 6 [(.var 0), (.cst (.str "game"))]), .exp (.call 0 [(.call 1 [(.var 1), (.cst (.int 0)), (.bin .sub (.call 4 [(.var 0)]) (.cst (.int 1)))]), (.cst (.str "number"))]), .ret (.call 7 [(.var 0), (.var 1)])]⟩
/-- told -/
def d16 : Def := ⟨3, 3, .asis, [.ret (.call 14 [(.idx (.var 0) (.cst (.int 0))), (.call 7 [(.var 0), (.var 1)]), (.call 7 [(.var 0), (.var 2)])])]⟩
/-- answers -/
def d17 : Def := ⟨1, 5, .drop, [.exp (.call 6 [(.var 0), (.cst (.str "game"))]), .set 1 (.rng1 (.call 4 [(.var 0)])), .set 2 (.lst []), .for (.one 3) (.var 1) [.exp (.ext (.var 2) (.lcm [4] (.one 4) (.var 1) [] (.call 16 [(.var 0), (.var 3), (.var 4)])))], .ret (.tof (.srs (.var 2)))]⟩
/-- _law_common -/
def d24 : Def := ⟨2, 5, .drop, [.par [3, 4] [(.lof (.var 1)), (.cst (.int 0))], .for (.one 2) (.var 0) [.ife (.cmp .inn (.var 2) (.var 3)) [.set 3 (.lcat (.lslc (.var 3) none (some (.mt .index (.var 3) [(.var 2)]))) (.lslc (.var 3) (some (.bin .add (.mt .index (.var 3) [(.var 2)]) (.cst (.int 1)))) none)), .set 4 (.bin .add (.var 4) (.cst (.int 1)))] []], .ret (.var 4)]⟩
/-- _law_answer -/
def d25 : Def := ⟨3, 10, .asis, [.par [3, 4, 5, 6, 7] [(.cst (.int 0)), (.cst (.int 0)), (.cst (.int 0)), (.cst (.int 0)), (.cst (.bl true))], .for (.two 8 9) (.zip (.var 1) (.var 2)) [.set 3 (.bin .add (.var 3) (.ife (.cmp .eq (.var 8) (.var 9)) (.cst (.int 1)) (.cst (.int 0)))), .set 4 (.bin .add (.var 4) (.ife (.cmp .gt (.var 8) (.var 9)) (.cst (.int 1)) (.cst (.int 0)))), .set 5 (.bin .add (.var 5) (.ife (.cmp .gt (.var 8) (.var 9)) (.bin .sub (.var 8) (.var 9)) (.bin .sub (.var 9) (.var 8)))), .set 7 (.and (.var 7) (.cmp .eq (.var 8) (.var 9))), .set 6 (.bin .add (.var 6) (.ife (.var 7) (.cst (.int 1)) (.cst (.int 0))))], .ife (.cmp .eq (.var 0) (.cst (.str "both"))) [.ret (.tup [(.var 3), (.bin .sub (.call 24 [(.var 1), (.var 2)]) (.var 3))])] [], .ife (.cmp .eq (.var 0) (.cst (.str "hues"))) [.ret (.call 24 [(.var 1), (.var 2)])] [], .ife (.cmp .eq (.var 0) (.cst (.str "places"))) [.ret (.var 3)] [], .ife (.cmp .eq (.var 0) (.cst (.str "first"))) [.ret (.var 6)] [], .ret (.ife (.cmp .eq (.var 0) (.cst (.str "apart"))) (.var 5) (.var 4))]⟩
/-- most_answers -/
def d42 : Def := ⟨2, 3, .asis, [.exp (.call 6 [(.var 0), (.cst (.str "game"))]), .exp (.call 32 [(.var 0), (.var 1), (.cst (.str "hidden"))]), .ret (.bl .max (.lcm [2] (.one 2) (.rng1 (.call 4 [(.var 0)])) [] (.bi .len [(.call 34 [(.var 0), (.var 1), (.var 2)])])))]⟩
/-- telling_of -/
def d43 : Def := ⟨3, 4, .asis, [.ret (.tof (.lcm [3] (.one 3) (.rng1 (.call 4 [(.var 0)])) [(.cmp .ne (.call 16 [(.var 0), (.var 1), (.var 3)]) (.call 16 [(.var 0), (.var 2), (.var 3)]))] (.var 3)))]⟩
/-- telling_asks -/
def d44 : Def := ⟨3, 3, .asis, [.exp (.call 6 [(.var 0), (.cst (.str "game"))]), .exp (.call 33 [(.var 0), (.var 1), (.cst (.str "one"))]), .exp (.call 33 [(.var 0), (.var 2), (.cst (.str "other"))]), .ret (.call 43 [(.var 0), (.var 1), (.var 2)])]⟩
/-- are_told -/
def d45 : Def := ⟨2, 2, .asis, [.exp (.call 6 [(.var 0), (.cst (.str "game"))]), .exp (.call 32 [(.var 0), (.var 1), (.cst (.str "hidden"))]), .ret (.cmp .isn (.call 46 [(.var 0), (.var 1)]) (.cst .non))]⟩
/-- first_untold -/
def d46 : Def := ⟨2, 5, .asis, [.for (.two 2 3) (.enu (.var 1)) [.for (.one 4) (.slc (.var 1) (some (.bin .add (.var 2) (.cst (.int 1)))) none) [.ife (.cmp .eq (.bi .len [(.call 43 [(.var 0), (.var 3), (.var 4)])]) (.cst (.int 0))) [.ret (.tup [(.var 3), (.var 4)])] []]], .ret (.cst .non)]⟩
/-- is_reply -/
def d47 : Def := ⟨1, 1, .asis, [.ret (.or (.call 1 [(.var 0), (.cst (.int 0)), (.cst (.int 99))]) (.and (.call 2 [(.var 0), (.cst (.int 2)), (.cst (.int 2))]) (.and (.call 1 [(.idx (.var 0) (.cst (.int 0))), (.cst (.int 0)), (.cst (.int 99))]) (.call 1 [(.idx (.var 0) (.cst (.int 1))), (.cst (.int 0)), (.cst (.int 99))]))))]⟩
/-- is_heard -/
def d48 : Def := ⟨2, 3, .asis, [.ife (.or (.not (.call 2 [(.var 1), (.cst (.int 0)), (.glb 4)])) (.not (.bl .all (.lcm [2] (.one 2) (.var 1) [] (.call 2 [(.var 2), (.cst (.int 2)), (.cst (.int 2))]))))) [.ret (.cst (.bl false))] [], .ret (.bl .all (.lcm [2] (.one 2) (.var 1) [] (.and (.call 1 [(.idx (.var 2) (.cst (.int 0))), (.cst (.int 0)), (.bin .sub (.call 4 [(.var 0)]) (.cst (.int 1)))]) (.call 47 [(.idx (.var 2) (.cst (.int 1)))]))))]⟩
/-- left_of -/
def d49 : Def := ⟨2, 5, .asis, [.ret (.tof (.lcm [2] (.one 2) (.rng1 (.call 4 [(.var 0)])) [(.bl .all (.lcm [3, 4] (.two 3 4) (.var 1) [] (.cmp .eq (.call 16 [(.var 0), (.var 2), (.var 3)]) (.var 4))))] (.var 2)))]⟩
/-- rows_left -/
def d50 : Def := ⟨2, 2, .asis, [.exp (.call 6 [(.var 0), (.cst (.str "game"))]), .exp (.call 0 [(.call 48 [(.var 0), (.var 1)]), (.cst (.str "heard"))]), .ret (.call 49 [(.var 0), (.var 1)])]⟩
/-- _law_set -/
def d51 : Def := ⟨3, 7, .drop, [.set 3 (.lcm [5] (.one 5) (.rng1 (.var 1)) [(.cmp .eq (.call 19 [(.var 0), (.cst (.int 2))]) (.cst (.int 0)))] (.var 5)), .wle (.cmp .lt (.bi .len [(.var 3)]) (.bi .min2 [(.var 2), (.var 1)])) [.set 4 (.call 19 [(.var 0), (.var 1)]), .set 3 (.ife (.cmp .nin (.var 4) (.var 3)) (.lcat (.var 3) (.lst [(.var 4)])) (.lcat (.var 3) (.lst [(.idx (.lcm [6] (.one 6) (.rng1 (.var 1)) [(.cmp .nin (.var 6) (.var 3))] (.var 6)) (.cst (.int 0)))])))], .ret (.tof (.srt (.var 3)))]⟩
/-- _law_parts -/
def d52 : Def := ⟨4, 9, .drop, [.set 4 (.lcm [7] (.one 7) (.var 2) [] (.call 25 [(.idx (.var 0) (.cst (.int 0))), (.idx (.var 1) (.var 7)), (.idx (.var 1) (.var 3))])), .set 5 (.lst []), .for (.one 6) (.srs (.var 4)) [.exp (.mt .append (.var 5) [(.tup [(.var 6), (.tof (.lcm [7, 8] (.two 7 8) (.zip (.var 2) (.var 4)) [(.cmp .eq (.var 8) (.var 6))] (.var 7)))])])], .ret (.tof (.var 5))]⟩
/-- demand -/
def d0 : Def := ⟨2, 2, .asis, [.ife (.not (.var 0)) [.rse 0 (.var 1)] []]⟩
/-- is_in -/
def d1 : Def := ⟨3, 3, .asis, [.ret (.and (.isi .int (.var 0)) (.and (.not (.isi .bool (.var 0))) (.chn .le .le (.var 1) (.var 0) (.var 2))))]⟩
/-- is_tuple -/
def d2 : Def := ⟨3, 3, .asis, [.ret (.and (.isi .tuple (.var 0)) (.chn .le .le (.var 1) (.bi .len [(.var 0)]) (.var 2)))]⟩
/-- are_in -/
def d3 : Def := ⟨5, 6, .asis, [.ret (.and (.call 2 [(.var 0), (.var 1), (.var 2)]) (.bl .all (.lcm [5] (.one 5) (.var 0) [] (.call 1 [(.var 5), (.var 3), (.var 4)]))))]⟩
/-- is_set -/
def d28 : Def := ⟨2, 4, .asis, [.ret (.and (.call 3 [(.var 0), (.cst (.int 0)), (.var 1), (.cst (.int 0)), (.bin .sub (.var 1) (.cst (.int 1)))]) (.bl .all (.lcm [2, 3] (.two 2 3) (.zip (.var 0) (.slc (.var 0) (some (.cst (.int 1))) none)) [] (.cmp .lt (.var 2) (.var 3)))))]⟩
/-- is_order -/
def d29 : Def := ⟨2, 2, .asis, [.ret (.and (.call 3 [(.var 0), (.var 1), (.var 1), (.cst (.int 0)), (.bin .sub (.var 1) (.cst (.int 1)))]) (.cmp .eq (.lset (.var 0)) (.var 1)))]⟩
/-- how_many -/
def d4 : Def := ⟨1, 3, .asis, [.set 1 (.cst (.int 1)), .for (.one 2) (.rng1 (.idx (.var 0) (.cst (.int 2)))) [.set 1 (.bin .mul (.var 1) (.idx (.var 0) (.cst (.int 1))))], .ret (.var 1)]⟩
/-- is_game -/
def d5 : Def := ⟨1, 2, .asis, [.ife (.or (.not (.call 2 [(.var 0), (.cst (.int 3)), (.cst (.int 3))])) (.or (.not (.isi .str (.idx (.var 0) (.cst (.int 0))))) (.cmp .nin (.idx (.var 0) (.cst (.int 0))) (.glb 0)))) [.ret (.cst (.bl false))] [], .set 1 (.and (.call 1 [(.idx (.var 0) (.cst (.int 1))), (.cst (.int 1)), (.glb 1)]) (.call 1 [(.idx (.var 0) (.cst (.int 2))), (.cst (.int 1)), (.glb 2)])), .ret (.and (.var 1) (.cmp .le (.call 4 [(.var 0)]) (.glb 3)))]⟩
/-- demand_game -/
def d6 : Def := ⟨2, 2, .asis, [.exp (.call 0 [(.call 5 [(.var 0)]), (.var 1)])]⟩
/-- row_of -/
def d7 : Def := ⟨2, 4, .asis, [.set 2 (.tup []), .for (.one 3) (.rng1 (.idx (.var 0) (.cst (.int 2)))) [.set 2 (.bin .add (.tup [(.bin .mod (.var 1) (.idx (.var 0) (.cst (.int 1))))]) (.var 2)), .set 1 (.bin .fdiv (.var 1) (.idx (.var 0) (.cst (.int 1))))], .ret (.var 2)]⟩
/-- number_of -/
def d8 : Def := ⟨2, 4, .asis, [.set 2 (.cst (.int 0)), .for (.one 3) (.var 1) [.set 2 (.bin .add (.bin .mul (.var 2) (.idx (.var 0) (.cst (.int 1)))) (.var 3))], .ret (.var 2)]⟩
/-- is_row -/
def d9 : Def := ⟨2, 2, .asis, [.exp (.call 6 [(.var 0), (.cst (.str "game"))]), .ret (.call 3 [(.var 1), (.idx (.var 0) (.cst (.int 2))), (.idx (.var 0) (.cst (.int 2))), (.cst (.int 0)), (.bin .sub (.idx (.var 0) (.cst (.int 1))) (.cst (.int 1)))])]⟩
/-- row_number -/
def d12 : Def := ⟨2, 2, .asis, [.exp (.call 6 [(.var 0), (.cst (.str "game"))]), .exp (.call 0 [(.call 9 [(.var 0), (.var 1)]), (.cst (.str "row"))]), .ret (.call 8 [(.var 0), (.var 1)])]⟩
/-- common_hues -/
def d13 : Def := ⟨2, 3, .asis, [.ret (.bl .sum (.lcm [2] (.one 2) (.srs (.var 0)) [] (.bi .min2 [(.mt .count (.var 0) [(.var 2)]), (.mt .count (.var 1) [(.var 2)])])))]⟩
/-- answer_of -/
def d14 : Def := ⟨3, 7, .asis, [.set 3 (.bi .len [(.lcm [5, 6] (.two 5 6) (.zip (.var 1) (.var 2)) [(.cmp .eq (.var 5) (.var 6))] (.cst (.int 1)))]), .ife (.cmp .eq (.var 0) (.cst (.str "places"))) [.ret (.var 3)] [], .ife (.cmp .eq (.var 0) (.cst (.str "both"))) [.ret (.tup [(.var 3), (.bin .sub (.call 13 [(.var 1), (.var 2)]) (.var 3))])] [], .ife (.cmp .eq (.var 0) (.cst (.str "hues"))) [.ret (.call 13 [(.var 1), (.var 2)])] [], .ife (.cmp .eq (.var 0) (.cst (.str "apart"))) [.ret (.bl .sum (.lcm [5, 6] (.two 5 6) (.zip (.var 1) (.var 2)) [] (.bi .abs [(.bin .sub (.var 5) (.var 6))])))] [], .ife (.cmp .eq (.var 0) (.cst (.str "more"))) [.ret (.bi .len [(.lcm [5, 6] (.two 5 6) (.zip (.var 1) (.var 2)) [(.cmp .gt (.var 5) (.var 6))] (.cst (.int 1)))])] [], .set 4 (.cst (.int 0)), .wle (.and (.cmp .lt (.var 4) (.bi .len [(.var 2)])) (.cmp .eq (.idx (.var 1) (.var 4)) (.idx (.var 2) (.var 4)))) [.aug 4 (.cst (.int 1))], .ret (.var 4)]⟩
/-- answer -/
def d15 : Def := ⟨3, 3, .asis, [.exp (.call 6 [(.var 0), (.cst (.str "game"))]), .exp (.call 0 [(.call 9 [(.var 0), (.var 1)]), (.cst (.str "hidden"))]), .exp (.call 0 [(.call 9 [(.var 0), (.var 2)]), (.cst (.str "ask"))]), .ret (.call 14 [(.idx (.var 0) (.cst (.int 0))), (.var 1), (.var 2)])]⟩
/-- hues_moved -/
def d30 : Def := ⟨3, 4, .asis, [.exp (.call 6 [(.var 0), (.cst (.str "game"))]), .exp (.call 0 [(.call 9 [(.var 0), (.var 1)]), (.cst (.str "row"))]), .exp (.call 0 [(.call 29 [(.var 2), (.idx (.var 0) (.cst (.int 1)))]), (.cst (.str "order"))]), .ret (.tof (.lcm [3] (.one 3) (.var 1) [] (.idx (.var 2) (.var 3))))]⟩
/-- places_moved -/
def d31 : Def := ⟨3, 4, .asis, [.exp (.call 6 [(.var 0), (.cst (.str "game"))]), .exp (.call 0 [(.call 9 [(.var 0), (.var 1)]), (.cst (.str "row"))]), .exp (.call 0 [(.call 29 [(.var 2), (.idx (.var 0) (.cst (.int 2)))]), (.cst (.str "order"))]), .ret (.tof (.lcm [3] (.one 3) (.rng1 (.idx (.var 0) (.cst (.int 2)))) [] (.idx (.var 1) (.mt .index (.var 2) [(.var 3)]))))]⟩
/-- demand_set -/
def d32 : Def := ⟨3, 3, .asis, [.exp (.call 0 [(.call 28 [(.var 1), (.call 4 [(.var 0)])]), (.var 2)])]⟩
/-- demand_ask -/
def d33 : Def := ⟨3, 3, .asis, [.exp (.call 0 [(.call 1 [(.var 1), (.cst (.int 0)), (.bin .sub (.call 4 [(.var 0)]) (.cst (.int 1)))]), (.var 2)])]⟩
/-- parts_of -/
def d34 : Def := ⟨3, 7, .drop, [.set 3 (.call 7 [(.var 0), (.var 2)]), .set 4 (.dct []), .for (.one 5) (.var 1) [.exp (.sda (.var 4) (.call 14 [(.idx (.var 0) (.cst (.int 0))), (.call 7 [(.var 0), (.var 5)]), (.var 3)]) (.var 5))], .ret (.tof (.lcm [6] (.one 6) (.srk (.var 4)) [] (.tup [(.var 6), (.tof (.idx (.var 4) (.var 6)))])))]⟩
/-- parts -/
def d35 : Def := ⟨3, 3, .asis, [.exp (.call 6 [(.var 0), (.cst (.str "game"))]), .exp (.call 32 [(.var 0), (.var 1), (.cst (.str "hidden"))]), .exp (.call 33 [(.var 0), (.var 2), (.cst (.str "ask"))]), .ret (.call 34 [(.var 0), (.var 1), (.var 2)])]⟩
/-- greatest_part -/
def d36 : Def := ⟨3, 5, .asis, [.exp (.call 6 [(.var 0), (.cst (.str "game"))]), .exp (.call 32 [(.var 0), (.var 1), (.cst (.str "hidden"))]), .exp (.call 33 [(.var 0), (.var 2), (.cst (.str "ask"))]), .ret (.bl .max (.lcat (.lst [(.cst (.int 0))]) (.lcm [3, 4] (.two 3 4) (.call 34 [(.var 0), (.var 1), (.var 2)]) [] (.bi .len [(.var 4)]))))]⟩
/-- _law_dice -/
def d18 : Def := ⟨2, 5, .list, [.set 2 (.ife (.cmp .lt (.var 1) (.bi .len [(.var 0)])) (.idx (.var 0) (.var 1)) (.bin .add (.bin .mul (.cst (.int 811)) (.var 1)) (.cst (.int 37)))), .set 3 (.bin .add (.cst (.int 700001)) (.bin .mul (.cst (.int 6947)) (.var 1))), .for (.one 4) (.lcat (.lslc (.var 0) none (some (.cst (.int 6)))) (.lst [(.var 2)])) [.set 3 (.bin .mod (.bi .int [(.bin .add (.bin .mul (.var 3) (.cst (.int 69621))) (.bin .mod (.bi .int [(.var 4)]) (.cst (.int 2147480009))))]) (.cst (.int 2147480009)))], .ret (.lst [(.ife (.or (.cmp .lt (.var 2) (.cst (.int 0))) (.cmp .ge (.var 2) (.bin .pow (.cst (.int 10)) (.cst (.int 16))))) (.bi .abs [(.var 2)]) (.cst (.int 0))), (.var 3), (.cst (.int 0))])]⟩
/-- _law_roll -/
def d19 : Def := ⟨2, 3, .asis, [.ife (.cmp .gt (.idx (.var 0) (.cst (.int 0))) (.cst (.int 0))) [.set 2 (.bin .mod (.bi .int [(.idx (.var 0) (.cst (.int 0)))]) (.var 1)), .sti (.var 0) (.cst (.int 0)) (.bin .fdiv (.idx (.var 0) (.cst (.int 0))) (.var 1)), .ret (.var 2)] [], .sti (.var 0) (.cst (.int 2)) (.bin .add (.idx (.var 0) (.cst (.int 2))) (.cst (.int 1))), .sti (.var 0) (.cst (.int 1)) (.bin .mod (.bi .int [(.bin .add (.bin .add (.bin .mul (.idx (.var 0) (.cst (.int 1))) (.cst (.int 48271))) (.bin .mul (.bin .mul (.idx (.var 0) (.cst (.int 2))) (.idx (.var 0) (.cst (.int 2)))) (.cst (.int 2003)))) (.cst (.int 91)))]) (.cst (.int 2147480009))), .ret (.bin .mod (.bi .int [(.bin .fdiv (.idx (.var 0) (.cst (.int 1))) (.cst (.int 197)))]) (.var 1))]⟩
/-- _law_pick -/
def d20 : Def := ⟨2, 2, .asis, [.ret (.idx (.var 1) (.call 19 [(.var 0), (.bi .len [(.var 1)])]))]⟩
/-- _law_size -/
def d21 : Def := ⟨1, 3, .asis, [.set 1 (.cst (.int 1)), .for (.one 2) (.rng1 (.idx (.var 0) (.cst (.int 2)))) [.set 1 (.bin .mul (.var 1) (.idx (.var 0) (.cst (.int 1))))], .ret (.var 1)]⟩
/-- _law_game -/
def d22 : Def := ⟨2, 6, .drop, [.set 2 (.call 20 [(.var 0), (.lst [(.cst (.str "places")), (.cst (.str "both")), (.cst (.str "hues")), (.cst (.str "first")), (.cst (.str "apart")), (.cst (.str "more"))])]), .set 3 (.lst [(.tup [(.cst (.int 2)), (.cst (.int 2))]), (.tup [(.cst (.int 3)), (.cst (.int 2))]), (.tup [(.cst (.int 2)), (.cst (.int 3))]), (.tup [(.cst (.int 2)), (.cst (.int 1))]), (.tup [(.cst (.int 3)), (.cst (.int 1))]), (.tup [(.cst (.int 4)), (.cst (.int 1))]), (.tup [(.cst (.int 6)), (.cst (.int 1))]), (.tup [(.cst (.int 1)), (.cst (.int 3))]), (.tup [(.cst (.int 4)), (.cst (.int 2))]), (.tup [(.cst (.int 2)), (.cst (.int 4))]), (.tup [(.cst (.int 5)), (.cst (.int 2))]), (.tup [(.cst (.int 3)), (.cst (.int 3))]), (.tup [(.cst (.int 6)), (.cst (.int 2))])]), .set 4 (.call 20 [(.var 0), (.lcm [5] (.one 5) (.var 3) [(.cmp .le (.call 21 [(.tup [(.cst (.str "")), (.idx (.var 5) (.cst (.int 0))), (.idx (.var 5) (.cst (.int 1)))])]) (.var 1))] (.var 5))]), .ret (.tup [(.var 2), (.idx (.var 4) (.cst (.int 0))), (.idx (.var 4) (.cst (.int 1)))])]⟩
/-- _law_rows -/
def d23 : Def := ⟨1, 6, .list, [.set 1 (.lst [(.tup [])]), .for (.one 2) (.rng1 (.idx (.var 0) (.cst (.int 2)))) [.set 3 (.lst []), .for (.one 4) (.var 1) [.set 3 (.lcat (.var 3) (.lcm [5] (.one 5) (.rng1 (.idx (.var 0) (.cst (.int 1)))) [] (.bin .add (.var 4) (.tup [(.var 5)]))))], .set 1 (.var 3)], .ret (.var 1)]⟩
/-- _law_order -/
def d37 : Def := ⟨2, 5, .drop, [.par [2, 3] [(.lof (.rng1 (.var 1))), (.lst [])], .wle (.cmp .gt (.bi .len [(.var 2)]) (.cst (.int 0))) [.set 4 (.call 19 [(.var 0), (.bi .len [(.var 2)])]), .exp (.mt .append (.var 3) [(.idx (.var 2) (.var 4))]), .set 2 (.lcat (.lslc (.var 2) none (some (.var 4))) (.lslc (.var 2) (some (.bin .add (.var 4) (.cst (.int 1)))) none))], .ret (.tof (.var 3))]⟩
/-- _law_back -/
def d38 : Def := ⟨1, 2, .asis, [.ret (.tof (.lcm [1] (.one 1) (.rng1 (.bi .len [(.var 0)])) [] (.mt .index (.var 0) [(.var 1)])))]⟩
/-- _law_stays -/
def d39 : Def := ⟨2, 2, .asis, [.ife (.cmp .inn (.var 0) (.tup [(.cst (.str "places")), (.cst (.str "both")), (.cst (.str "hues"))])) [.ret (.cst (.bl true))] [], .ret (.ife (.var 1) (.cmp .eq (.var 0) (.cst (.str "first"))) (.cmp .inn (.var 0) (.tup [(.cst (.str "apart")), (.cst (.str "more"))])))]⟩
/-- _law_last -/
def d40 : Def := ⟨0, 2, .drop, [.set 0 (.tup [(.cst (.str "both")), (.cst (.int 3)), (.cst (.int 2))]), .set 1 (.lst [(.lam 0 (.call 30 [(.tup []), (.tup [(.cst (.int 0)), (.cst (.int 1))]), (.tup [(.cst (.int 0)), (.cst (.int 1)), (.cst (.int 2))])])), (.lam 0 (.call 30 [(.var 0), (.tup [(.cst (.int 0)), (.cst (.int 3))]), (.tup [(.cst (.int 0)), (.cst (.int 1)), (.cst (.int 2))])])), (.lam 0 (.call 30 [(.var 0), (.tup [(.cst (.int 0)), (.cst (.int 1))]), (.tup [(.cst (.int 0)), (.cst (.int 1))])])), (.lam 0 (.call 31 [(.var 0), (.tup [(.cst (.int 0))]), (.tup [(.cst (.int 0)), (.cst (.int 1))])])), (.lam 0 (.call 31 [(.var 0), (.tup [(.cst (.int 0)), (.cst (.int 1))]), (.tup [(.cst (.int 1)), (.cst (.int 1))])])), (.lam 0 (.call 31 [(.var 0), (.tup [(.cst (.int 0)), (.cst (.int 1))]), (.lst [(.cst (.int 1)), (.cst (.int 0))])]))]), .ife (.cmp .ne (.var 1) (.lst [(.cst (.str "game")), (.cst (.str "row")), (.cst (.str "order")), (.cst (.str "row")), (.cst (.str "order")), (.cst (.str "order"))])) [.ret (.cst (.bl false))] [], .ife (.or (.cmp .ne (.call 30 [(.var 0), (.tup [(.cst (.int 0)), (.cst (.int 2))]), (.tup [(.cst (.int 1)), (.cst (.int 2)), (.cst (.int 0))])]) (.tup [(.cst (.int 1)), (.cst (.int 0))])) (.cmp .ne (.call 31 [(.var 0), (.tup [(.cst (.int 0)), (.cst (.int 2))]), (.tup [(.cst (.int 1)), (.cst (.int 0))])]) (.tup [(.cst (.int 2)), (.cst (.int 0))]))) [.ret (.cst (.bl false))] [], .ret (.cmp .eq (.call 31 [(.tup [(.cst (.str "hues")), (.cst (.int 3)), (.cst (.int 3))]), (.tup [(.cst (.int 0)), (.cst (.int 1)), (.cst (.int 2))]), (.tup [(.cst (.int 1)), (.cst (.int 2)), (.cst (.int 0))])]) (.tup [(.cst (.int 2)), (.cst (.int 0)), (.cst (.int 1))]))]⟩
/-- law -/
def d41 : Def := ⟨1, 25, .asis, [.for (.one 1) (.rng1 (.bi .max2 [(.cst (.int 1)), (.bi .min2 [(.cst (.int 4)), (.bi .len [(.var 0)])])])) [.set 2 (.call 18 [(.var 0), (.var 1)]), .set 3 (.call 22 [(.var 2), (.cst (.int 36))]), .set 4 (.call 23 [(.var 3)]), .par [10, 11] [(.call 20 [(.var 2), (.var 4)]), (.call 20 [(.var 2), (.var 4)])], .par [12, 13] [(.call 37 [(.var 2), (.idx (.var 3) (.cst (.int 1)))]), (.call 37 [(.var 2), (.idx (.var 3) (.cst (.int 2)))])], .set 5 (.callk 30 [(.var 3), (.var 12), (.var 10)] [0, 2, 1]), .ife (.or (.cmp .ne (.var 5) (.tof (.lcm [22] (.one 22) (.var 10) [] (.idx (.var 12) (.var 22))))) (.cmp .ne (.call 30 [(.var 3), (.var 5), (.call 38 [(.var 12)])]) (.var 10))) [.ret (.cst (.bl false))] [], .set 6 (.callk 31 [(.var 3), (.var 13), (.var 10)] [0, 2, 1]), .ife (.bl .any (.lcm [21, 22] (.two 21 22) (.enu (.var 10)) [] (.cmp .ne (.idx (.var 6) (.idx (.var 13) (.var 21))) (.var 22)))) [.ret (.cst (.bl false))] [], .ife (.cmp .ne (.call 31 [(.var 3), (.var 6), (.call 38 [(.var 13)])]) (.var 10)) [.ret (.cst (.bl false))] [], .ife (.cmp .ne (.call 31 [(.var 3), (.var 5), (.var 13)]) (.call 30 [(.var 3), (.var 6), (.var 12)])) [.ret (.cst (.bl false))] [], .for (.one 7) (.tup [(.cst (.str "places")), (.cst (.str "both")), (.cst (.str "hues")), (.cst (.str "first")), (.cst (.str "apart")), (.cst (.str "more"))]) [.set 14 (.tup [(.var 7), (.idx (.var 3) (.cst (.int 1))), (.idx (.var 3) (.cst (.int 2)))]), .set 15 (.call 15 [(.var 14), (.var 10), (.var 11)]), .ife (.and (.call 39 [(.var 7), (.cst (.bl true))]) (.cmp .ne (.call 15 [(.var 14), (.var 5), (.call 30 [(.var 14), (.var 11), (.var 12)])]) (.var 15))) [.ret (.cst (.bl false))] [], .ife (.and (.call 39 [(.var 7), (.cst (.bl false))]) (.cmp .ne (.call 15 [(.var 14), (.var 6), (.call 31 [(.var 14), (.var 11), (.var 13)])]) (.var 15))) [.ret (.cst (.bl false))] []], .set 8 (.tof (.lcm [20] (.one 20) (.rng1 (.bi .len [(.var 4)])) [(.cmp .eq (.call 19 [(.var 2), (.cst (.int 2))]) (.cst (.int 0)))] (.var 20))), .set 9 (.call 12 [(.var 3), (.var 11)]), .ife (.call 39 [(.idx (.var 3) (.cst (.int 0))), (.cst (.bl true))]) [.set 16 (.tof (.srt (.lcm [20] (.one 20) (.var 8) [] (.call 12 [(.var 3), (.call 30 [(.var 3), (.idx (.var 4) (.var 20)), (.var 12)])])))), .set 17 (.call 12 [(.var 3), (.call 30 [(.var 3), (.var 11), (.var 12)])]), .par [18, 19] [(.call 35 [(.var 3), (.var 8), (.var 9)]), (.call 35 [(.var 3), (.var 16), (.var 17)])], .ife (.cmp .ne (.lcm [23, 24] (.two 23 24) (.var 18) [] (.tup [(.var 23), (.bi .len [(.var 24)])])) (.lcm [23, 24] (.two 23 24) (.var 19) [] (.tup [(.var 23), (.bi .len [(.var 24)])]))) [.ret (.cst (.bl false))] [], .ife (.cmp .ne (.call 36 [(.var 3), (.var 8), (.var 9)]) (.call 36 [(.var 3), (.var 16), (.var 17)])) [.ret (.cst (.bl false))] []] []], .ret (.call 40 [])]⟩
def g_k01 : Nat → Option PV
  | 0 => some (.tup [.str "places", .str "both", .str "hues", .str "first", .str "apart", .str "more"])
  | 1 => some (.int 6)
  | 2 => some (.int 4)
  | 3 => some (.int 36)
  | 4 => some (.int 20)
  | 5 => some (.int 36)
  | 6 => some (.int 16)
  | 7 => some (.int 9)
  | 8 => some (.int 12)
  | 9 => some (.int 1)
  | 10 => some (.int 3)
  | 11 => some (.tup [.tup [.str "found", .int 4], .tup [.str "total", .int 4], .tup [.str "ahead", .int 5], .tup [.str "tells", .int 3], .tup [.str "not", .int 2], .tup [.str "and", .int 3], .tup [.str "or", .int 3]])
  | 12 => some (.int 3)
  | 13 => some (.int 99)
  | 14 => some (.int 36)
  | 15 => some (.int 9)
  | 16 => some (.int 6)
  | 17 => some (.int 4)
  | 18 => some (.int 9)
  | 19 => some (.int 5)
  | 20 => some (.int 3)
  | 21 => some (.str "abcdef")
  | 22 => some (.str "0123456789")
  | _ => none
def f_k01 : Nat → Option Def
  | 10 => some d10
  | 11 => some d11
  | 16 => some d16
  | 17 => some d17
  | 24 => some d24
  | 25 => some d25
  | 42 => some d42
  | 43 => some d43
  | 44 => some d44
  | 45 => some d45
  | 46 => some d46
  | 47 => some d47
  | 48 => some d48
  | 49 => some d49
  | 50 => some d50
  | 51 => some d51
  | 52 => some d52
  | 0 => some d0
  | 1 => some d1
  | 2 => some d2
  | 3 => some d3
  | 28 => some d28
  | 29 => some d29
  | 4 => some d4
  | 5 => some d5
  | 6 => some d6
  | 7 => some d7
  | 8 => some d8
  | 9 => some d9
  | 12 => some d12
  | 13 => some d13
  | 14 => some d14
  | 15 => some d15
  | 30 => some d30
  | 31 => some d31
  | 32 => some d32
  | 33 => some d33
  | 34 => some d34
  | 35 => some d35
  | 36 => some d36
  | 18 => some d18
  | 19 => some d19
  | 20 => some d20
  | 21 => some d21
  | 22 => some d22
  | 23 => some d23
  | 37 => some d37
  | 38 => some d38
  | 39 => some d39
  | 40 => some d40
  | 41 => some d41
  | _ => none
def P_k01 : Prog := ⟨g_k01, f_k01⟩
end D
end Mi
end

section
set_option autoImplicit false
set_option maxRecDepth 100000
set_option linter.all false
namespace Mi
abbrev PP : Prog := D.P_k01
def minI (i j : Int) : Int := if j < i then j else i
def commonA (xs ys : List Int) : Int := ((sortI (dedupI xs [])).map fun h => minI (countI h xs) (countI h ys)).foldl (· + ·) 0
theorem ins_len (x : Int) : ∀ l : List Int, (insI x l).length = l.length + 1
  | [] => rfl
  | y :: l => by
    rw [insI]
    split
    · rw [List.length_cons, ins_len x l]; rfl
    · rfl
theorem sort_len : ∀ l : List Int, (sortI l).length = l.length
  | [] => rfl
  | x :: l => by rw [sortI, ins_len, sort_len l]; rfl
theorem dedupI_len (l : List Int) : (dedupI l []).length ≤ l.length := by
  have h := dedup_len (l.map PV.int) ([].map PV.int)
  rw [dedup_ints] at h
  simpa using h
theorem common_ok (C : Nat → List PV → MH → Res PV) (xs ys : List Int) (h : xs.length ≤ 60) : runB PP C D.d13 [tt xs, tt ys] [] = .ok (.int (commonA xs ys)) [] := by
  have hd : (dedup (xs.map PV.int) []).length < 63 := by
    have := dedup_len (xs.map PV.int) []
    simp at this
    omega
  have key := lcm_map (P := PP) (C := C) (own := [2]) (tg := .one 2) (it := .srs (.var 0)) (a := .bi .min2 [(.mt .count (.var 0) [(.var 2)]), (.mt .count (.var 1) [(.var 2)])]) (e := [some (tt xs), some (tt ys), none]) (m := [])
    (sortI (dedupI xs [])) PV.int (fun h => [some (tt xs), some (tt ys), some (.int h)]) (fun h => .int (minI (countI h xs) (countI h ys)))
    (by simp [tt, toL, itemsOf, kindX, hd, srs_ints]; rfl) rfl rfl (fun a _ => ⟨rfl, by simp [tt, recvOk, mtV, countV, biV, count_ints, minI]⟩) (by rw [sort_len]; have := dedupI_len xs; simp [lineP]; omega)
  simp [runB, D.d13, ss_cons, key, toLL, blV, leave]
  have e : List.map (fun h => PV.int (minI (countI h xs) (countI h ys))) (sortI (dedupI xs [])) = ((sortI (dedupI xs [])).map fun h => minI (countI h xs) (countI h ys)).map PV.int := by rw [List.map_map]; rfl
  rw [e, sumI_ints]
  rfl
def kb (k s : PySem.Str) : Bool := decide (k = s)
theorem eqH_str {k s : PySem.Str} (hk : pure (.str k) = true) (hs : pure (.str s) = true) (m : MH) : cmpV .eq (.str k) (.str s) m = some (kb k s) := by
  have h1 : sideOf (.str k) m = some (false, .str k) := by
    show (if pure (.str k) && decide (depth (.str k) ≤ 60) then some (false, PV.str k) else none) = _
    rw [hk]; rfl
  have h2 : sideOf (.str s) m = some (false, .str s) := by
    show (if pure (.str s) && decide (depth (.str s) ≤ 60) then some (false, PV.str s) else none) = _
    rw [hs]; rfl
  show eqH m (.str k) (.str s) = _
  unfold eqH
  rw [h1, h2]
  rfl
theorem zip_ints (xs ys : List Int) : List.zipWith (fun u v => PV.tup [u, v]) (xs.map PV.int) (ys.map PV.int) = (xs.zip ys).map fun p => PV.tup [.int p.1, .int p.2] := by
  induction xs generalizing ys with
  | nil => rfl
  | cons x xs ih => cases ys with
    | nil => rfl
    | cons y ys => simp [ih]
@[simp] theorem cmp_eqI (i j : Int) (m : MH) : cmpV .eq (.int i) (.int j) m = some (decide (i = j)) := by
  show some (if false == false then (i == j) else false) = _
  by_cases h : i = j <;> simp [h]
@[simp] theorem cmp_gtI (i j : Int) (m : MH) : cmpV .gt (.int i) (.int j) m = some (decide (j < i)) := rfl
@[simp] theorem cmp_ltI (i j : Int) (m : MH) : cmpV .lt (.int i) (.int j) m = some (decide (i < j)) := rfl
@[simp] theorem cmp_leI (i j : Int) (m : MH) : cmpV .le (.int i) (.int j) m = some (decide (i ≤ j)) := rfl
@[simp] theorem cmp_geI (i j : Int) (m : MH) : cmpV .ge (.int i) (.int j) m = some (decide (j ≤ i)) := rfl
@[simp] theorem bin_addI (i j : Int) (m : MH) : binV .add (.int i) (.int j) m = .ok (.int (i + j)) m := rfl
@[simp] theorem bin_subI (i j : Int) (m : MH) : binV .sub (.int i) (.int j) m = .ok (.int (i - j)) m := rfl
def rightI (xs ys : List Int) : Int := (((xs.zip ys).filter fun p => decide (p.1 = p.2)).length : Nat)
def moreI (xs ys : List Int) : Int := (((xs.zip ys).filter fun p => decide (p.2 < p.1)).length : Nat)
def absI (i : Int) : Int := if i < 0 then -i else i
def apartI (xs ys : List Int) : Int := ((xs.zip ys).map fun p => absI (p.1 - p.2)).foldl (· + ·) 0
def firstI : List Int → List Int → Nat
  | [], _ => 0
  | _ :: _, [] => 0
  | x :: xs, y :: ys => if x = y then firstI xs ys + 1 else 0
theorem first_lt : ∀ (xs ys : List Int) (i : Nat), i < firstI xs ys → ∃ a, xs[i]? = some a ∧ ys[i]? = some a
  | [], _, i, h => by rw [firstI] at h; omega
  | _ :: _, [], i, h => by rw [firstI] at h; omega
  | x :: xs, y :: ys, i, h => by
    rw [firstI] at h
    split at h
    · rename_i e
      cases i with
      | zero => exact ⟨x, rfl, by rw [e]; rfl⟩
      | succ i => exact first_lt xs ys i (by omega)
    · omega
theorem first_at : ∀ (xs ys : List Int), xs.length = ys.length → firstI xs ys = ys.length ∨ ∃ a b, xs[firstI xs ys]? = some a ∧ ys[firstI xs ys]? = some b ∧ a ≠ b
  | [], ys, h => by
    left
    rw [firstI]
    exact h
  | x :: xs, [], h => by simp at h
  | x :: xs, y :: ys, h => by
    rw [firstI]
    split
    · rename_i e
      rcases first_at xs ys (by simpa using h) with h1 | ⟨a, b, h1, h2, h3⟩
      · left; rw [h1]; rfl
      · exact .inr ⟨a, b, h1, h2, h3⟩
    · rename_i e
      exact .inr ⟨x, y, rfl, rfl, e⟩
theorem first_le (xs ys : List Int) (h : xs.length = ys.length) : firstI xs ys ≤ ys.length := by
  rcases first_at xs ys h with h | ⟨a, b, _, h, _⟩
  · omega
  · have := (List.getElem?_eq_some_iff.mp h).1; omega
theorem idx_tt {l : List Int} {i : Nat} {a : Int} (h : l[i]? = some a) (m : MH) : idxV (tt l) (.int i) m = some (.int a) := by
  have hl : i < l.length := (List.getElem?_eq_some_iff.mp h).1
  show (ixOf (l.map PV.int).length (i : Int)).bind _ = _
  unfold ixOf
  rw [if_pos (by omega), List.length_map, if_pos (by simpa using hl)]
  show (l.map PV.int)[(i : Int).toNat]? = _
  simp [h]
@[simp] theorem len_tt (l : List Int) (m : MH) : biV .len [tt l] m = some (.int (l.length : Nat)) := by
  show some (PV.int ((l.map PV.int).length : Nat)) = _
  rw [List.length_map]
theorem while_first (C : Nat → List PV → MH → Res PV) (k : PV) (xs ys : List Int) (r : PV) (m : MH) (h : xs.length = ys.length) : ∀ (d i n : Nat), i + d = firstI xs ys → d < n →
    whileLoop (fun e m => asB (ev PP C (.and (.cmp .lt (.var 4) (.bi .len [(.var 2)])) (.cmp .eq (.idx (.var 1) (.var 4)) (.idx (.var 2) (.var 4)))) e m)) (fun e m => execs PP C [.aug 4 (.cst (.int 1))] e m) n [some k, some (tt xs), some (tt ys), some r, some (.int (i : Nat)), none, none] m =
      .ok (.next [some k, some (tt xs), some (tt ys), some r, some (.int (firstI xs ys : Nat)), none, none]) m
  | 0, i, n + 1, e, _ => by
    refine (while_stop (m1 := m) ?_).trans (by rw [show i = firstI xs ys by omega])
    have e : i = firstI xs ys := by omega
    rcases first_at xs ys h with h1 | ⟨a, b, h1, h2, h3⟩
    · have : ¬ i < ys.length := by omega
      simp [this]
    · rw [← e] at h1 h2
      have h4 : i < ys.length := (List.getElem?_eq_some_iff.mp h2).1
      simp [h4, idx_tt h1, idx_tt h2, h3]
  | d + 1, i, n + 1, e, hn => by
    obtain ⟨a, h1, h2⟩ := first_lt xs ys i (by omega)
    have h4 : i < ys.length := (List.getElem?_eq_some_iff.mp h2).1
    have ih := while_first C k xs ys r m h d (i + 1) n (by omega) (by omega)
    refine (while_step (m1 := m) (m2 := m) (e2 := [some k, some (tt xs), some (tt ys), some r, some (.int ((i + 1 : Nat) : Int)), none, none]) ?_ ?_).trans ih
    · simp [h4, idx_tt h1, idx_tt h2]
    · simp [ss_cons]
theorem zip_tt {P : Prog} {C : Nat → List PV → MH → Res PV} {a b : Ex} {e : Env} {m : MH} {xs ys : List Int} (h1 : evX P C a e m = .ok (.val (tt xs)) m) (h2 : evX P C b e m = .ok (.val (tt ys)) m) : evX P C (.zip a b) e m = .ok (.its [] ((xs.zip ys).map fun p => PV.tup [.int p.1, .int p.2])) m := by
  have t : ∀ l : List Int, toL (.val (tt l)) m = .ok (l.map PV.int) m := fun l => rfl
  simp only [x_zip, h1, h2, Res.bind_ok, t]
  rw [zip_ints]
  rfl
@[simp] theorem len_new (m : MH) (l : List PV) : biV .len [.loc m.length] (m ++ [.lst l]) = some (.int (l.length : Nat)) := by
  show (lenV (.loc m.length) (m ++ [.lst l])).map _ = _
  simp [lenV]
def ansA (k : PySem.Str) (xs ys : List Int) (cm : Int) : PV :=
  if kb k "places" then .int (rightI xs ys) else if kb k "both" then .tup [.int (rightI xs ys), .int (cm - rightI xs ys)] else if kb k "hues" then .int cm
  else if kb k "apart" then .int (apartI xs ys) else if kb k "more" then .int (moreI xs ys) else .int (firstI xs ys : Nat)
theorem ans_ok (C : Nat → List PV → MH → Res PV) (k : PySem.Str) (hk : pure (.str k) = true) (xs ys : List Int) (cm : Int) (h : xs.length = ys.length) (h2 : xs.length ≤ 60) (hC : ∀ m, C 13 [tt xs, tt ys] m = .ok (.int cm) m) (m : MH) : ∃ m', runB PP C D.d14 [.str k, tt xs, tt ys] m = .ok (ansA k xs ys cm) m' := by
  have q1 := eqH_str hk (s := "places") (by decide)
  have q2 := eqH_str hk (s := "both") (by decide)
  have q3 := eqH_str hk (s := "hues") (by decide)
  have q4 := eqH_str hk (s := "apart") (by decide)
  have q5 := eqH_str hk (s := "more") (by decide)
  have hl : (xs.zip ys).length ≤ lineP := by rw [List.length_zip]; simp [lineP]; omega
  have key1 := fun m => lcm_of (P := PP) (C := C) (m := m) (own := [5, 6]) (tg := .two 5 6) (it := .zip (.var 1) (.var 2)) (e := [some (.str k), some (tt xs), some (tt ys), none, none, none, none]) (cs := [(.cmp .eq (.var 5) (.var 6))]) (a := .cst (.int 1)) (xs.zip ys) (fun p => PV.tup [.int p.1, .int p.2]) (fun p => [some (.str k), some (tt xs), some (tt ys), none, none, some (.int p.1), some (.int p.2)]) (fun p => decide (p.1 = p.2)) (fun _ => .int 1) (zip_tt (by simp) (by simp)) rfl rfl (fun p _ => ⟨rfl, by by_cases e : p.1 = p.2 <;> simp [e], fun _ => by simp⟩) hl
  have key2 := fun r m => lcm_map (P := PP) (C := C) (m := m) (own := [5, 6]) (tg := .two 5 6) (it := .zip (.var 1) (.var 2)) (e := [some (.str k), some (tt xs), some (tt ys), some r, none, none, none]) (a := .bi .abs [(.bin .sub (.var 5) (.var 6))]) (xs.zip ys) (fun p => PV.tup [.int p.1, .int p.2]) (fun p => [some (.str k), some (tt xs), some (tt ys), some r, none, some (.int p.1), some (.int p.2)]) (fun p => .int (absI (p.1 - p.2))) (zip_tt (by simp) (by simp)) rfl rfl (fun p _ => ⟨rfl, by simp [biV, absI]⟩) hl
  have key3 := fun r m => lcm_of (P := PP) (C := C) (m := m) (own := [5, 6]) (tg := .two 5 6) (it := .zip (.var 1) (.var 2)) (e := [some (.str k), some (tt xs), some (tt ys), some r, none, none, none]) (cs := [(.cmp .gt (.var 5) (.var 6))]) (a := .cst (.int 1)) (xs.zip ys) (fun p => PV.tup [.int p.1, .int p.2]) (fun p => [some (.str k), some (tt xs), some (tt ys), some r, none, some (.int p.1), some (.int p.2)]) (fun p => decide (p.2 < p.1)) (fun _ => .int 1) (zip_tt (by simp) (by simp)) rfl rfl (fun p _ => ⟨rfl, by by_cases e : p.2 < p.1 <;> simp [e], fun _ => by simp⟩) hl
  have e2 : sumI (List.map (fun p => PV.int (absI (p.1 - p.2))) (xs.zip ys)) 0 = some (apartI xs ys) := by
    rw [show List.map (fun p => PV.int (absI (p.1 - p.2))) (xs.zip ys) = ((xs.zip ys).map fun p => absI (p.1 - p.2)).map PV.int by rw [List.map_map]; rfl, sumI_ints]
    rfl
  have w := fun r m => while_first C (.str k) xs ys r m h (firstI xs ys) 0 fuelW (by omega) (by have := first_le xs ys h; unfold fuelW; omega)
  have s1 : exec PP C (.set 3 (.bi .len [(.lcm [5, 6] (.two 5 6) (.zip (.var 1) (.var 2)) [(.cmp .eq (.var 5) (.var 6))] (.cst (.int 1)))])) [some (.str k), some (tt xs), some (tt ys), none, none, none, none] m = .ok (.next [some (.str k), some (tt xs), some (tt ys), some (.int (rightI xs ys)), none, none, none]) (m ++ [.lst (List.map (fun x => PV.int 1) (List.filter (fun p => decide (p.fst = p.snd)) (xs.zip ys)))]) := by
    simp [key1, rightI]
  unfold ansA runB D.d14
  simp only [List.map, List.length, List.replicate, List.cons_append, List.nil_append]
  rw [ss_next s1]
  generalize (m ++ [MO.lst (List.map (fun x => PV.int 1) (List.filter (fun p => decide (p.fst = p.snd)) (xs.zip ys)))]) = m1
  cases a1 : kb k "places"
  case true => simp only [a1] at q1; exact ⟨_, by simp [ss_cons, q1, leave]; rfl⟩
  simp only [a1] at q1
  rw [ss_next (e' := [some (.str k), some (tt xs), some (tt ys), some (.int (rightI xs ys)), none, none, none]) (m' := m1) (by simp [q1])]
  cases a2 : kb k "both"
  case true => simp only [a2] at q2; exact ⟨_, by simp [ss_cons, q2, hC, leave]; rfl⟩
  simp only [a2] at q2
  rw [ss_next (e' := [some (.str k), some (tt xs), some (tt ys), some (.int (rightI xs ys)), none, none, none]) (m' := m1) (by simp [q2])]
  cases a3 : kb k "hues"
  case true => simp only [a3] at q3; exact ⟨_, by simp [ss_cons, q3, hC, leave]; rfl⟩
  simp only [a3] at q3
  rw [ss_next (e' := [some (.str k), some (tt xs), some (tt ys), some (.int (rightI xs ys)), none, none, none]) (m' := m1) (by simp [q3])]
  cases a4 : kb k "apart"
  case true => simp only [a4] at q4; exact ⟨_, by simp [ss_cons, q4, key2, toLL, blV, e2, leave]; rfl⟩
  simp only [a4] at q4
  rw [ss_next (e' := [some (.str k), some (tt xs), some (tt ys), some (.int (rightI xs ys)), none, none, none]) (m' := m1) (by simp [q4])]
  cases a5 : kb k "more"
  case true => simp only [a5] at q5; exact ⟨_, by simp [ss_cons, q5, key3, moreI, leave]; rfl⟩
  simp only [a5] at q5
  rw [ss_next (e' := [some (.str k), some (tt xs), some (tt ys), some (.int (rightI xs ys)), none, none, none]) (m' := m1) (by simp [q5])]
  rw [ss_next (e' := [some (.str k), some (tt xs), some (tt ys), some (.int (rightI xs ys)), some (.int 0), none, none]) (m' := m1) (by simp)]
  refine ⟨m1, ?_⟩
  rw [ss_next (by rw [st_wle]; exact w _ _)]
  simp [ss_cons, leave]
end Mi
end

section
set_option autoImplicit false
set_option maxRecDepth 100000
set_option linter.all false
namespace Mi
def idxI (h : Int) : List Int → Nat → Option Nat
  | [], _ => none
  | x :: r, k => if x = h then some k else idxI h r (k + 1)
theorem index_ints (h : Int) : ∀ (l : List Int) (k : Nat), indexOf (.int h) (l.map PV.int) k = idxI h l k
  | [], k => rfl
  | x :: l, k => by
    rw [List.map_cons, indexOf, idxI, index_ints h l (k + 1), eqv]
    by_cases e : x = h <;> simp [e]
theorem any_ints (h : Int) (l : List Int) : ((l.map PV.int).any fun z => eqv z (.int h)) = (idxI h l 0).isSome := by
  have : ∀ k, ((l.map PV.int).any fun z => eqv z (.int h)) = (idxI h l k).isSome := by
    induction l with
    | nil => intro k; rfl
    | cons x l ih =>
      intro k
      rw [List.map_cons, List.any_cons, idxI, ih (k + 1), eqv]
      by_cases e : x = h <;> simp [e]
  exact this 0
def stepC (s : List Int × Int) (h : Int) : List Int × Int := match idxI h s.1 0 with
  | some i => (s.1.take i ++ s.1.drop (i + 1), s.2 + 1)
  | none => s
def commonB (xs ys : List Int) : Int := (xs.foldl stepC (ys, 0)).2
theorem idxI_lt (h : Int) : ∀ (l : List Int) (k i : Nat), idxI h l k = some i → k ≤ i ∧ i < k + l.length
  | [], k, i, e => by cases e
  | x :: l, k, i, e => by
    rw [idxI] at e
    split at e
    · cases e; simp
    · have := idxI_lt h l (k + 1) i e
      simp only [List.length_cons]
      omega
theorem stepC_len (s : List Int × Int) (h : Int) : (stepC s h).1.length ≤ s.1.length := by
  unfold stepC
  split
  · rename_i i e
    have := idxI_lt h _ _ _ e
    simp
    omega
  · exact Nat.le_refl _
theorem foldC_len : ∀ (xs : List Int) (s : List Int × Int), (xs.foldl stepC s).1.length ≤ s.1.length
  | [], s => Nat.le_refl _
  | x :: xs, s => Nat.le_trans (foldC_len xs _) (stepC_len s x)
theorem cut_take (l : List PV) (i : Nat) : cut l none (some (i : Int)) = l.take i := by
  have e1 : bnd l.length 0 none = 0 := rfl
  have e2 : bnd l.length l.length (some (i : Int)) = min i l.length := by
    show (if (i : Int) < 0 then ((i : Int) + (l.length : Int)).toNat else min (i : Int).toNat l.length) = _
    rw [if_neg (by omega)]; rfl
  unfold cut
  rw [e1, e2]
  rw [List.drop_zero, Nat.sub_zero]
  rcases Nat.le_total i l.length with h | h
  · rw [Nat.min_eq_left h]
  · rw [Nat.min_eq_right h, List.take_length, List.take_of_length_le h]
theorem cut_drop (l : List PV) (i : Nat) (h : i + 1 ≤ l.length) : cut l (some ((i : Int) + 1)) none = l.drop (i + 1) := by
  have e1 : bnd l.length l.length none = l.length := rfl
  have e2 : bnd l.length 0 (some ((i : Int) + 1)) = i + 1 := by
    show (if (i : Int) + 1 < 0 then ((i : Int) + 1 + (l.length : Int)).toNat else min ((i : Int) + 1).toNat l.length) = _
    rw [if_neg (by omega), show ((i : Int) + 1).toNat = i + 1 by omega, Nat.min_eq_left h]
  unfold cut
  rw [e1, e2]
  apply List.take_of_length_le
  simp
theorem lcommon_ok (C : Nat → List PV → MH → Res PV) (xs ys : List Int) (h : ys.length ≤ 1000) : runB PP C D.d24 [tt xs, tt ys] [] = .ok (.int (commonB xs ys)) [] := by
  obtain ⟨e', m', h1, s2, l, h2, h3⟩ := for_fold (P := PP) (C := C) (tg := .one 2) (it := .var 0) (b := [.ife (.cmp .inn (.var 2) (.var 3)) [.set 3 (.lcat (.lslc (.var 3) none (some (.mt .index (.var 3) [(.var 2)]))) (.lslc (.var 3) (some (.bin .add (.mt .index (.var 3) [(.var 2)]) (.cst (.int 1)))) none)), .set 4 (.bin .add (.var 4) (.cst (.int 1)))] []])
    (e := [some (tt xs), some (tt ys), none, some (.loc 0), some (.int 0)]) (m := [.lst (ys.map PV.int)]) (x := .val (tt xs)) xs PV.int stepC
    (fun s e m => ∃ s2 l, e = [some (tt xs), some (tt ys), s2, some (.loc l), some (.int s.2)] ∧ m[l]? = some (.lst (s.1.map PV.int)) ∧ s.1.length ≤ 1000) (ys, 0)
    (by simp) rfl (fun _ _ _ _ => rfl) ⟨none, 0, rfl, rfl, h⟩ (by
      intro s z e m _ ⟨s2, l, he, hm, hlen⟩
      subst he
      obtain ⟨left, found⟩ := s
      simp only at hm hlen ⊢
      have hin : cmpV .inn (.int z) (.loc l) m = some (idxI z left 0).isSome := by
        show isIn m (.int z) (.loc l) = _
        unfold isIn
        simp only [hm]
        rw [any_ints, pures_ints, depths, depths_ints]
        rfl
      have hla : listAt m l = some (left.map PV.int) := by unfold listAt; rw [hm]
      have hwa : wlistAt m l = some (left.map PV.int) := by unfold wlistAt; rw [hm]
      cases hi : idxI z left 0 with
      | none =>
        rw [hi] at hin
        have hs : stepC (left, found) z = (left, found) := by unfold stepC; simp only [hi]
        rw [hs]
        exact ⟨_, _, m, rfl, by simp [ss_cons, hin], some (.int z), l, rfl, hm, hlen⟩
      | some i =>
        rw [hi] at hin
        have hs : stepC (left, found) z = (left.take i ++ left.drop (i + 1), found + 1) := by unfold stepC; simp only [hi]
        have hlt := idxI_lt z left 0 i hi
        have hmt : mtV .index (.loc l) [.int z] m = .ok (.int (i : Nat)) m := by
          show indexV (.loc l) [.int z] m = _
          unfold indexV
          simp [hwa, index_ints, hi]
        have hrec : recvOk .index (.loc l) m = true := by
          show (listAt m l).isSome = true
          rw [hla]; rfl
        have htl : toLL (.val (.loc l)) m = .ok (left.map PV.int) m := by
          show (match listAt m l with | some xs => Res.ok xs m | none => .stuck) = _
          rw [hla]
        rw [hs]
        have hadd : left.take i ++ left.drop (i + 1) = left.take i ++ left.drop (i + 1) := rfl
        refine ⟨_, [some (tt xs), some (tt ys), some (.int z), some (.loc m.length), some (.int (found + 1))], m ++ [.lst ((left.take i ++ left.drop (i + 1)).map PV.int)], rfl, ?_, some (.int z), m.length, rfl, by simp, ?_⟩
        · have e1 : cut (left.map PV.int) none (some (i : Int)) = (left.take i).map PV.int := by rw [cut_take, List.map_take]
          have e2 : cut (left.map PV.int) (some ((i : Int) + 1)) none = (left.drop (i + 1)).map PV.int := by rw [cut_drop _ _ (by rw [List.length_map]; omega), List.map_drop]
          have e3 : (min i left.length + (left.length - (i + 1))) ≤ lineP := by unfold lineP; omega
          simp [ss_cons, hin, hrec, hmt, htl, e1, e2, toM, e3]
        · simp only [List.length_append, List.length_take, List.length_drop]
          omega)
  have p1 : exec PP C (.par [3, 4] [(.lof (.var 1)), (.cst (.int 0))]) [some (tt xs), some (tt ys), none, none, none] [] = .ok (.next [some (tt xs), some (tt ys), none, some (.loc 0), some (.int 0)]) [.lst (ys.map PV.int)] := by
    have t : toC (.val (tt ys)) [] = .ok (ys.map PV.int) [] := rfl
    simp [t, unpack]
  unfold runB D.d24
  simp only [List.map, List.length, List.replicate, List.cons_append, List.nil_append]
  rw [ss_next p1, ss_next h1, h2]
  simp [ss_cons, leave, oldOk, pure, commonB, guard]
end Mi
end

section
set_option autoImplicit false
set_option maxRecDepth 100000
set_option linter.all false
namespace Mi
structure AS where
  r : Int
  m : Int
  a : Int
  f : Int
  g : Bool
def stepA (s : AS) (p : Int × Int) : AS := ⟨s.r + (if p.1 = p.2 then 1 else 0), s.m + (if p.2 < p.1 then 1 else 0), s.a + (if p.2 < p.1 then p.1 - p.2 else p.2 - p.1), s.f + (if s.g && decide (p.1 = p.2) then 1 else 0), s.g && decide (p.1 = p.2)⟩
def asOf (xs ys : List Int) : AS := (xs.zip ys).foldl stepA ⟨0, 0, 0, 0, true⟩
def ansB (k : PySem.Str) (xs ys : List Int) (cm : Int) : PV :=
  if kb k "both" then .tup [.int (asOf xs ys).r, .int (cm - (asOf xs ys).r)] else if kb k "hues" then .int cm else if kb k "places" then .int (asOf xs ys).r
  else if kb k "first" then .int (asOf xs ys).f else if kb k "apart" then .int (asOf xs ys).a else .int (asOf xs ys).m
theorem lans_ok (C : Nat → List PV → MH → Res PV) (k : PySem.Str) (hk : pure (.str k) = true) (xs ys : List Int) (cm : Int) (hC : ∀ m, C 24 [tt xs, tt ys] m = .ok (.int cm) m) (m : MH) : runB PP C D.d25 [.str k, tt xs, tt ys] m = .ok (ansB k xs ys cm) m := by
  have q1 := eqH_str hk (s := "places") (by decide)
  have q2 := eqH_str hk (s := "both") (by decide)
  have q3 := eqH_str hk (s := "hues") (by decide)
  have q4 := eqH_str hk (s := "apart") (by decide)
  have q5 := eqH_str hk (s := "first") (by decide)
  obtain ⟨e', m', h1, s8, s9, h2, h3⟩ := for_fold (P := PP) (C := C) (tg := .two 8 9) (it := .zip (.var 1) (.var 2)) (b := [.set 3 (.bin .add (.var 3) (.ife (.cmp .eq (.var 8) (.var 9)) (.cst (.int 1)) (.cst (.int 0)))), .set 4 (.bin .add (.var 4) (.ife (.cmp .gt (.var 8) (.var 9)) (.cst (.int 1)) (.cst (.int 0)))), .set 5 (.bin .add (.var 5) (.ife (.cmp .gt (.var 8) (.var 9)) (.bin .sub (.var 8) (.var 9)) (.bin .sub (.var 9) (.var 8)))), .set 7 (.and (.var 7) (.cmp .eq (.var 8) (.var 9))), .set 6 (.bin .add (.var 6) (.ife (.var 7) (.cst (.int 1)) (.cst (.int 0))))])
    (e := [some (.str k), some (tt xs), some (tt ys), some (.int 0), some (.int 0), some (.int 0), some (.int 0), some (.bl true), none, none]) (m := m) (x := .its [] ((xs.zip ys).map fun p => PV.tup [.int p.1, .int p.2])) (xs.zip ys) (fun p => PV.tup [.int p.1, .int p.2]) stepA
    (fun s e m' => ∃ s8 s9, e = [some (.str k), some (tt xs), some (tt ys), some (.int s.r), some (.int s.m), some (.int s.a), some (.int s.f), some (.bl s.g), s8, s9] ∧ m' = m) ⟨0, 0, 0, 0, true⟩
    (zip_tt (by simp) (by simp)) rfl (fun _ _ _ _ => rfl) ⟨none, none, rfl, rfl⟩ (by
      intro s z e m1 _ ⟨s8, s9, he, hm⟩
      subst he hm
      obtain ⟨z1, z2⟩ := z
      refine ⟨_, _, m1, rfl, ?_, some (.int z1), some (.int z2), rfl, rfl⟩
      cases hg : s.g <;> by_cases c1 : z1 = z2 <;> by_cases c2 : z2 < z1 <;> simp [ss_cons, c1, c2, stepA, hg] <;> omega)
  have p1 : exec PP C (.par [3, 4, 5, 6, 7] [(.cst (.int 0)), (.cst (.int 0)), (.cst (.int 0)), (.cst (.int 0)), (.cst (.bl true))]) [some (.str k), some (tt xs), some (tt ys), none, none, none, none, none, none, none] m = .ok (.next [some (.str k), some (tt xs), some (tt ys), some (.int 0), some (.int 0), some (.int 0), some (.int 0), some (.bl true), none, none]) m := by
    simp [unpack]
  subst h3
  unfold ansB runB D.d25
  simp only [List.map, List.length, List.replicate, List.cons_append, List.nil_append]
  rw [ss_next p1, ss_next h1, h2]
  show (execs PP C _ [some (.str k), some (tt xs), some (tt ys), some (.int (asOf xs ys).r), some (.int (asOf xs ys).m), some (.int (asOf xs ys).a), some (.int (asOf xs ys).f), some (.bl (asOf xs ys).g), s8, s9] m').bind _ = _
  generalize asOf xs ys = s
  have go : ∀ {c : Ex} {a : List St} {r : List St}, asB (ev PP C c [some (.str k), some (tt xs), some (tt ys), some (.int s.r), some (.int s.m), some (.int s.a), some (.int s.f), some (.bl s.g), s8, s9] m') = .ok false m' → exec PP C (.ife c a []) [some (.str k), some (tt xs), some (tt ys), some (.int s.r), some (.int s.m), some (.int s.a), some (.int s.f), some (.bl s.g), s8, s9] m' = .ok (.next [some (.str k), some (tt xs), some (tt ys), some (.int s.r), some (.int s.m), some (.int s.a), some (.int s.f), some (.bl s.g), s8, s9]) m' := by
    intro c a r h
    rw [st_ife, h]
    simp
  cases a2 : kb k "both"
  case true => simp only [a2] at q2; simp [ss_cons, q2, hC, leave]
  simp only [a2] at q2
  rw [ss_next (go (r := []) (by simp [q2]))]
  cases a3 : kb k "hues"
  case true => simp only [a3] at q3; simp [ss_cons, q3, hC, leave]
  simp only [a3] at q3
  rw [ss_next (go (r := []) (by simp [q3]))]
  cases a1 : kb k "places"
  case true => simp only [a1] at q1; simp [ss_cons, q1, hC, leave]
  simp only [a1] at q1
  rw [ss_next (go (r := []) (by simp [q1]))]
  cases a5 : kb k "first"
  case true => simp only [a5] at q5; simp [ss_cons, q5, hC, leave]
  simp only [a5] at q5
  rw [ss_next (go (r := []) (by simp [q5]))]
  cases a4 : kb k "apart"
  case true => simp only [a4] at q4; simp [ss_cons, q4, hC, leave]
  case false => simp only [a4] at q4; simp [ss_cons, q4, hC, leave]
end Mi
end

section
set_option autoImplicit false
set_option maxRecDepth 100000
set_option linter.all false
namespace Mi
def kinds : List PySem.Str := ["places", "both", "hues", "first", "apart", "more"]
def boards : List (Int × Int) := [(2, 2), (3, 2), (2, 3), (2, 1), (3, 1), (4, 1), (6, 1), (1, 3), (4, 2), (2, 4), (5, 2), (3, 3), (6, 2)]
def gm (k : PySem.Str) (b : Int × Int) : PV := .tup [.str k, .int b.1, .int b.2]
def rowsN (h : Nat) : Nat → List (List Int)
  | 0 => [[]]
  | p + 1 => (rowsN h p).flatMap fun r => (List.range h).map fun i => r ++ [Int.ofNat i]
def rowsB (b : Int × Int) : List (List Int) := rowsN b.1.toNat b.2.toNat
def num (b : Int × Int) : Nat := b.1.toNat ^ b.2.toNat
theorem common_tab : (boards.all fun b => (rowsB b).all fun xs => (rowsB b).all fun ys => decide (commonA xs ys = commonB xs ys)) = true := by decide +kernel
theorem fold_r : ∀ (L : List (Int × Int)) (s : AS), (L.foldl stepA s).r = s.r + ((L.filter fun p => decide (p.1 = p.2)).length : Nat)
  | [], s => by simp
  | p :: L, s => by
    rw [List.foldl_cons, fold_r L, List.filter_cons]
    by_cases h : p.1 = p.2 <;> simp [stepA, h]
    omega
theorem fold_m : ∀ (L : List (Int × Int)) (s : AS), (L.foldl stepA s).m = s.m + ((L.filter fun p => decide (p.2 < p.1)).length : Nat)
  | [], s => by simp
  | p :: L, s => by
    rw [List.foldl_cons, fold_m L, List.filter_cons]
    by_cases h : p.2 < p.1 <;> simp [stepA, h]
    omega
theorem fold_a : ∀ (L : List (Int × Int)) (s : AS), (L.foldl stepA s).a = (L.map fun p => absI (p.1 - p.2)).foldl (· + ·) s.a
  | [], s => rfl
  | p :: L, s => by
    rw [List.foldl_cons, fold_a L, List.map_cons, List.foldl_cons]
    congr 1
    show s.a + _ = s.a + _
    unfold absI
    by_cases h : p.2 < p.1
    · rw [if_pos h, if_neg (by omega)]
    · rw [if_neg h]
      by_cases h2 : p.1 - p.2 < 0
      · rw [if_pos h2]; omega
      · rw [if_neg h2]; omega
theorem fold_f : ∀ (L : List (Int × Int)) (s : AS), (L.foldl stepA s).f = s.f + (if s.g then ((L.takeWhile fun p => decide (p.1 = p.2)).length : Int) else 0)
  | [], s => by simp
  | p :: L, s => by
    rw [List.foldl_cons, fold_f L, List.takeWhile_cons]
    cases hg : s.g <;> by_cases h : p.1 = p.2 <;> simp [stepA, h, hg]
    omega
theorem first_zip : ∀ (xs ys : List Int), firstI xs ys = ((xs.zip ys).takeWhile fun p => decide (p.1 = p.2)).length
  | [], ys => by rw [firstI]; rfl
  | x :: xs, [] => by rw [firstI]; rfl
  | x :: xs, y :: ys => by
    rw [firstI, List.zip_cons_cons, List.takeWhile_cons, first_zip xs ys]
    by_cases h : x = y <;> simp [h]
theorem ans_eq {k : PySem.Str} (hk : k ∈ kinds) {xs ys : List Int} {c1 c2 : Int} (hc : c1 = c2) : ansA k xs ys c1 = ansB k xs ys c2 := by
  have e1 : (asOf xs ys).r = rightI xs ys := by unfold asOf rightI; rw [fold_r]; simp
  have e2 : (asOf xs ys).m = moreI xs ys := by unfold asOf moreI; rw [fold_m]; simp
  have e3 : (asOf xs ys).a = apartI xs ys := by unfold asOf apartI; rw [fold_a]
  have e4 : (asOf xs ys).f = (firstI xs ys : Nat) := by unfold asOf; rw [fold_f, first_zip]; simp
  subst hc
  unfold ansA ansB
  rw [e1, e2, e3, e4]
  unfold kinds at hk
  simp only [List.mem_cons, List.not_mem_nil, or_false] at hk
  rcases hk with rfl | rfl | rfl | rfl | rfl | rfl <;> rfl
end Mi
end

section
set_option autoImplicit false
set_option maxRecDepth 100000
set_option linter.all false
namespace Mi
theorem k_game (n : Nat) : (kinds.map fun k => boards.map fun b => callD PP (n + 4) 5 [gm k b] []) = kinds.map fun k => boards.map fun b => Res.ok (.bl true) [] := by kernel_rfl
theorem k_many (C : Nat → List PV → MH → Res PV) (k : PySem.Str) : (boards.map fun b => runB PP C D.d4 [gm k b] []) = boards.map fun b => Res.ok (.int (Int.ofNat (num b))) [] := by kernel_rfl
theorem k_size (C : Nat → List PV → MH → Res PV) (k : PySem.Str) : (boards.map fun b => runB PP C D.d21 [gm k b] []) = boards.map fun b => Res.ok (.int (Int.ofNat (num b))) [] := by kernel_rfl
theorem k_rowof (C : Nat → List PV → MH → Res PV) (k : PySem.Str) : (boards.map fun b => (List.range (num b)).map fun i => runB PP C D.d7 [gm k b, .int (Int.ofNat i)] []) = boards.map fun b => (rowsB b).map fun r => Res.ok (tt r) [] := by kernel_rfl
theorem k_numof (C : Nat → List PV → MH → Res PV) (k : PySem.Str) : (boards.map fun b => (rowsB b).map fun r => runB PP C D.d8 [gm k b, tt r] []) = boards.map fun b => (List.range (num b)).map fun i => Res.ok (.int (Int.ofNat i)) [] := by kernel_rfl
theorem k_lawrows (C : Nat → List PV → MH → Res PV) (k : PySem.Str) : (boards.map fun b => runB PP C D.d23 [gm k b] []) = boards.map fun b => Res.ok (.loc 0) [.lst ((rowsB b).map tt)] := by kernel_rfl
theorem k_rows : (boards.all fun b => decide ((rowsB b).length = num b) && decide (num b ≤ 36) && decide (0 < num b) && decide (1 ≤ b.2) && decide (b.2 ≤ 4) && decide (1 ≤ b.1) && decide (b.1 ≤ 6) && (rowsB b).all fun r => decide (r.length = b.2.toNat) && r.all fun x => decide (0 ≤ x) && decide (x < b.1)) = true := by decide +kernel
structure BF (b : Int × Int) : Prop where
  len : (rowsB b).length = num b
  le : num b ≤ 36
  pos : 0 < num b
  p1 : 1 ≤ b.2
  p4 : b.2 ≤ 4
  h1 : 1 ≤ b.1
  h6 : b.1 ≤ 6
  row : ∀ r ∈ rowsB b, r.length = b.2.toNat ∧ ∀ x ∈ r, 0 ≤ x ∧ x < b.1
theorem bf {b : Int × Int} (h : b ∈ boards) : BF b := by
  have z := List.all_eq_true.mp k_rows b h
  simp only [Bool.and_eq_true, decide_eq_true_eq, List.all_eq_true] at z
  obtain ⟨⟨⟨⟨⟨⟨⟨a1, a2⟩, a3⟩, a4⟩, a5⟩, a6⟩, a7⟩, a8⟩ := z
  exact ⟨a1, a2, a3, a4, a5, a6, a7, a8⟩
theorem pure_k {k : PySem.Str} (h : k ∈ kinds) : pure (.str k) = true := by
  have : kinds.all (fun k => pure (.str k)) = true := by decide +kernel
  exact List.all_eq_true.mp this k h
theorem pure_gm {k : PySem.Str} {b : Int × Int} (h : k ∈ kinds) : pure (gm k b) = true := by
  show pures [.str k, .int b.1, .int b.2] = true
  rw [pures, pure_k h]
  rfl
theorem map_at {α β : Type} {f g : α → β} {l : List α} (h : l.map f = l.map g) {a : α} (ha : a ∈ l) : f a = g a := List.map_inj_left.mp h a ha
theorem row_at {C : Nat → List PV → MH → Res PV} {k : PySem.Str} {b : Int × Int} (hb : b ∈ boards) {i : Nat} {r : List Int} (hr : (rowsB b)[i]? = some r) : runB PP C D.d7 [gm k b, .int (i : Nat)] [] = .ok (tt r) [] := by
  have z := congrArg (fun l => l[i]?) (map_at (k_rowof C k) hb)
  simp only [List.getElem?_map, hr, Option.map] at z
  have hi : i < num b := by rw [← (bf hb).len]; exact (List.getElem?_eq_some_iff.mp hr).1
  rw [List.getElem?_range hi] at z
  exact Option.some.inj z
theorem num_at {C : Nat → List PV → MH → Res PV} {k : PySem.Str} {b : Int × Int} (hb : b ∈ boards) {i : Nat} {r : List Int} (hr : (rowsB b)[i]? = some r) : runB PP C D.d8 [gm k b, tt r] [] = .ok (.int (i : Nat)) [] := by
  have z := congrArg (fun l => l[i]?) (map_at (k_numof C k) hb)
  simp only [List.getElem?_map, hr, Option.map] at z
  have hi : i < num b := by rw [← (bf hb).len]; exact (List.getElem?_eq_some_iff.mp hr).1
  rw [List.getElem?_range hi] at z
  exact Option.some.inj z
section
variable {N : Nat} {k : PySem.Str} {b : Int × Int} {m : MH}
theorem sub_of {d : Nat} (h : d ≤ N) : ∃ n, N = n + d := ⟨N - d, by omega⟩
theorem cl0 (h : 1 ≤ N) (x : PySem.Str) (hx : pure (.str x) = true) (m : MH) : callD PP N 0 [.bl true, .str x] m = .ok .non m := by
  obtain ⟨n, rfl⟩ := sub_of h
  refine call_lift (d := D.d0) (m1 := []) rfl rfl rfl (by rw [pures, pures, hx]; rfl) rfl ?_ m
  simp [runB, D.d0, ss_cons, leave]
theorem cl1 (h : 1 ≤ N) (v lo hi : Int) (m : MH) : callD PP N 1 [.int v, .int lo, .int hi] m = .ok (.bl (decide (lo ≤ v) && decide (v ≤ hi))) m := by
  obtain ⟨n, rfl⟩ := sub_of h
  refine call_lift (d := D.d1) (m1 := []) rfl rfl rfl rfl rfl ?_ m
  by_cases h : lo ≤ v <;> by_cases h2 : v ≤ hi <;> simp [runB, D.d1, ss_cons, leave, isiV, h, h2]
theorem cl2 (h : 1 ≤ N) (xs : List PV) (hp : pures xs = true) (lo hi : Int) (m : MH) : callD PP N 2 [.tup xs, .int lo, .int hi] m = .ok (.bl (decide (lo ≤ (xs.length : Nat)) && decide ((xs.length : Nat) ≤ hi))) m := by
  obtain ⟨n, rfl⟩ := sub_of h
  refine call_lift (d := D.d2) (m1 := []) rfl rfl rfl (by rw [pures, pure, hp]; rfl) rfl ?_ m
  by_cases h : lo ≤ (xs.length : Nat) <;> by_cases h2 : ((xs.length : Nat) : Int) ≤ hi <;> simp [runB, D.d2, ss_cons, leave, isiV, h, h2, biV, lenV]
theorem cl2l (h : 1 ≤ N) {l : Nat} {xs : List PV} (hl : m[l]? = some (.lst xs)) (lo hi : Int) : callD PP N 2 [.loc l, .int lo, .int hi] m = .ok (.bl false) m := by
  obtain ⟨n, rfl⟩ := sub_of h
  rw [call_raw (d := D.d2) rfl rfl rfl]
  have e : isiV .tuple (.loc l) m = some false := by unfold isiV; simp only [hl]; rfl
  simp [runB, D.d2, ss_cons, leave, e]
theorem all_ints (p : Int → Bool) : ∀ l : List Int, bools (l.map fun i => PV.bl (p i)) = some (l.map p)
  | [] => rfl
  | i :: l => by rw [List.map_cons, bools, all_ints p l]; rfl
theorem cl3 (h : 2 ≤ N) (l : List Int) (hl : l.length ≤ 1000) (a c lo hi : Int) (m : MH) : callD PP N 3 [tt l, .int a, .int c, .int lo, .int hi] m = .ok (.bl (decide (a ≤ (l.length : Nat)) && decide ((l.length : Nat) ≤ c) && l.all fun v => decide (lo ≤ v) && decide (v ≤ hi))) m := by
  obtain ⟨n, rfl⟩ := sub_of h
  refine call_lift (d := D.d3) (m1 := []) rfl rfl rfl (by rw [pures, pure_tt]; rfl) rfl ?_ m
  have h2 := cl2 (N := n + 1) (by omega) (l.map PV.int) (pures_ints l) a c
  rw [List.length_map] at h2
  have h3 : ∀ m, callD PP (n + 1) 2 [tt l, .int a, .int c] m = _ := h2
  have key := lcm_map (P := PP) (C := callD PP (n + 1)) (own := [5]) (tg := .one 5) (it := .var 0) (a := .call 1 [(.var 5), (.var 3), (.var 4)]) (e := [some (tt l), some (.int a), some (.int c), some (.int lo), some (.int hi), none]) (m := []) (x := .val (tt l))
    l PV.int (fun v => [some (tt l), some (.int a), some (.int c), some (.int lo), some (.int hi), some (.int v)]) (fun v => .bl (decide (lo ≤ v) && decide (v ≤ hi))) (by simp) rfl rfl (fun v _ => ⟨rfl, by simp [cl1 (N := n + 1) (by omega)]⟩) (by unfold lineP; omega)
  have ha : ((l.map fun v => decide (lo ≤ v) && decide (v ≤ hi)).all id) = l.all fun v => decide (lo ≤ v) && decide (v ≤ hi) := by rw [List.all_map]; rfl
  unfold runB D.d3
  cases c1 : (decide (a ≤ (l.length : Nat)) && decide ((l.length : Nat) ≤ c)) with
  | false => rw [c1] at h3; simp [ss_cons, h3, leave]
  | true =>
    rw [c1] at h3
    simp only [List.map, List.length, List.replicate, List.cons_append, List.nil_append, ss_cons, st_ret, ev_def, x_and, x_call, s_cons, s_nil, x_var, List.getElem?_cons_zero, List.getElem?_cons_succ, Res.bind_ok, toV_val, h3, asB_ok, if_true, x_bl]
    rw [key]
    simp [toLL, blV, all_ints, ha, leave]
end
end Mi
end

section
set_option autoImplicit false
set_option maxRecDepth 100000
set_option linter.all false
namespace Mi
section
variable {N : Nat} {k : PySem.Str} {b : Int × Int}
@[simp] theorem gm0 (m : MH) : idxV (gm k b) (.int 0) m = some (.str k) := rfl
@[simp] theorem gm1 (m : MH) : idxV (gm k b) (.int 1) m = some (.int b.1) := rfl
@[simp] theorem gm2 (m : MH) : idxV (gm k b) (.int 2) m = some (.int b.2) := rfl
theorem tt_getI {b : Int × Int} {i : Nat} {r : List Int} (hb : b ∈ boards) (hr : (rowsB b)[i]? = some r) : i < num b ∧ r.length = b.2.toNat ∧ r.length ≤ 4 ∧ ∀ x ∈ r, 0 ≤ x ∧ x < b.1 := by
  have f := bf hb
  have hi : i < num b := by rw [← f.len]; exact (List.getElem?_eq_some_iff.mp hr).1
  have h := f.row r (List.mem_of_getElem? hr)
  exact ⟨hi, h.1, by have := f.p4; omega, h.2⟩
theorem cl5 (h : 4 ≤ N) (hk : k ∈ kinds) (hb : b ∈ boards) (m : MH) : callD PP N 5 [gm k b] m = .ok (.bl true) m := by
  obtain ⟨n, rfl⟩ := sub_of h
  refine call_any (d := D.d5) rfl rfl (by rw [pures, pure_gm hk]; rfl) ?_ m
  exact map_at (map_at (k_game n) hk) hb
theorem cl6 (h : 5 ≤ N) (hk : k ∈ kinds) (hb : b ∈ boards) (m : MH) : callD PP N 6 [gm k b, .str "game"] m = .ok .non m := by
  obtain ⟨n, rfl⟩ := sub_of h
  refine call_lift (d := D.d6) (m1 := []) rfl rfl rfl (by rw [pures, pure_gm hk]; rfl) rfl ?_ m
  simp [runB, D.d6, ss_cons, leave, cl5 (N := n + 4) (by omega) hk hb, cl0 (N := n + 4) (by omega) "game" (by decide)]
theorem cl4 (h : 1 ≤ N) (hk : k ∈ kinds) (hb : b ∈ boards) (m : MH) : callD PP N 4 [gm k b] m = .ok (.int (num b : Nat)) m := by
  obtain ⟨n, rfl⟩ := sub_of h
  exact call_lift (d := D.d4) (m1 := []) rfl rfl rfl (by rw [pures, pure_gm hk]; rfl) rfl (map_at (k_many _ k) hb) m
theorem cl21 (h : 1 ≤ N) (hk : k ∈ kinds) (hb : b ∈ boards) (m : MH) : callD PP N 21 [gm k b] m = .ok (.int (num b : Nat)) m := by
  obtain ⟨n, rfl⟩ := sub_of h
  exact call_lift (d := D.d21) (m1 := []) rfl rfl rfl (by rw [pures, pure_gm hk]; rfl) rfl (map_at (k_size _ k) hb) m
theorem cl7 (h : 1 ≤ N) (hk : k ∈ kinds) (hb : b ∈ boards) {i : Nat} {r : List Int} (hr : (rowsB b)[i]? = some r) (m : MH) : callD PP N 7 [gm k b, .int (i : Nat)] m = .ok (tt r) m := by
  obtain ⟨n, rfl⟩ := sub_of h
  exact call_lift (d := D.d7) (m1 := []) rfl rfl rfl (by rw [pures, pure_gm hk]; rfl) (pure_tt r) (row_at hb hr) m
theorem cl8 (h : 1 ≤ N) (hk : k ∈ kinds) (hb : b ∈ boards) {i : Nat} {r : List Int} (hr : (rowsB b)[i]? = some r) (m : MH) : callD PP N 8 [gm k b, tt r] m = .ok (.int (i : Nat)) m := by
  obtain ⟨n, rfl⟩ := sub_of h
  exact call_lift (d := D.d8) (m1 := []) rfl rfl rfl (by rw [pures, pure_gm hk, pures, pure_tt]; rfl) rfl (num_at hb hr) m
theorem cl23 (h : 1 ≤ N) (hk : k ∈ kinds) (hb : b ∈ boards) (m : MH) : callD PP N 23 [gm k b] m = .ok (.loc m.length) (m ++ [.lst ((rowsB b).map tt)]) := by
  obtain ⟨n, rfl⟩ := sub_of h
  refine call_anyL (d := D.d23) rfl rfl (by rw [pures, pure_gm hk]; rfl) ?_ m
  rw [call_succ]
  show guard _ (if _ && pures [gm k b] then lift [] (runB PP (callD PP n) D.d23 [gm k b] []) else runB PP (callD PP n) D.d23 [gm k b] []) = _
  rw [map_at (k_lawrows (callD PP n) k) hb, pures, pure_gm hk]
  have hp : pures ((rowsB b).map tt) = true := by
    generalize rowsB b = l
    induction l with
    | nil => rfl
    | cons x l ih => rw [List.map_cons, pures, pure_tt, ih]; rfl
  show (match listAt [.lst ((rowsB b).map tt)] 0 with
      | some xs => guard (pures xs) (Res.ok (PV.loc 0) [MO.lst xs])
      | none => .stuck) = _
  show guard (pures ((rowsB b).map tt)) (Res.ok (PV.loc 0) [MO.lst ((rowsB b).map tt)]) = _
  rw [hp]
  rfl
theorem cl9 (h : 6 ≤ N) (hk : k ∈ kinds) (hb : b ∈ boards) (l : List Int) (hl : l.length ≤ 1000) (m : MH) : callD PP N 9 [gm k b, tt l] m = .ok (.bl (decide (b.2 ≤ (l.length : Nat)) && decide ((l.length : Nat) ≤ b.2) && l.all fun v => decide (0 ≤ v) && decide (v ≤ b.1 - 1))) m := by
  obtain ⟨n, rfl⟩ := sub_of h
  refine call_lift (d := D.d9) (m1 := []) rfl rfl rfl (by rw [pures, pure_gm hk, pures, pure_tt]; rfl) rfl ?_ m
  simp [runB, D.d9, ss_cons, leave, cl6 (N := n + 5) (by omega) hk hb, cl3 (N := n + 5) (by omega) l hl]
theorem cl9r (h : 6 ≤ N) (hk : k ∈ kinds) (hb : b ∈ boards) {i : Nat} {r : List Int} (hr : (rowsB b)[i]? = some r) (m : MH) : callD PP N 9 [gm k b, tt r] m = .ok (.bl true) m := by
  have f := bf hb
  obtain ⟨h1, h2, h3, h4⟩ := tt_getI hb hr
  rw [cl9 h hk hb r (by omega) m]
  have e1 := f.p1
  have e2 : b.2 = (r.length : Nat) := by omega
  have e3 : (r.all fun v => decide (0 ≤ v) && decide (v ≤ b.1 - 1)) = true := by
    rw [List.all_eq_true]
    intro x hx
    have := h4 x hx
    simp
    omega
  rw [e3, ← e2]
  simp
theorem cl9n (h : 6 ≤ N) (hk : k ∈ kinds) (hb : b ∈ boards) {i : Nat} {r : List Int} (hr : (rowsB b)[i]? = some r) (m : MH) : callD PP N 9 [gm k b, tt (r ++ [0])] m = .ok (.bl false) m := by
  have f := bf hb
  obtain ⟨h1, h2, h3, h4⟩ := tt_getI hb hr
  rw [cl9 h hk hb (r ++ [0]) (by rw [List.length_append]; simp; omega) m]
  have e1 := f.p1
  have e2 : ¬ (((r ++ [0]).length : Nat) : Int) ≤ b.2 := by rw [List.length_append]; simp; omega
  simp only [decide_eq_false e2, Bool.and_false, Bool.false_and]
theorem cl9l (h : 6 ≤ N) (hk : k ∈ kinds) (hb : b ∈ boards) {l : Nat} {xs : List PV} {m : MH} (hl : m[l]? = some (.lst xs)) : callD PP N 9 [gm k b, .loc l] m = .ok (.bl false) m := by
  obtain ⟨n, rfl⟩ := sub_of h
  rw [call_raw (d := D.d9) rfl rfl (by rw [pures, pure_gm hk]; rfl)]
  have h3 : ∀ c d lo hi : Int, callD PP (n + 5) 3 [.loc l, .int c, .int d, .int lo, .int hi] m = .ok (.bl false) m := fun c d lo hi => by
    rw [call_raw (d := D.d3) rfl rfl rfl]
    simp [runB, D.d3, ss_cons, leave, cl2l (N := n + 4) (by omega) hl]
  simp [runB, D.d9, ss_cons, leave, cl6 (N := n + 5) (by omega) hk hb, h3]
theorem cl13 (h : 1 ≤ N) (xs ys : List Int) (hx : xs.length ≤ 60) (m : MH) : callD PP N 13 [tt xs, tt ys] m = .ok (.int (commonA xs ys)) m := by
  obtain ⟨n, rfl⟩ := sub_of h
  exact call_lift (d := D.d13) (m1 := []) rfl rfl rfl (by rw [pures, pure_tt, pures, pure_tt]; rfl) rfl (common_ok _ xs ys hx) m
theorem pure_ansA (k : PySem.Str) (xs ys : List Int) (c : Int) : pure (ansA k xs ys c) = true := by
  unfold ansA
  repeat' split
  all_goals rfl
theorem cl14 (h : 2 ≤ N) (hk : pure (.str k) = true) (xs ys : List Int) (hl : xs.length = ys.length) (hx : xs.length ≤ 60) (m : MH) : callD PP N 14 [.str k, tt xs, tt ys] m = .ok (ansA k xs ys (commonA xs ys)) m := by
  obtain ⟨n, rfl⟩ := sub_of h
  obtain ⟨m', e⟩ := ans_ok (callD PP (n + 1)) k hk xs ys (commonA xs ys) hl hx (fun m => cl13 (by omega) xs ys hx m) []
  exact call_lift (d := D.d14) (m1 := m') rfl rfl rfl (by rw [pures, hk, pures, pure_tt, pures, pure_tt]; rfl) (pure_ansA ..) e m
/-- the answer, as the boards tell it -/
def ansR (k : PySem.Str) (xs ys : List Int) : PV := ansA k xs ys (commonA xs ys)
theorem cl15 (h : 7 ≤ N) (hk : k ∈ kinds) (hb : b ∈ boards) {i j : Nat} {r q : List Int} (hr : (rowsB b)[i]? = some r) (hq : (rowsB b)[j]? = some q) (m : MH) : callD PP N 15 [gm k b, tt r, tt q] m = .ok (ansR k r q) m := by
  obtain ⟨n, rfl⟩ := sub_of h
  obtain ⟨_, h2, h3, _⟩ := tt_getI hb hr
  obtain ⟨_, h4, _, _⟩ := tt_getI hb hq
  refine call_lift (d := D.d15) (m1 := []) rfl rfl rfl (by rw [pures, pure_gm hk, pures, pure_tt, pures, pure_tt]; rfl) (pure_ansA ..) ?_ m
  simp [runB, D.d15, ss_cons, leave, cl6 (N := n + 6) (by omega) hk hb, cl9r (N := n + 6) (by omega) hk hb hr, cl9r (N := n + 6) (by omega) hk hb hq, cl0 (N := n + 6) (by omega) "hidden" (by decide), cl0 (N := n + 6) (by omega) "ask" (by decide), cl14 (N := n + 6) (by omega) (pure_k hk) r q (by omega) (by omega), ansR]
theorem cl16 (h : 3 ≤ N) (hk : k ∈ kinds) (hb : b ∈ boards) {i j : Nat} {r q : List Int} (hr : (rowsB b)[i]? = some r) (hq : (rowsB b)[j]? = some q) (m : MH) : callD PP N 16 [gm k b, .int (i : Nat), .int (j : Nat)] m = .ok (ansR k r q) m := by
  obtain ⟨n, rfl⟩ := sub_of h
  obtain ⟨_, h2, h3, _⟩ := tt_getI hb hr
  obtain ⟨_, h4, _, _⟩ := tt_getI hb hq
  refine call_lift (d := D.d16) (m1 := []) rfl rfl rfl (by rw [pures, pure_gm hk]; rfl) (pure_ansA ..) ?_ m
  simp [runB, D.d16, ss_cons, leave, cl7 (N := n + 2) (by omega) hk hb hr, cl7 (N := n + 2) (by omega) hk hb hq, cl14 (N := n + 2) (by omega) (pure_k hk) r q (by omega) (by omega), ansR]
theorem cl24 (h : 1 ≤ N) (xs ys : List Int) (hx : ys.length ≤ 1000) (m : MH) : callD PP N 24 [tt xs, tt ys] m = .ok (.int (commonB xs ys)) m := by
  obtain ⟨n, rfl⟩ := sub_of h
  exact call_lift (d := D.d24) (m1 := []) rfl rfl rfl (by rw [pures, pure_tt, pures, pure_tt]; rfl) rfl (lcommon_ok _ xs ys hx) m
theorem cl25 (h : 2 ≤ N) (hk : k ∈ kinds) (hb : b ∈ boards) {r q : List Int} (hr : r ∈ rowsB b) (hq : q ∈ rowsB b) (m : MH) : callD PP N 25 [.str k, tt r, tt q] m = .ok (ansR k r q) m := by
  obtain ⟨n, rfl⟩ := sub_of h
  have f := bf hb
  have h1 := f.row q hq
  have h4 := f.p4
  have e : ansB k r q (commonB r q) = ansR k r q := by
    have z := List.all_eq_true.mp (List.all_eq_true.mp (List.all_eq_true.mp common_tab b hb) r hr) q hq
    exact (ans_eq hk (of_decide_eq_true z)).symm
  refine call_lift (d := D.d25) (m1 := []) rfl rfl rfl (by rw [pures, pure_k hk, pures, pure_tt, pures, pure_tt]; rfl) (pure_ansA ..) ?_ m
  rw [lans_ok (callD PP (n + 1)) k (pure_k hk) r q (commonB r q) (fun m => cl24 (by omega) r q (by omega) m) [], e]
  rfl
end
end Mi
end

section
set_option autoImplicit false
set_option maxRecDepth 100000
set_option linter.all false
namespace Mi
def allA (k : PySem.Str) (b : Int × Int) : List PV := (rowsB b).flatMap fun r => (rowsB b).map fun q => ansR k r q
def okS (xs : List PV) : Bool := setOk xs && decide ((dedup xs []).length < 63) && match sortP (dedup xs []) with
  | some ys => pures ys && decide (depths ys ≤ 50) && eqvs ys ys
  | none => false
theorem set_tab : (kinds.all fun k => boards.all fun b => okS (allA k b)) = true := by decide +kernel
structure SetF (xs ys : List PV) : Prop where
  ok : setOk xs = true
  few : (dedup xs []).length < 63
  srt : sortP (dedup xs []) = some ys
  pur : pures ys = true
  dep : depths ys ≤ 50
  refl : eqvs ys ys = true
theorem setF_of {xs : List PV} (h : okS xs = true) : ∃ ys, SetF xs ys := by
  unfold okS at h
  rw [Bool.and_eq_true, Bool.and_eq_true] at h
  obtain ⟨⟨h1, h2⟩, h3⟩ := h
  split at h3
  · rename_i ys e
    rw [Bool.and_eq_true, Bool.and_eq_true] at h3
    exact ⟨ys, h1, of_decide_eq_true h2, e, h3.1.1, of_decide_eq_true h3.1.2, h3.2⟩
  · cases h3
theorem toL_rng (n : Nat) (h : n ≤ 1000000) (m : MH) : toL (.val (.rng 0 (n : Nat))) m = .ok ((List.range n).map fun i => PV.int (i : Nat)) m := by
  show (match itemsOf (.rng 0 (n : Nat)) m with | some xs => Res.ok xs m | none => .stuck) = _
  unfold itemsOf
  simp only
  rw [if_pos (by simp; omega)]
  simp
theorem range_get {α β : Type} (l : List α) (d : α) (f : α → β) : (List.range l.length).map (fun i => f (l.getD i d)) = l.map f := by
  apply List.ext_getElem?
  intro i
  rw [List.getElem?_map, List.getElem?_map]
  by_cases h : i < l.length
  · rw [List.getElem?_range h]
    simp [List.getD, h]
  · rw [List.getElem?_eq_none (by simpa using h), List.getElem?_eq_none (by omega)]
    rfl
section
variable {N : Nat} {k : PySem.Str} {b : Int × Int}
theorem row_ex (hb : b ∈ boards) {i : Nat} (hi : i < num b) : (rowsB b)[i]? = some ((rowsB b).getD i []) := by
  rw [← (bf hb).len] at hi
  simp [List.getD, hi]
theorem x_rows (C : Nat → List PV → MH → Res PV) (h4 : ∀ m, C 4 [gm k b] m = .ok (.int (num b : Nat)) m) (hb : b ∈ boards) {e : Env} {i : Nat} (he : e[i]? = some (some (gm k b))) (m : MH) : evX PP C (.rng1 (.call 4 [(.var i)])) e m = .ok (.val (.rng 0 (num b : Nat))) m := by
  have f := bf hb
  have a1 : (-1000000 : Int) ≤ ((num b : Nat) : Int) := by omega
  have a2 : ((num b : Nat) : Int) ≤ 1000000 := by have := f.le; omega
  simp [he, h4, a1, a2]
theorem cl10 (h : 6 ≤ N) (hk : k ∈ kinds) (hb : b ∈ boards) (m : MH) : callD PP N 10 [gm k b] m = .ok (.tup ((rowsB b).map tt)) m := by
  obtain ⟨n, rfl⟩ := sub_of h
  have f := bf hb
  have hp : pures ((rowsB b).map tt) = true := by
    generalize rowsB b = l
    induction l with
    | nil => rfl
    | cons x l ih => rw [List.map_cons, pures, pure_tt, ih]; rfl
  refine call_lift (d := D.d10) (v := .tup ((rowsB b).map tt)) (m1 := []) rfl rfl rfl (by rw [pures, pure_gm hk]; rfl) hp ?_ m
  have key := lcm_map (P := PP) (C := callD PP (n + 5)) (own := [1]) (tg := .one 1) (it := .rng1 (.call 4 [(.var 0)])) (a := .call 7 [(.var 0), (.var 1)]) (e := [some (gm k b), none]) (m := [])
    (List.range (num b)) (fun i => .int (i : Nat)) (fun i => [some (gm k b), some (.int (i : Nat))]) (fun i => tt ((rowsB b).getD i [])) (x_rows (callD PP (n + 5)) (fun m => cl4 (by omega) hk hb m) hb rfl []) (toL_rng _ (by have := f.le; omega) _) rfl
    (fun i hi => ⟨rfl, by simp [cl7 (N := n + 5) (by omega) hk hb (row_ex hb (List.mem_range.mp hi))]⟩) (by rw [List.length_range]; have := f.le; unfold lineP; omega)
  rw [← f.len, range_get _ _ tt] at key
  unfold runB D.d10
  rw [ss_next (e' := [some (gm k b), none]) (m' := []) (by simp [cl6 (N := n + 5) (by omega) hk hb])]
  simp only [List.map, List.length, List.replicate, List.cons_append, List.nil_append, ss_cons, st_ret, ev_def, x_tof]
  rw [key]
  simp [leave]
theorem cl11 (h : 6 ≤ N) (hk : k ∈ kinds) (hb : b ∈ boards) {i : Nat} {r : List Int} (hr : (rowsB b)[i]? = some r) (m : MH) : callD PP N 11 [gm k b, .int (i : Nat)] m = .ok (tt r) m := by
  obtain ⟨n, rfl⟩ := sub_of h
  obtain ⟨h1, _⟩ := tt_getI hb hr
  refine call_lift (d := D.d11) (m1 := []) rfl rfl rfl (by rw [pures, pure_gm hk]; rfl) (pure_tt r) ?_ m
  have e1 : ((i : Nat) : Int) ≤ (num b : Nat) - 1 := by omega
  simp [runB, D.d11, ss_cons, leave, cl6 (N := n + 5) (by omega) hk hb, cl4 (N := n + 5) (by omega) hk hb, cl1 (N := n + 5) (by omega), e1, cl0 (N := n + 5) (by omega) "number" (by decide), cl7 (N := n + 5) (by omega) hk hb hr]
theorem cl12 (h : 7 ≤ N) (hk : k ∈ kinds) (hb : b ∈ boards) {i : Nat} {r : List Int} (hr : (rowsB b)[i]? = some r) (m : MH) : callD PP N 12 [gm k b, tt r] m = .ok (.int (i : Nat)) m := by
  obtain ⟨n, rfl⟩ := sub_of h
  refine call_lift (d := D.d12) (m1 := []) rfl rfl rfl (by rw [pures, pure_gm hk, pures, pure_tt]; rfl) rfl ?_ m
  simp [runB, D.d12, ss_cons, leave, cl6 (N := n + 6) (by omega) hk hb, cl9r (N := n + 6) (by omega) hk hb hr, cl0 (N := n + 6) (by omega) "row" (by decide), cl8 (N := n + 6) (by omega) hk hb hr]
theorem foldl_flat {α β : Type} (f : α → List β) : ∀ (L : List α) (acc : List β), L.foldl (fun s a => s ++ f a) acc = acc ++ L.flatMap f
  | [], acc => by simp
  | a :: L, acc => by rw [List.foldl_cons, foldl_flat f L, List.flatMap_cons, List.append_assoc]
theorem flat_le {α β : Type} (f : α → List β) (c : Nat) : ∀ (L : List α), (∀ a ∈ L, (f a).length = c) → (L.flatMap f).length = L.length * c
  | [], _ => by simp
  | a :: L, h => by
    rw [List.flatMap_cons, List.length_append, h a List.mem_cons_self, flat_le f c L fun x hx => h x (List.mem_cons_of_mem _ hx), List.length_cons]
    rw [Nat.add_mul]; omega
theorem range_flat {α β : Type} (l : List α) (d : α) (f : α → List β) : (List.range l.length).flatMap (fun i => f (l.getD i d)) = l.flatMap f := by
  rw [List.flatMap_def, List.flatMap_def, range_get l d f]
theorem cl17 (h : 6 ≤ N) (hk : k ∈ kinds) (hb : b ∈ boards) {ys : List PV} (hs : SetF (allA k b) ys) (m : MH) : callD PP N 17 [gm k b] m = .ok (.tup ys) m := by
  obtain ⟨n, rfl⟩ := sub_of h
  have f := bf hb
  refine call_lift (d := D.d17) (v := .tup ys) (m1 := []) rfl rfl rfl (by rw [pures, pure_gm hk]; rfl) hs.pur ?_ m
  have hf : ∀ (i : Nat), i < num b → ∀ m, evX PP (callD PP (n + 5)) (.lcm [4] (.one 4) (.var 1) [] (.call 16 [(.var 0), (.var 3), (.var 4)])) [some (gm k b), some (.rng 0 (num b : Nat)), some (.loc 0), some (.int (i : Nat)), none] m = .ok (.tmp ((rowsB b).map fun q => ansR k ((rowsB b).getD i []) q)) m := fun i hi m => by
    have key := lcm_map (P := PP) (C := callD PP (n + 5)) (own := [4]) (tg := .one 4) (it := .var 1) (a := .call 16 [(.var 0), (.var 3), (.var 4)]) (e := [some (gm k b), some (.rng 0 (num b : Nat)), some (.loc 0), some (.int (i : Nat)), none]) (m := m) (x := .val (.rng 0 (num b : Nat)))
      (List.range (num b)) (fun i => .int (i : Nat)) (fun j => [some (gm k b), some (.rng 0 (num b : Nat)), some (.loc 0), some (.int (i : Nat)), some (.int (j : Nat))]) (fun j => ansR k ((rowsB b).getD i []) ((rowsB b).getD j [])) (by simp) (toL_rng _ (by have := f.le; omega) _) rfl
      (fun j hj => ⟨rfl, by simp [cl16 (N := n + 5) (by omega) hk hb (row_ex hb hi) (row_ex hb (List.mem_range.mp hj))]⟩) (by rw [List.length_range]; have := f.le; unfold lineP; omega)
    have e := range_get (rowsB b) [] (ansR k ((rowsB b).getD i []))
    rw [f.len] at e
    rw [e] at key
    exact key
  have fl : ∀ L : List Nat, (L.flatMap fun i => (rowsB b).map fun q => ansR k ((rowsB b).getD i []) q).length = L.length * num b := fun L => by
    rw [flat_le _ (num b) L fun i _ => by rw [List.length_map, f.len]]
  obtain ⟨e', m', h1, s3, h2, h3⟩ := for_all (P := PP) (C := callD PP (n + 5)) (tg := .one 3) (it := .var 1) (b := [.exp (.ext (.var 2) (.lcm [4] (.one 4) (.var 1) [] (.call 16 [(.var 0), (.var 3), (.var 4)])))])
    (e := [some (gm k b), some (.rng 0 (num b : Nat)), some (.loc 0), none, none]) (m := [.lst []]) (x := .val (.rng 0 (num b : Nat))) (List.range (num b)) (fun i => .int (i : Nat))
    (fun pre e m => ∃ s3, e = [some (gm k b), some (.rng 0 (num b : Nat)), some (.loc 0), s3, none] ∧ m = [.lst (pre.flatMap fun i => (rowsB b).map fun q => ansR k ((rowsB b).getD i []) q)]) (by simp) (toL_rng _ (by have := f.le; omega) _) (fun _ _ _ _ => rfl) ⟨none, rfl, rfl⟩ (by
      intro pre i rest hL e m ⟨s3, he, hm⟩
      subst he hm
      have hi : i < num b := List.mem_range.mp (by rw [hL]; simp)
      have hp : pre.length ≤ num b := by
        have := congrArg List.length hL
        rw [List.length_range, List.length_append] at this
        omega
      have hle : (pre.flatMap fun i => (rowsB b).map fun q => ansR k ((rowsB b).getD i []) q).length + ((rowsB b).map fun q => ansR k ((rowsB b).getD i []) q).length ≤ lineP := by
        rw [fl, List.length_map, f.len]
        have := f.le
        have : pre.length * num b ≤ 36 * 36 := Nat.mul_le_mul (by omega) f.le
        unfold lineP
        omega
      rw [List.flatMap_append]
      simp only [List.flatMap_cons, List.flatMap_nil, List.append_nil]
      generalize (pre.flatMap fun i => (rowsB b).map fun q => ansR k ((rowsB b).getD i []) q) = acc at hle ⊢
      refine ⟨_, _, [.lst (acc ++ (rowsB b).map fun q => ansR k ((rowsB b).getD i []) q)], rfl, ?_, some (.int (i : Nat)), rfl, rfl⟩
      have hr : recvOk .append (.loc 0) [.lst acc] = true := rfl
      have hx : extV (.loc 0) ((rowsB b).map fun q => ansR k ((rowsB b).getD i []) q) [.lst acc] = .ok .non [.lst (acc ++ (rowsB b).map fun q => ansR k ((rowsB b).getD i []) q)] := by
        show guard (decide _) _ = _
        rw [guard_of (decide_eq_true hle)]
        rfl
      have hf2 := hf i hi
      clear hf hle
      generalize ((rowsB b).map fun q => ansR k ((rowsB b).getD i []) q) = ap at hf2 hx ⊢
      simp [ss_cons, hr, hf2, hx])
  have e := range_flat (rowsB b) [] fun r => (rowsB b).map fun q => ansR k r q
  rw [f.len] at e
  rw [e] at h3
  subst h2 h3
  have ht : toL (.val (.loc 0)) [.lst (allA k b)] = .ok (allA k b) [.lst (allA k b)] := rfl
  have hk2 : kindX (.val (.loc 0)) [.lst (allA k b)] = some true := rfl
  unfold runB D.d17
  simp only [List.map, List.length, List.replicate, List.cons_append, List.nil_append]
  rw [ss_next (e' := [some (gm k b), none, none, none, none]) (m' := []) (by simp [cl6 (N := n + 5) (by omega) hk hb])]
  rw [ss_next (e' := [some (gm k b), some (.rng 0 (num b : Nat)), none, none, none]) (m' := []) (by
    rw [st_set, ev_def, x_rows (callD PP (n + 5)) (fun m => cl4 (by omega) hk hb m) hb rfl []]; rfl)]
  rw [ss_next (e' := [some (gm k b), some (.rng 0 (num b : Nat)), some (.loc 0), none, none]) (m' := [.lst []]) (by simp)]
  rw [ss_next h1]
  show (execs PP (callD PP (n + 5)) [.ret (.tof (.srs (.var 2)))] [some (gm k b), some (.rng 0 (num b : Nat)), some (.loc 0), s3, none] [.lst (allA k b)]).bind _ = _
  simp [ss_cons, ht, hk2, hs.ok, hs.few, hs.srt, leave, oldOk, pure, hs.pur]
end
end Mi
end

section
set_option autoImplicit false
set_option maxRecDepth 100000
set_option linter.all false
namespace Mi
theorem beqKV_refl : ∀ l : List (PV × PV), beqKV l l = true
  | [] => rfl
  | (k, v) :: l => by rw [beqKV, beq_refl, beq_refl, beqKV_refl l]; rfl
theorem beqFs_refl : ∀ l : List (PySem.Str × PV), beqFs l l = true
  | [] => rfl
  | (k, v) :: l => by rw [beqFs, beq_refl, beqFs_refl l]; simp
theorem beqO_refl : ∀ o : MO, beqO o o = true
  | .lst xs => beqs_refl xs
  | .dct kvs => beqKV_refl kvs
  | .ins c fs => by
    show (c == c && beqFs fs fs) = true
    rw [beqFs_refl]; simp
theorem oldOk_app : ∀ (m t : MH), oldOk m (m ++ t) = true
  | [], t => rfl
  | o :: m, t => by rw [List.cons_append, oldOk, beqO_refl, oldOk_app m t]; simp
theorem oldOk_set : ∀ (m : MH) (l : Nat) (o : MO) (t : MH), pureO o = true → oldOk m (m.set l o ++ t) = true
  | [], l, o, t, _ => rfl
  | a :: m, 0, o, t, h => by rw [List.set_cons_zero, List.cons_append, oldOk, h, oldOk_app m t]; rfl
  | a :: m, l + 1, o, t, h => by rw [List.set_cons_succ, List.cons_append, oldOk, beqO_refl, oldOk_set m l o t h]; simp
def d3 (a b c : Int) : MO := .lst [.int a, .int b, .int c]
@[simp] theorem d3_pure (a b c : Int) : pureO (d3 a b c) = true := rfl
theorem mul_r {i j : Int} (h : fitsI j = true) (m : MH) : binV .mul (.int i) (.int j) m = .ok (.int (i * j)) m := by
  show guard (fitsI i || fitsI j) _ = _
  rw [h, Bool.or_true]
  rfl
theorem mul_l {i j : Int} (h : fitsI i = true) (m : MH) : binV .mul (.int i) (.int j) m = .ok (.int (i * j)) m := by
  show guard (fitsI i || fitsI j) _ = _
  rw [h]
  rfl
theorem mod_p {i j : Int} (h : 0 < j) (m : MH) : binV .mod (.int i) (.int j) m = .ok (.int (i % j)) m := by
  show guard (decide (0 < j)) _ = _
  rw [decide_eq_true h]
  rfl
theorem div_p {i j : Int} (h : 0 < j) (h2 : j < 9223372036854775808) (m : MH) : binV .fdiv (.int i) (.int j) m = .ok (.int (i / j)) m := by
  show guard (decide (0 < j) && decide (j < 9223372036854775808)) _ = _
  rw [decide_eq_true h, decide_eq_true h2]
  rfl
@[simp] theorem biInt_ok (i : Int) (m : MH) : biV .int [.int i] m = some (.int i) := rfl
theorem idxl_list {m : MH} {l : Nat} {xs : List PV} (h : m[l]? = some (.lst xs)) (i : Int) : idxV (.loc l) (.int i) m = (ixOf xs.length i).bind fun k => xs[k]? := by
  unfold idxV
  simp only [h]
theorem ix_nat (n i : Nat) (h : i < n) : ixOf n (i : Nat) = some i := by
  unfold ixOf
  rw [if_pos (by omega), if_pos (by simpa using h)]
  simp
theorem sti_list {m : MH} {l : Nat} {xs : List PV} (h : m[l]? = some (.lst xs)) (i : Int) (v : PV) : stiV (.loc l) (.int i) v m = (ixOf xs.length i).map fun n => m.set l (.lst (xs.set n v)) := by
  unfold stiV
  simp only [h]
section
variable {N : Nat} {m : MH} {l : Nat}
theorem cl19 (h : 1 ≤ N) {a b c tot : Int} (hm : m[l]? = some (d3 a b c)) (hc : 0 ≤ c) (hc2 : c < 1000000) (ht : 0 < tot) (ht2 : tot < 1000000) : ∃ r a' b' c', 0 ≤ r ∧ r < tot ∧ 0 ≤ c' ∧ c' ≤ c + 1 ∧ callD PP N 19 [.loc l, .int tot] m = .ok (.int r) (m.set l (d3 a' b' c')) := by
  obtain ⟨n, rfl⟩ := sub_of h
  rw [call_raw (d := D.d19) rfl rfl rfl]
  have hl : l < m.length := (List.getElem?_eq_some_iff.mp hm).1
  have g : ∀ (a b c : Int) (o : MO), (m.set l (d3 a b c)).set l o = m.set l o := fun a b c o => List.set_set ..
  have hs : ∀ o : MO, (m.set l o)[l]? = some o := fun o => List.getElem?_set_self hl
  have ix : ∀ (m : MH) (a b c : Int), m[l]? = some (d3 a b c) → idxV (.loc l) (.int 0) m = some (.int a) ∧ idxV (.loc l) (.int 1) m = some (.int b) ∧ idxV (.loc l) (.int 2) m = some (.int c) := fun m a b c h => by
    rw [idxl_list h, idxl_list h, idxl_list h]
    exact ⟨rfl, rfl, rfl⟩
  have st : ∀ (m : MH) (a b c : Int) (v : Int), m[l]? = some (d3 a b c) → stiV (.loc l) (.int 0) (.int v) m = some (m.set l (d3 v b c)) ∧ stiV (.loc l) (.int 1) (.int v) m = some (m.set l (d3 a v c)) ∧ stiV (.loc l) (.int 2) (.int v) m = some (m.set l (d3 a b v)) := fun m a b c v h => by
    rw [sti_list h, sti_list h, sti_list h]
    exact ⟨rfl, rfl, rfl⟩
  have hdiv : tot < 9223372036854775808 := by omega
  obtain ⟨i0, i1, i2⟩ := ix m a b c hm
  by_cases ha : 0 < a
  · refine ⟨a % tot, a / tot, b, c, Int.emod_nonneg _ (by omega), Int.emod_lt_of_pos _ ht, hc, by omega, ?_⟩
    have e1 := (st m a b c (a / tot) hm).1
    simp [runB, D.d19, ss_cons, i0, ha, mod_p ht, div_p ht hdiv, e1, leave]
  · have e2 := (st m a b c (c + 1) hm).2.2
    obtain ⟨j0, j1, j2⟩ := ix _ a b (c + 1) (hs _)
    have e1 := fun v => (st (m.set l (d3 a b (c + 1))) a b (c + 1) v (hs _)).2.1
    have f1 : fitsI (c + 1) = true := by unfold fitsI; simp; omega
    refine ⟨(((b * 48271 + (c + 1) * (c + 1) * 2003 + 91) % 2147480009) / 197) % tot, a, (b * 48271 + (c + 1) * (c + 1) * 2003 + 91) % 2147480009, c + 1, Int.emod_nonneg _ (by omega), Int.emod_lt_of_pos _ ht, by omega, by omega, ?_⟩
    have k0 := fun v => (ix (m.set l (d3 a v (c + 1))) a v (c + 1) (hs _)).2.1
    simp [runB, D.d19, ss_cons, i0, i1, i2, ha, mul_r (i := b) (j := 48271) (by decide), mul_l (i := c + 1) (j := c + 1) f1, mul_r (i := (c + 1) * (c + 1)) (j := 2003) (by decide), mod_p (show (0 : Int) < 2147480009 by decide), mod_p ht, div_p (show (0 : Int) < 197 by decide) (show (197 : Int) < 9223372036854775808 by decide), e1, e2, j0, j1, j2, g, k0, leave]
theorem cl20 (h : 2 ≤ N) {a b c : Int} {l2 : Nat} {xs : List PV} (hm : m[l]? = some (d3 a b c)) (hc : 0 ≤ c) (hc2 : c < 1000000) (h2 : m[l2]? = some (.lst xs)) (hne : l ≠ l2) (hx : 0 < xs.length) (hx2 : xs.length < 1000000) : ∃ (i : Nat) (x : PV) (a' b' c' : Int), xs[i]? = some x ∧ 0 ≤ c' ∧ c' ≤ c + 1 ∧ callD PP N 20 [.loc l, .loc l2] m = .ok x (m.set l (d3 a' b' c')) := by
  obtain ⟨n, rfl⟩ := sub_of h
  rw [call_raw (d := D.d20) rfl rfl rfl]
  obtain ⟨r, a', b', c', r1, r2, r3, r4, e⟩ := cl19 (N := n + 1) (by omega) hm hc hc2 (tot := (xs.length : Nat)) (by omega) (by omega)
  have h3 : (m.set l (d3 a' b' c'))[l2]? = some (.lst xs) := by rw [List.getElem?_set_ne hne]; exact h2
  obtain ⟨i, rfl⟩ : ∃ i : Nat, r = i := ⟨r.toNat, by omega⟩
  have hi : i < xs.length := by omega
  refine ⟨i, xs[i], a', b', c', List.getElem?_eq_getElem hi, r3, r4, ?_⟩
  have hlen : biV .len [.loc l2] m = some (.int (xs.length : Nat)) := by
    show (lenV (.loc l2) m).map _ = _
    unfold lenV
    simp only [h2]
    rfl
  have hix : idxV (.loc l2) (.int (i : Nat)) (m.set l (d3 a' b' c')) = some xs[i] := by
    rw [idxl_list h3, ix_nat _ _ hi]
    show xs[i]? = _
    rw [List.getElem?_eq_getElem hi]
  simp [runB, D.d20, ss_cons, hlen, e, hix, leave]
/-- the law's game -/
def bt (b : Int × Int) : PV := .tup [.int b.1, .int b.2]
theorem cl21e (h : 1 ≤ N) {b : Int × Int} (hb : b ∈ boards) (m : MH) : callD PP N 21 [.tup [.str "", .int b.1, .int b.2]] m = .ok (.int (num b : Nat)) m := by
  obtain ⟨n, rfl⟩ := sub_of h
  exact call_lift (d := D.d21) (m1 := []) rfl rfl rfl rfl rfl (map_at (k_size _ "") hb) m
theorem cl22 (h : 3 ≤ N) {a b c : Int} {most : Nat} (hm : m[l]? = some (d3 a b c)) (hc : 0 ≤ c) (hc2 : c < 900000) (hL : (boards.filter fun b => decide (num b ≤ most)) ≠ []) :
    ∃ k bb a' b' c', k ∈ kinds ∧ bb ∈ boards ∧ num bb ≤ most ∧ 0 ≤ c' ∧ c' ≤ c + 2 ∧ callD PP N 22 [.loc l, .int (most : Nat)] m = .ok (gm k bb) (m.set l (d3 a' b' c')) := by
  obtain ⟨n, rfl⟩ := sub_of h
  rw [call_raw (d := D.d22) rfl rfl rfl]
  have hl : l < m.length := (List.getElem?_eq_some_iff.mp hm).1
  -- the kind
  have hm1 : (m ++ [.lst (kinds.map PV.str)])[l]? = some (d3 a b c) := by rw [List.getElem?_append_left hl]; exact hm
  obtain ⟨i, x, a1, b1, c1, hx, p1, p2, e1⟩ := cl20 (N := n + 2) (by omega) hm1 hc (by omega) (l2 := m.length) (xs := kinds.map PV.str) (by simp) (by omega) (by decide) (by decide)
  rw [List.getElem?_map] at hx
  obtain ⟨k, hk, rfl⟩ := Option.map_eq_some_iff.mp hx
  have hk := List.mem_of_getElem? hk
  have s1 : exec PP (callD PP (n + 2)) (.set 2 (.call 20 [(.var 0), (.lst [(.cst (.str "places")), (.cst (.str "both")), (.cst (.str "hues")), (.cst (.str "first")), (.cst (.str "apart")), (.cst (.str "more"))])])) [some (.loc l), some (.int (most : Nat)), none, none, none, none] m = .ok (.next [some (.loc l), some (.int (most : Nat)), some (.str k), none, none, none]) (m.set l (d3 a1 b1 c1) ++ [.lst (kinds.map PV.str)]) := by
    have e2 : callD PP (n + 2) 20 [.loc l, .loc m.length] (m ++ [.lst [.str "places", .str "both", .str "hues", .str "first", .str "apart", .str "more"]]) = _ := e1
    simp [e2]
    rw [List.set_append_left _ _ hl]
  -- the boards
  generalize hB : m.set l (d3 a1 b1 c1) ++ [.lst (kinds.map PV.str)] = m1
  rw [hB] at s1
  have hl1 : l < m1.length := by rw [← hB]; simp; omega
  have hm2 : m1[l]? = some (d3 a1 b1 c1) := by rw [← hB, List.getElem?_append_left (by simpa using hl), List.getElem?_set_self hl]
  have s2 : exec PP (callD PP (n + 2)) (.set 3 (.lst [(.tup [(.cst (.int 2)), (.cst (.int 2))]), (.tup [(.cst (.int 3)), (.cst (.int 2))]), (.tup [(.cst (.int 2)), (.cst (.int 3))]), (.tup [(.cst (.int 2)), (.cst (.int 1))]), (.tup [(.cst (.int 3)), (.cst (.int 1))]), (.tup [(.cst (.int 4)), (.cst (.int 1))]), (.tup [(.cst (.int 6)), (.cst (.int 1))]), (.tup [(.cst (.int 1)), (.cst (.int 3))]), (.tup [(.cst (.int 4)), (.cst (.int 2))]), (.tup [(.cst (.int 2)), (.cst (.int 4))]), (.tup [(.cst (.int 5)), (.cst (.int 2))]), (.tup [(.cst (.int 3)), (.cst (.int 3))]), (.tup [(.cst (.int 6)), (.cst (.int 2))])])) [some (.loc l), some (.int (most : Nat)), some (.str k), none, none, none] m1 = .ok (.next [some (.loc l), some (.int (most : Nat)), some (.str k), some (.loc m1.length), none, none]) (m1 ++ [.lst (boards.map bt)]) := by
    simp
    rfl
  generalize hB2 : m1 ++ [.lst (boards.map bt)] = m2
  rw [hB2] at s2
  have hb2 : m2[m1.length]? = some (.lst (boards.map bt)) := by rw [← hB2]; simp
  have hla : listAt m2 m1.length = some (boards.map bt) := by unfold listAt; rw [hb2]
  have key := lcm_of (P := PP) (C := callD PP (n + 2)) (own := [5]) (tg := .one 5) (it := .var 3) (cs := [(.cmp .le (.call 21 [(.tup [(.cst (.str "")), (.idx (.var 5) (.cst (.int 0))), (.idx (.var 5) (.cst (.int 1)))])]) (.var 1))]) (a := .var 5) (e := [some (.loc l), some (.int (most : Nat)), some (.str k), some (.loc m1.length), none, none]) (m := m2) (x := .val (.loc m1.length))
    boards bt (fun b => [some (.loc l), some (.int (most : Nat)), some (.str k), some (.loc m1.length), none, some (bt b)]) (fun b => decide (num b ≤ most)) bt (by simp) (by
      show (match itemsOf (.loc m1.length) m2 with | some xs => Res.ok xs m2 | none => .stuck) = _
      show (match listAt m2 m1.length with | some xs => Res.ok xs m2 | none => .stuck) = _
      rw [hla]) (by
      show srcOk (match listAt m2 m1.length with | some xs => [(m1.length, xs)] | none => []) m2 = true
      rw [hla]
      exact srcOk_one hla) (fun b hb => ⟨rfl, by
        have i0 : ∀ m, idxV (bt b) (.int 0) m = some (.int b.1) := fun _ => rfl
        have i1 : ∀ m, idxV (bt b) (.int 1) m = some (.int b.2) := fun _ => rfl
        simp [i0, i1, cl21e (N := n + 2) (by omega) hb]
        by_cases c : num b ≤ most <;> simp [c], fun _ => by simp⟩) (by decide)
  obtain ⟨i2, y, a2, b2, c2, hy, p3, p4, e3⟩ := cl20 (N := n + 2) (by omega) (m := m2 ++ [.lst ((boards.filter fun b => decide (num b ≤ most)).map bt)]) (l := l) (a := a1) (b := b1) (c := c1) (by rw [← hB2, List.append_assoc, List.getElem?_append_left hl1]; exact hm2) p1 (by omega) (l2 := m2.length) (xs := (boards.filter fun b => decide (num b ≤ most)).map bt) (by simp) (by rw [← hB2]; simp; omega) (by rw [List.length_map]; exact List.length_pos_iff.mpr hL)
    (by rw [List.length_map]; exact Nat.lt_of_le_of_lt (List.length_filter_le ..) (by decide))
  rw [List.getElem?_map] at hy
  obtain ⟨bb, hbb, rfl⟩ := Option.map_eq_some_iff.mp hy
  have hbb := List.mem_filter.mp (List.mem_of_getElem? hbb)
  have s3 : exec PP (callD PP (n + 2)) (.set 4 (.call 20 [(.var 0), (.lcm [5] (.one 5) (.var 3) [(.cmp .le (.call 21 [(.tup [(.cst (.str "")), (.idx (.var 5) (.cst (.int 0))), (.idx (.var 5) (.cst (.int 1)))])]) (.var 1))] (.var 5))])) [some (.loc l), some (.int (most : Nat)), some (.str k), some (.loc m1.length), none, none] m2 = .ok (.next [some (.loc l), some (.int (most : Nat)), some (.str k), some (.loc m1.length), some (bt bb), none]) ((m2 ++ [MO.lst ((boards.filter fun b => decide (num b ≤ most)).map bt)]).set l (d3 a2 b2 c2)) := by
    simp only [st_set, ev_def, x_call, s_cons, s_nil, key, x_var, List.getElem?_cons_zero, Res.bind_ok, toV_val, toV_tmp, e3]
    rfl
  refine ⟨k, bb, a2, b2, c2, hk, hbb.1, of_decide_eq_true hbb.2, p3, by omega, ?_⟩
  unfold runB D.d22
  simp only [List.map, List.length, List.replicate, List.cons_append, List.nil_append]
  rw [ss_next s1, ss_next s2, ss_next s3]
  have i0 : ∀ m, idxV (bt bb) (.int 0) m = some (.int bb.1) := fun _ => rfl
  have i1 : ∀ m, idxV (bt bb) (.int 1) m = some (.int bb.2) := fun _ => rfl
  have hfin : (m2 ++ [MO.lst ((boards.filter fun b => decide (num b ≤ most)).map bt)]).set l (d3 a2 b2 c2) = m.set l (d3 a2 b2 c2) ++ [MO.lst (kinds.map PV.str), MO.lst (boards.map bt), MO.lst ((boards.filter fun b => decide (num b ≤ most)).map bt)] := by
    rw [← hB2, ← hB, List.append_assoc, List.append_assoc, List.set_append_left _ _ (by simpa using hl), List.set_set]
    rfl
  have hp : pure (.tup [.str k, .int bb.1, .int bb.2]) = true := pure_gm (b := bb) hk
  simp only [ss_cons, st_ret, ev_def, x_tup, s_cons, s_nil, x_var, x_idx, x_cst, List.getElem?_cons_zero, List.getElem?_cons_succ, Res.bind_ok, toV_val, i0, i1, ofO_some]
  show guard (pure (.tup [.str k, .int bb.1, .int bb.2]) && oldOk m _) (Res.ok _ _) = _
  rw [hfin, hp, oldOk_set _ _ _ _ (d3_pure ..)]
  show Res.ok _ ((m.set l (d3 a2 b2 c2) ++ _).take m.length) = _
  rw [show m.length = (m.set l (d3 a2 b2 c2)).length by simp, List.take_left]
  rfl
end
end Mi
end

section
set_option autoImplicit false
set_option maxRecDepth 100000
set_option linter.all false
namespace Mi
section
variable {N : Nat}
theorem pow_16 (m : MH) : binV .pow (.int 10) (.int 16) m = .ok (.int 10000000000000000) m := rfl
theorem ix_seq {ns : List Int} {i : Nat} {a : Int} (h : ns[i]? = some a) (m : MH) : idxV (.seq ns) (.int (i : Nat)) m = some (.int a) := by
  show ((ixOf ns.length (i : Nat)).bind fun k => ns[k]?).map PV.int = _
  rw [ix_nat _ _ (List.getElem?_eq_some_iff.mp h).1]
  simp [h]
theorem cl18 (h : 1 ≤ N) (ns : List Int) (hns : ns.length ≤ 1000) (i : Nat) (m : MH) (hi : i < 1000) : ∃ a b, callD PP N 18 [.seq ns, .int (i : Nat)] m = .ok (.loc m.length) (m ++ [d3 a b 0]) := by
  obtain ⟨n, rfl⟩ := sub_of h
  rw [call_raw (d := D.d18) rfl rfl rfl]
  obtain ⟨own, hown⟩ : ∃ own : Int, exec PP (callD PP n) (.set 2 (.ife (.cmp .lt (.var 1) (.bi .len [(.var 0)])) (.idx (.var 0) (.var 1)) (.bin .add (.bin .mul (.cst (.int 811)) (.var 1)) (.cst (.int 37))))) [some (.seq ns), some (.int (i : Nat)), none, none, none] m = .ok (.next [some (.seq ns), some (.int (i : Nat)), some (.int own), none, none]) m := by
    have hl : biV .len [.seq ns] m = some (.int (ns.length : Nat)) := rfl
    by_cases c : i < ns.length
    · exact ⟨ns[i], by simp [hl, c, ix_seq (List.getElem?_eq_getElem c)]⟩
    · exact ⟨811 * (i : Nat) + 37, by simp [hl, c, mul_l (i := 811) (j := (i : Nat)) (by decide)]⟩
  have s2 : exec PP (callD PP n) (.set 3 (.bin .add (.cst (.int 700001)) (.bin .mul (.cst (.int 6947)) (.var 1)))) [some (.seq ns), some (.int (i : Nat)), some (.int own), none, none] m = .ok (.next [some (.seq ns), some (.int (i : Nat)), some (.int own), some (.int (700001 + 6947 * (i : Nat))), none]) m := by
    simp [mul_l (i := 6947) (j := (i : Nat)) (by decide)]
  have hx : evX PP (callD PP n) (.lcat (.lslc (.var 0) none (some (.cst (.int 6)))) (.lst [(.var 2)])) [some (.seq ns), some (.int (i : Nat)), some (.int own), some (.int (700001 + 6947 * (i : Nat))), none] m = .ok (.tmp ((ns.take 6 ++ [own]).map PV.int)) m := by
    have t : toLL (.val (.seq ns)) m = .ok (ns.map PV.int) m := rfl
    have e1 : cut (ns.map PV.int) none (some 6) = (ns.take 6).map PV.int := by
      have := cut_take (ns.map PV.int) 6
      rw [← List.map_take] at this
      exact this
    have e2 : (ns.take 6).length + 1 ≤ lineP := by rw [List.length_take]; unfold lineP; omega
    simp [t, e1]
    have e3 : min 6 ns.length + 1 ≤ lineP := by unfold lineP; omega
    simp [e3]
  obtain ⟨e', m', h1, b, s4, h2, h3⟩ := for_fold (P := PP) (C := callD PP n) (tg := .one 4) (it := .lcat (.lslc (.var 0) none (some (.cst (.int 6)))) (.lst [(.var 2)])) (b := [.set 3 (.bin .mod (.bi .int [(.bin .add (.bin .mul (.var 3) (.cst (.int 69621))) (.bin .mod (.bi .int [(.var 4)]) (.cst (.int 2147480009))))]) (.cst (.int 2147480009)))])
    (e := [some (.seq ns), some (.int (i : Nat)), some (.int own), some (.int (700001 + 6947 * (i : Nat))), none]) (m := m) (x := .tmp ((ns.take 6 ++ [own]).map PV.int)) (ns.take 6 ++ [own]) PV.int (fun (s : Unit) _ => s)
    (fun s e m' => ∃ b s4, e = [some (.seq ns), some (.int (i : Nat)), some (.int own), some (.int b), s4] ∧ m' = m) () hx rfl (fun _ _ _ _ => rfl) ⟨_, none, rfl, rfl⟩ (by
      intro s z e m1 _ ⟨b, s4, he, hm⟩
      subst he hm
      refine ⟨_, [some (.seq ns), some (.int (i : Nat)), some (.int own), some (.int ((b * 69621 + z % 2147480009) % 2147480009)), some (.int z)], m1, rfl, ?_, _, some (.int z), rfl, rfl⟩
      simp [ss_cons, mul_r (i := b) (j := 69621) (by decide), mod_p (show (0 : Int) < 2147480009 by decide)])
  subst h2 h3
  obtain ⟨a, ha⟩ : ∃ a : Int, evX PP (callD PP n) (.ife (.or (.cmp .lt (.var 2) (.cst (.int 0))) (.cmp .ge (.var 2) (.bin .pow (.cst (.int 10)) (.cst (.int 16))))) (.bi .abs [(.var 2)]) (.cst (.int 0))) [some (.seq ns), some (.int (i : Nat)), some (.int own), some (.int b), s4] m' = .ok (.val (.int a)) m' := by
    by_cases c1 : own < 0
    · exact ⟨-own, by simp [c1, biV]⟩
    · by_cases c2 : (10000000000000000 : Int) ≤ own
      · exact ⟨own, by simp [c1, c2, biV, pow_16]⟩
      · exact ⟨0, by simp [c1, c2, biV, pow_16]⟩
  refine ⟨a, b, ?_⟩
  unfold runB D.d18
  simp only [List.map, List.length, List.replicate, List.cons_append, List.nil_append]
  rw [ss_next hown, ss_next s2, ss_next h1]
  simp only [ss_cons, st_ret, ev_def, x_lst, s_cons, s_nil, ha, x_var, x_cst, List.getElem?_cons_zero, List.getElem?_cons_succ, Res.bind_ok, toV_val, toV_tmp]
  show (match wlistAt (m' ++ [d3 a b 0]) m'.length with
    | some xs => guard (decide (m'.length ≤ m'.length) && pures xs && oldOk m' (m' ++ [d3 a b 0])) (alloc (.lst xs) ((m' ++ [d3 a b 0]).take m'.length))
    | none => Res.stuck) = _
  have hw : wlistAt (m' ++ [d3 a b 0]) m'.length = some [.int a, .int b, .int 0] := by unfold wlistAt; rw [at_app0]; rfl
  rw [hw, oldOk_app, List.take_left]
  simp
  rfl
end
end Mi
end

section
set_option autoImplicit false
set_option maxRecDepth 100000
set_option maxHeartbeats 1000000
set_option linter.all false
namespace Mi
section
variable {k : PySem.Str} {b : Int × Int}
def fullV (k : PySem.Str) (p : Int) : Option PV := lookK k ["places", "both", "hues", "first", "apart", "more"] [.int p, .tup [.int p, .int 0], .int p, .int p, .int 0, .int 0]
theorem full_tab : (kinds.all fun k => boards.all fun b => (rowsB b).all fun r => match fullV k b.2 with
  | some v => beqP v (ansR k r r)
  | none => false) = true := by decide +kernel
mutual
theorem beqV : ∀ v w : PV, beqP v w = true → v = w
  | .non, w, h => by cases w <;> simp [beqP] at h; rfl
  | .bl a, w, h => by cases w <;> simp [beqP] at h; rw [h]
  | .int a, w, h => by cases w <;> simp [beqP] at h; rw [h]
  | .str a, w, h => by cases w <;> simp [beqP] at h; rw [h]
  | .tup xs, w, h => by
    cases w <;> simp [beqP] at h
    rw [beqVs _ _ h]
  | .loc a, w, h => by cases w <;> simp [beqP] at h; rw [h]
  | .rng a b, w, h => by cases w <;> simp [beqP] at h; rw [h.1, h.2]
  | .seq a, w, h => by cases w <;> simp [beqP] at h; rw [h]
theorem beqVs : ∀ vs ws : List PV, beqPs vs ws = true → vs = ws
  | [], [], _ => rfl
  | [], _ :: _, h => by simp [beqPs] at h
  | _ :: _, [], h => by simp [beqPs] at h
  | v :: vs, w :: ws, h => by
    rw [beqPs, Bool.and_eq_true] at h
    rw [beqV v w h.1, beqVs vs ws h.2]
end
def isI : PV → Bool
  | .int _ => true
  | .tup [.int _, .int _] => true
  | _ => false
theorem isI_ans (k : PySem.Str) (xs ys : List Int) : isI (ansR k xs ys) = true := by
  unfold ansR ansA
  repeat' split
  all_goals rfl
theorem isI_eqv {v : PV} (h : isI v = true) : eqv v v = true ∧ pure v = true ∧ depth v ≤ 60 := by
  unfold isI at h
  split at h
  · exact ⟨by simp [eqv], rfl, by simp [depth]⟩
  · exact ⟨by simp [eqv, eqvs], rfl, by simp [depth, depths]⟩
  · cases h
theorem eqH_same {v : PV} (h1 : eqv v v = true) (h2 : pure v = true) (h3 : depth v ≤ 60) (m : MH) : eqH m v v = some true := by
  have e : sideOf v m = some (false, v) := by
    unfold sideOf
    split
    · cases h2
    · rw [h2, decide_eq_true h3]; rfl
  unfold eqH
  rw [e]
  show some (if (false == false) = true then eqv v v else false) = _
  rw [h1]
  rfl
theorem ne_ans (k : PySem.Str) (xs ys : List Int) (m : MH) : cmpV .ne (ansR k xs ys) (ansR k xs ys) m = some false := by
  obtain ⟨h1, h2, h3⟩ := isI_eqv (isI_ans k xs ys)
  show (eqH m _ _).map _ = _
  rw [eqH_same h1 h2 h3]
  rfl
theorem ne_tup {ys : List PV} (h1 : eqvs ys ys = true) (h2 : pures ys = true) (h3 : depths ys ≤ 50) (m : MH) : cmpV .ne (.tup ys) (.tup ys) m = some false := by
  show (eqH m _ _).map _ = _
  rw [eqH_same (v := .tup ys) (by rw [eqv]; exact h1) h2 (by rw [depth]; omega)]
  rfl
theorem ne_int (i j : Int) (m : MH) : cmpV .ne (.int i) (.int j) m = some (!decide (i = j)) := by
  show (cmpV .eq (.int i) (.int j) m).map _ = _
  rw [cmp_eqI]
  rfl
theorem tts (l : List (List Int)) : eqvs (l.map tt) (l.map tt) = true ∧ pures (l.map tt) = true ∧ depths (l.map tt) ≤ 50 := by
  induction l with
  | nil => exact ⟨rfl, rfl, by simp [depths]⟩
  | cons x l ih =>
    rw [List.map_cons, eqvs, pures, depths, ih.1, ih.2.1, eqv_tt, pure_tt, depth_tt]
    refine ⟨by simp, rfl, ?_⟩
    have := ih.2.2
    omega
theorem ne_tt (r : List Int) (m : MH) : cmpV .ne (tt r) (tt r) m = some false := by
  show (eqH m _ _).map _ = _
  rw [eqH_same (v := tt r) (by rw [eqv_tt]; simp) (pure_tt r) (by rw [depth_tt]; omega)]
  rfl
theorem add_tt (r : List Int) (h : r.length ≤ 1000) (m : MH) : binV .add (tt r) (.tup [.int 0]) m = .ok (tt (r ++ [0])) m := by
  show guard (decide ((r.map PV.int).length + [PV.int 0].length ≤ lineP)) (Res.ok (PV.tup (r.map PV.int ++ [PV.int 0])) m) = _
  rw [guard_of (decide_eq_true (by simp [lineP]; omega))]
  unfold tt
  rw [List.map_append]
  rfl
theorem three : ∀ (xs ys : List Int), xs.length = ys.length → moreI xs ys + moreI ys xs + rightI xs ys = (xs.length : Nat)
  | [], [], _ => rfl
  | x :: xs, [], h => by simp at h
  | [], y :: ys, h => by simp at h
  | x :: xs, y :: ys, h => by
    have ih := three xs ys (by simpa using h)
    unfold moreI rightI at ih ⊢
    rw [List.zip_cons_cons, List.zip_cons_cons, List.filter_cons, List.filter_cons, List.filter_cons]
    simp only [List.length_cons]
    rcases Int.lt_trichotomy x y with c | c | c
    · rw [if_neg (by simp; omega), if_pos (by simp; omega), if_neg (by simp; omega)]
      simp only [List.length_cons]
      omega
    · rw [if_neg (by simp; omega), if_neg (by simp; omega), if_pos (by simp; omega)]
      simp only [List.length_cons]
      omega
    · rw [if_pos (by simp; omega), if_neg (by simp; omega), if_neg (by simp; omega)]
      simp only [List.length_cons]
      omega
end
end Mi
end

section
set_option autoImplicit false
set_option maxRecDepth 100000
set_option maxHeartbeats 1000000
set_option linter.all false
namespace Mi
@[simp] theorem pure_int (i : Int) : pure (.int i) = true := rfl
def tN (l : List Nat) : PV := .tup (l.map fun i => PV.int (i : Nat))
theorem tN_tt (l : List Nat) : tN l = tt (l.map fun i => ((i : Nat) : Int)) := by unfold tN tt; rw [List.map_map]; rfl
@[simp] theorem pure_tN (l : List Nat) : pure (tN l) = true := by rw [tN_tt]; exact pure_tt _
structure HS (n : Nat) (hs : List Nat) : Prop where
  rise : hs.Pairwise (· < ·)
  lt : ∀ i ∈ hs, i < n
theorem rise_len : ∀ (l : List Nat) (lo n : Nat), l.Pairwise (· < ·) → (∀ i ∈ l, lo ≤ i ∧ i < n) → l.length ≤ n - lo
  | [], _, _, _, _ => Nat.zero_le _
  | a :: l, lo, n, h, hb => by
    rw [List.pairwise_cons] at h
    have h1 := rise_len l (a + 1) n h.2 fun i hi => ⟨h.1 i hi, (hb i (List.mem_cons_of_mem _ hi)).2⟩
    have h2 := hb a List.mem_cons_self
    simp only [List.length_cons]
    omega
theorem HS.len {n : Nat} {hs : List Nat} (h : HS n hs) : hs.length ≤ n := by
  have := rise_len hs 0 n h.rise fun i hi => ⟨Nat.zero_le _, h.lt i hi⟩
  omega
theorem adj_lt : ∀ (l : List Nat), l.Pairwise (· < ·) → ∀ p ∈ l.zip (l.drop 1), p.1 < p.2
  | [], _, p, hp => by simp at hp
  | [a], _, p, hp => by simp at hp
  | a :: b :: l, h, p, hp => by
    rw [List.drop_succ_cons, List.drop_zero, List.zip_cons_cons] at hp
    rw [List.pairwise_cons] at h
    rcases List.mem_cons.mp hp with hp | hp
    · rw [hp]; exact h.1 b List.mem_cons_self
    · have := adj_lt (b :: l) h.2 p
      rw [List.drop_succ_cons, List.drop_zero] at this
      exact this hp
theorem cutD {α : Type} (l : List α) (i : Nat) : cut l (some (i : Int)) none = l.drop i := by
  have e1 : bnd l.length l.length none = l.length := rfl
  have e2 : bnd l.length 0 (some (i : Int)) = min i l.length := by
    show (if (i : Int) < 0 then ((i : Int) + (l.length : Int)).toNat else min (i : Int).toNat l.length) = _
    rw [if_neg (by omega)]; rfl
  unfold cut
  rw [e1, e2]
  rcases Nat.le_total i l.length with h | h
  · rw [Nat.min_eq_left h]
    apply List.take_of_length_le
    simp
  · rw [Nat.min_eq_right h, List.drop_length, List.drop_of_length_le h]
    simp
theorem cutT {α : Type} (l : List α) (i : Nat) : cut l none (some (i : Int)) = l.take i := by
  have e1 : bnd l.length 0 none = 0 := rfl
  have e2 : bnd l.length l.length (some (i : Int)) = min i l.length := by
    show (if (i : Int) < 0 then ((i : Int) + (l.length : Int)).toNat else min (i : Int).toNat l.length) = _
    rw [if_neg (by omega)]; rfl
  unfold cut
  rw [e1, e2, List.drop_zero, Nat.sub_zero]
  rcases Nat.le_total i l.length with h | h
  · rw [Nat.min_eq_left h]
  · rw [Nat.min_eq_right h, List.take_length, List.take_of_length_le h]
theorem bools_map {α : Type} (p : α → Bool) : ∀ L : List α, bools (L.map fun a => PV.bl (p a)) = some (L.map p)
  | [] => rfl
  | a :: L => by rw [List.map_cons, bools, bools_map p L]; rfl
theorem all_bl {α : Type} (p : α → Bool) (L : List α) : blV .all (L.map fun a => PV.bl (p a)) = some (.bl (L.all p)) := by
  show (bools _).map _ = _
  rw [bools_map]
  show some (PV.bl ((L.map p).all id)) = _
  rw [List.all_map]
  rfl
section
variable {N n : Nat} {hs : List Nat} {k : PySem.Str} {b : Int × Int}
theorem cl28 (h : 3 ≤ N) (H : HS n hs) (hn : n ≤ 100) (m : MH) : callD PP N 28 [tN hs, .int (n : Nat)] m = .ok (.bl true) m := by
  obtain ⟨N, rfl⟩ := sub_of h
  refine call_lift (d := D.d28) (m1 := []) rfl rfl rfl (by rw [pures, pure_tN]; rfl) rfl ?_ m
  rw [tN_tt]
  have h3 := cl3 (N := N + 2) (by omega) (hs.map fun i => ((i : Nat) : Int)) (by rw [List.length_map]; have := H.len; omega) 0 (n : Nat) 0 ((n : Nat) - 1)
  have e3 : (decide ((0 : Int) ≤ ((hs.map fun i => ((i : Nat) : Int)).length : Nat)) && decide (((hs.map fun i => ((i : Nat) : Int)).length : Nat) ≤ (n : Int)) && (hs.map fun i => ((i : Nat) : Int)).all fun v => decide (0 ≤ v) && decide (v ≤ (n : Int) - 1)) = true := by
    rw [List.length_map]
    have := H.len
    simp only [Bool.and_eq_true, decide_eq_true_eq, List.all_eq_true]
    refine ⟨⟨by omega, by omega⟩, fun x hx => ?_⟩
    obtain ⟨i, hi, rfl⟩ := List.mem_map.mp hx
    have := H.lt i hi
    omega
  rw [e3] at h3
  generalize hl : (hs.map fun i => ((i : Nat) : Int)) = l at h3
  have hz : l.zip (l.drop 1) = (hs.zip (hs.drop 1)).map fun p => ((p.1 : Int), (p.2 : Int)) := by
    rw [← hl, ← List.map_drop, List.zip_map]
    rfl
  have key := lcm_map (P := PP) (C := callD PP (N + 2)) (own := [2, 3]) (tg := .two 2 3) (it := .zip (.var 0) (.slc (.var 0) (some (.cst (.int 1))) none)) (a := .cmp .lt (.var 2) (.var 3)) (e := [some (tt l), some (.int (n : Nat)), none, none]) (m := []) (l.zip (l.drop 1)) (fun p => PV.tup [.int p.1, .int p.2])
    (fun p => [some (tt l), some (.int (n : Nat)), some (.int p.1), some (.int p.2)]) (fun p => .bl (decide (p.1 < p.2)))
    (zip_tt (by simp) (by
      have e : slcV (tt l) (some 1) none [] = some (tt (l.drop 1)) := by
        show some (PV.tup (cut (l.map PV.int) (some ((1 : Nat) : Int)) none)) = _
        rw [cutD, ← List.map_drop]
        rfl
      simp [e])) rfl rfl (fun p _ => ⟨rfl, by simp⟩) (by
      have := H.len
      rw [List.length_zip, ← hl, List.length_map]
      unfold lineP
      omega)
  have ha : (l.zip (l.drop 1)).all (fun p => decide (p.1 < p.2)) = true := by
    rw [hz, List.all_map, List.all_eq_true]
    intro p hp
    have := adj_lt hs H.rise p hp
    simp
    exact this
  unfold runB D.d28
  simp only [List.map, List.length, List.replicate, List.cons_append, List.nil_append, ss_cons, st_ret, ev_def, x_and, x_call, s_cons, s_nil, x_cst, x_bin, x_var, List.getElem?_cons_zero, List.getElem?_cons_succ, Res.bind_ok, toV_val, bin_subI, h3, asB_ok, if_true, x_bl]
  rw [key]
  simp only [Res.bind_ok, toLL_tmp, all_bl, ha, ofO_some, toV_val]
  rfl
theorem cl32 (h : 4 ≤ N) (hk : k ∈ kinds) (hb : b ∈ boards) (H : HS (num b) hs) (x : PySem.Str) (hx : pure (.str x) = true) (m : MH) : callD PP N 32 [gm k b, tN hs, .str x] m = .ok .non m := by
  obtain ⟨N, rfl⟩ := sub_of h
  refine call_lift (d := D.d32) (m1 := []) rfl rfl rfl (by rw [pures, pure_gm hk, pures, pure_tN, pures, hx]; rfl) rfl ?_ m
  simp [runB, D.d32, ss_cons, leave, cl4 (N := N + 3) (by omega) hk hb, cl28 (N := N + 3) (by omega) H (by have := (bf hb).le; omega), cl0 (N := N + 3) (by omega) x hx]
theorem cl33 (h : 2 ≤ N) (hk : k ∈ kinds) (hb : b ∈ boards) {i : Nat} (hi : i < num b) (x : PySem.Str) (hx : pure (.str x) = true) (m : MH) : callD PP N 33 [gm k b, .int (i : Nat), .str x] m = .ok .non m := by
  obtain ⟨N, rfl⟩ := sub_of h
  refine call_lift (d := D.d33) (m1 := []) rfl rfl rfl (by rw [pures, pure_gm hk, pures, pure_int, pures, hx]; rfl) rfl ?_ m
  have e1 : ((i : Nat) : Int) ≤ (num b : Nat) - 1 := by omega
  simp [runB, D.d33, ss_cons, leave, cl4 (N := N + 1) (by omega) hk hb, cl1 (N := N + 1) (by omega), e1, cl0 (N := N + 1) (by omega) x hx]
end
end Mi
end

section
set_option autoImplicit false
set_option maxRecDepth 100000
set_option maxHeartbeats 1000000
set_option linter.all false
namespace Mi
/-- the answer of row i to the ask j -/
def An (k : PySem.Str) (b : Int × Int) (i j : Nat) : PV := ansR k ((rowsB b).getD i []) ((rowsB b).getD j [])
/-- such replies are served -/
def rOk (c : Int) : PV → Bool
  | .int i => decide (0 ≤ i) && decide (i ≤ c)
  | .tup [.int i, .int j] => decide (0 ≤ i) && decide (i ≤ c) && (decide (0 ≤ j) && decide (j ≤ c))
  | _ => false
theorem reply_tab : (kinds.all fun k => (boards.filter fun b => decide (num b ≤ 9)).all fun b => (rowsB b).all fun r => (rowsB b).all fun q => rOk 20 (ansR k r q)) = true := by decide +kernel
theorem rOk_isI {c : Int} {v : PV} (h : rOk c v = true) : isI v = true := by
  unfold rOk at h
  split at h
  · rfl
  · rfl
  · cases h
theorem eqv_is {v w : PV} (h1 : isI v = true) (h2 : isI w = true) : eqv v w = true ↔ v = w := by
  unfold isI at h1 h2
  split at h1 <;> split at h2 <;> first | (cases h1; done) | (cases h2; done) | skip
  · simp [eqv]
  · simp [eqv]
  · simp [eqv]
  · simp [eqv, eqvs]
theorem eqH_I {v w : PV} (h1 : isI v = true) (h2 : isI w = true) (m : MH) : eqH m v w = some (eqv v w) := by
  obtain ⟨_, a2, a3⟩ := isI_eqv h1
  obtain ⟨_, b2, b3⟩ := isI_eqv h2
  have side : ∀ {u : PV}, pure u = true → depth u ≤ 60 → sideOf u m = some (false, u) := fun {u} p q => by
    unfold sideOf
    split
    · cases p
    · rw [p, decide_eq_true q]; rfl
  unfold eqH
  rw [side a2 a3, side b2 b3]
  rfl
theorem ne_I {v w : PV} (h1 : isI v = true) (h2 : isI w = true) (m : MH) : cmpV .ne v w m = some (!eqv v w) := by
  show (eqH m v w).map _ = _
  rw [eqH_I h1 h2]
  rfl
theorem eq_I {v w : PV} (h1 : isI v = true) (h2 : isI w = true) (m : MH) : cmpV .eq v w m = some (eqv v w) := eqH_I h1 h2 m
theorem isI_An (k : PySem.Str) (b : Int × Int) (i j : Nat) : isI (An k b i j) = true := isI_ans ..
theorem rOk_An {k : PySem.Str} {b : Int × Int} (hk : k ∈ kinds) (hb : b ∈ boards) (h9 : num b ≤ 9) {i j : Nat} (hi : i < num b) (hj : j < num b) : rOk 20 (An k b i j) = true := by
  have z := List.all_eq_true.mp (List.all_eq_true.mp reply_tab k hk) b (List.mem_filter.mpr ⟨hb, decide_eq_true h9⟩)
  exact List.all_eq_true.mp (List.all_eq_true.mp z _ (List.mem_of_getElem? (row_ex hb hi))) _ (List.mem_of_getElem? (row_ex hb hj))
/-- what was heard -/
abbrev Hd := List (Nat × PV)
def hv (hd : Hd) : PV := .tup (hd.map fun p => PV.tup [.int (p.1 : Nat), p.2])
structure HdOk (n : Nat) (hd : Hd) : Prop where
  lt : ∀ p ∈ hd, p.1 < n
  ok : ∀ p ∈ hd, rOk 99 p.2 = true
  len : hd.length ≤ 12
theorem pures_hv : ∀ hd : Hd, (∀ p ∈ hd, isI p.2 = true) → pures (hd.map fun p => PV.tup [.int (p.1 : Nat), p.2]) = true
  | [], _ => rfl
  | p :: hd, h => by
    rw [List.map_cons, pures, pures_hv hd fun q hq => h q (List.mem_cons_of_mem _ hq)]
    have := (isI_eqv (h p List.mem_cons_self)).2.1
    show (pures [.int (p.1 : Nat), p.2] && true) = true
    rw [pures, pures, this]
    rfl
theorem HdOk.isI {n : Nat} {hd : Hd} (h : HdOk n hd) : ∀ p ∈ hd, isI p.2 = true := fun p hp => rOk_isI (h.ok p hp)
theorem HdOk.pure {n : Nat} {hd : Hd} (h : HdOk n hd) : pure (hv hd) = true := pures_hv hd h.isI
def miss (k : PySem.Str) (b : Int × Int) (i : Nat) (hd : Hd) : Nat := (hd.filter fun p => !eqv (An k b i p.1) p.2).length
def diff (k : PySem.Str) (b : Int × Int) (asks : List Nat) (i j : Nat) : Nat := (asks.filter fun a => !eqv (An k b i a) (An k b j a)).length
def heardS (k : PySem.Str) (b : Int × Int) (asks : List Nat) (row : Nat) : Hd := asks.map fun a => (a, An k b row a)
section
variable {N n : Nat} {hs : List Nat} {k : PySem.Str} {b : Int × Int}
theorem cl16A (h : 3 ≤ N) (hk : k ∈ kinds) (hb : b ∈ boards) {i j : Nat} (hi : i < num b) (hj : j < num b) (m : MH) : callD PP N 16 [gm k b, .int (i : Nat), .int (j : Nat)] m = .ok (An k b i j) m := cl16 h hk hb (row_ex hb hi) (row_ex hb hj) m
theorem cl1t (h : 1 ≤ N) (xs : List PV) (hp : pures xs = true) (lo hi : Int) (m : MH) : callD PP N 1 [.tup xs, .int lo, .int hi] m = .ok (.bl false) m := by
  obtain ⟨N, rfl⟩ := sub_of h
  refine call_lift (d := D.d1) (m1 := []) rfl rfl rfl (by rw [pures, pure, hp]; rfl) rfl ?_ m
  simp [runB, D.d1, ss_cons, leave, isiV]
theorem cl47 (h : 2 ≤ N) {v : PV} (hv : rOk 99 v = true) (m : MH) : callD PP N 47 [v] m = .ok (.bl true) m := by
  obtain ⟨N, rfl⟩ := sub_of h
  have hp := (isI_eqv (rOk_isI hv)).2.1
  refine call_lift (d := D.d47) (m1 := []) rfl rfl rfl (by rw [pures, hp]; rfl) rfl ?_ m
  unfold rOk at hv
  split at hv
  · rename_i i
    simp only [Bool.and_eq_true, decide_eq_true_eq] at hv
    simp [runB, D.d47, ss_cons, leave, cl1 (N := N + 1) (by omega), hv.1, hv.2]
  · rename_i i j
    simp only [Bool.and_eq_true, decide_eq_true_eq] at hv
    have c2 := cl2 (N := N + 1) (by omega) [.int i, .int j] rfl 2 2
    have p0 : ∀ m, idxV (.tup [.int i, .int j]) (.int 0) m = some (.int i) := fun m => rfl
    have p1 : ∀ m, idxV (.tup [.int i, .int j]) (.int 1) m = some (.int j) := fun m => rfl
    simp [runB, D.d47, ss_cons, leave, cl1t (N := N + 1) (by omega) [.int i, .int j] rfl, c2, cl1 (N := N + 1) (by omega), p0, p1, hv.1.1, hv.1.2, hv.2.1, hv.2.2]
  · cases hv
end
end Mi
end

section
set_option autoImplicit false
set_option maxRecDepth 100000
set_option maxHeartbeats 1000000
set_option linter.all false
namespace Mi
section
variable {N n : Nat} {hs : List Nat} {k : PySem.Str} {b : Int × Int}
theorem len_hv (hd : Hd) (m : MH) : biV .len [hv hd] m = some (.int (hd.length : Nat)) := by
  show some (PV.int ((hd.map _).length : Nat)) = _
  rw [List.length_map]
theorem cl2h (h : 1 ≤ N) {hd : Hd} (hp : pure (hv hd) = true) (lo hi : Int) (m : MH) : callD PP N 2 [hv hd, .int lo, .int hi] m = .ok (.bl (decide (lo ≤ (hd.length : Nat)) && decide ((hd.length : Nat) ≤ hi))) m := by
  have z := cl2 h (hd.map fun (p : Nat × PV) => PV.tup [.int (p.1 : Nat), p.2]) (show pures (hd.map fun (p : Nat × PV) => PV.tup [.int (p.1 : Nat), p.2]) = true from hp) lo hi m
  rw [List.length_map] at z
  exact z
theorem pair0 (u v : PV) (m : MH) : idxV (.tup [u, v]) (.int 0) m = some u := rfl
theorem pair1 (u v : PV) (m : MH) : idxV (.tup [u, v]) (.int 1) m = some v := rfl
theorem all_true {α : Type} (L : List α) : L.all (fun _ => true) = true := by rw [List.all_eq_true]; intro x _; rfl
end
end Mi
end

section
set_option autoImplicit false
set_option maxRecDepth 100000
set_option maxHeartbeats 1000000
set_option linter.all false
namespace Mi
/-- each two of a list, in its order -/
def pairs : List Nat → List (Nat × Nat)
  | [] => []
  | a :: l => (l.map fun c => (a, c)) ++ pairs l
theorem pairs_le : ∀ l : List Nat, (pairs l).length ≤ l.length * l.length
  | [] => Nat.zero_le _
  | a :: l => by
    rw [pairs, List.length_append, List.length_map, List.length_cons]
    have := pairs_le l
    rw [Nat.add_mul, Nat.mul_add]
    omega
theorem pairs_mem : ∀ (l : List Nat) (p : Nat × Nat), p ∈ pairs l → p.1 ∈ l ∧ p.2 ∈ l
  | [], p, h => by cases h
  | a :: l, p, h => by
    rw [pairs] at h
    rcases List.mem_append.mp h with h | h
    · obtain ⟨c, hc, rfl⟩ := List.mem_map.mp h
      exact ⟨List.mem_cons_self, List.mem_cons_of_mem _ hc⟩
    · have := pairs_mem l p h
      exact ⟨List.mem_cons_of_mem _ this.1, List.mem_cons_of_mem _ this.2⟩
theorem pairs_all : ∀ (l : List Nat) (i j : Nat), i ∈ l → j ∈ l → i ≠ j → (i, j) ∈ pairs l ∨ (j, i) ∈ pairs l
  | [], i, j, h, _, _ => by cases h
  | a :: l, i, j, h1, h2, ne => by
    rw [pairs]
    rcases List.mem_cons.mp h1 with e1 | h1
    · rcases List.mem_cons.mp h2 with e2 | h2
      · exact absurd (e1.trans e2.symm) ne
      · rw [e1]
        exact .inl (List.mem_append_left _ (List.mem_map.mpr ⟨j, h2, rfl⟩))
    · rcases List.mem_cons.mp h2 with e2 | h2
      · rw [e2]
        exact .inr (List.mem_append_left _ (List.mem_map.mpr ⟨i, h1, rfl⟩))
      · rcases pairs_all l i j h1 h2 ne with h | h
        · exact .inl (List.mem_append_right _ h)
        · exact .inr (List.mem_append_right _ h)
theorem enum_map {α : Type} (f : α → PV) : ∀ (l : List α) (n : Nat), enum n (l.map f) = (l.zipIdx n).map fun p => PV.tup [.int (p.2 : Nat), f p.1]
  | [], n => rfl
  | a :: l, n => by rw [List.map_cons, enum, enum_map f l (n + 1), List.zipIdx_cons, List.map_cons]
theorem pairs_zip (full : List Nat) : ∀ (l pre : List Nat), full = pre ++ l → (l.zipIdx pre.length).flatMap (fun p => (full.drop (p.2 + 1)).map fun c => (p.1, c)) = pairs l
  | [], pre, _ => rfl
  | a :: l, pre, e => by
    rw [List.zipIdx_cons, List.flatMap_cons, pairs]
    have h1 : full.drop (pre.length + 1) = l := by
      rw [e, List.drop_append]
      simp
    rw [h1]
    have := pairs_zip full l (pre ++ [a]) (by rw [e]; simp)
    rw [List.length_append, List.length_singleton] at this
    rw [this]
def pv2 (p : Nat × Nat) : PV := .tup [.int (p.1 : Nat), .int (p.2 : Nat)]
theorem pures_pv2 : ∀ l : List (Nat × Nat), pures (l.map pv2) = true
  | [] => rfl
  | p :: l => by rw [List.map_cons, pures, pures_pv2 l]; rfl
section
variable {N n : Nat} {hs : List Nat} {k : PySem.Str} {b : Int × Int}
end
end Mi
end

section
set_option autoImplicit false
set_option maxRecDepth 100000
set_option maxHeartbeats 1000000
set_option linter.all false
namespace Mi
theorem listAt_loc {m : MH} {l : Nat} {xs : List PV} (h : m[l]? = some (.lst xs)) : listAt m l = some xs := by unfold listAt; rw [h]
theorem toLL_loc {m : MH} {l : Nat} {xs : List PV} (h : m[l]? = some (.lst xs)) : toLL (.val (.loc l)) m = .ok xs m := by
  show (match listAt m l with | some xs => Res.ok xs m | none => .stuck) = _
  rw [listAt_loc h]
theorem toL_loc {m : MH} {l : Nat} {xs : List PV} (h : m[l]? = some (.lst xs)) : toL (.val (.loc l)) m = .ok xs m := toLL_loc h
theorem toM_loc {m : MH} {l : Nat} {xs : List PV} (h : m[l]? = some (.lst xs)) : toM (.val (.loc l)) m = .ok xs m := toLL_loc h
theorem toC_loc {m : MH} {l : Nat} {xs : List PV} (h : m[l]? = some (.lst xs)) : toC (.val (.loc l)) m = .ok xs m := toLL_loc h
theorem len_loc {m : MH} {l : Nat} {xs : List PV} (h : m[l]? = some (.lst xs)) : biV .len [.loc l] m = some (.int (xs.length : Nat)) := by
  show (lenV (.loc l) m).map _ = _
  unfold lenV
  simp only [h]
  rfl
theorem src_loc {m : MH} {l : Nat} {xs : List PV} (h : m[l]? = some (.lst xs)) : srcOf (.val (.loc l)) m = [(l, xs)] := by
  show (match listAt m l with | some xs => [(l, xs)] | none => []) = _
  rw [listAt_loc h]
theorem srcOk_loc {m : MH} {l : Nat} {xs : List PV} (h : m[l]? = some (.lst xs)) : srcOk [(l, xs)] m = true := srcOk_one (listAt_loc h)
theorem kind_loc {m : MH} {l : Nat} {xs : List PV} (h : m[l]? = some (.lst xs)) : kindX (.val (.loc l)) m = some true := by
  show (listAt m l).map _ = _
  rw [listAt_loc h]
  rfl
def leastL (r : List Int) (x : Int) : Int := r.foldl (fun b y => if y < b then y else b) x
theorem leastI_ints : ∀ (r : List Int) (x : Int), leastI (r.map PV.int) x = some (leastL r x)
  | [], x => rfl
  | y :: r, x => by rw [List.map_cons, leastI, leastI_ints r]; rfl
theorem leastL_le : ∀ (r : List Int) (x : Int), leastL r x ≤ x ∧ ∀ y ∈ r, leastL r x ≤ y
  | [], x => ⟨Int.le_refl _, fun y hy => by cases hy⟩
  | z :: r, x => by
    have ih := leastL_le r (if z < x then z else x)
    have e : leastL (z :: r) x = leastL r (if z < x then z else x) := rfl
    rw [e]
    by_cases c : z < x
    · rw [if_pos c] at ih ⊢
      exact ⟨by have := ih.1; omega, fun y hy => by
        rcases List.mem_cons.mp hy with q | q
        · rw [q]; exact ih.1
        · exact ih.2 y q⟩
    · rw [if_neg c] at ih ⊢
      exact ⟨ih.1, fun y hy => by
        rcases List.mem_cons.mp hy with q | q
        · rw [q]; have := ih.1; omega
        · exact ih.2 y q⟩
section
variable {N n : Nat} {hs : List Nat} {k : PySem.Str} {b : Int × Int}
end
end Mi
end

section
set_option autoImplicit false
set_option maxRecDepth 100000
set_option maxHeartbeats 1000000
set_option linter.all false
namespace Mi
section
variable {N n : Nat} {hs : List Nat} {k : PySem.Str} {b : Int × Int}
theorem cl48 (h : 3 ≤ N) (hk : k ∈ kinds) (hb : b ∈ boards) {hd : Hd} (Ok : HdOk (num b) hd) (hg4 : PP.glob 4 = some (.int 20)) (m : MH) : callD PP N 48 [gm k b, hv hd] m = .ok (.bl true) m := by
  obtain ⟨N, rfl⟩ := sub_of h
  refine call_lift (d := D.d48) (m1 := []) rfl rfl rfl (by rw [pures, pure_gm hk, pures, Ok.pure]; rfl) rfl ?_ m
  have c4 := cl4 (N := N + 2) (by omega) hk hb
  have k1 := lcm_map (P := PP) (C := callD PP (N + 2)) (m := []) (own := [2]) (tg := .one 2) (it := .var 1) (a := .call 2 [(.var 2), (.cst (.int 2)), (.cst (.int 2))]) (e := [some (gm k b), some (hv hd), none]) (x := .val (hv hd))
    hd (fun p => PV.tup [.int (p.1 : Nat), p.2]) (fun p => [some (gm k b), some (hv hd), some (.tup [.int (p.1 : Nat), p.2])]) (fun _ => .bl true) (by simp) rfl rfl (fun p hp => ⟨rfl, by
      have z := cl2 (N := N + 2) (by omega) [.int (p.1 : Nat), p.2] (by rw [pures, pure_int, pures, (isI_eqv (Ok.isI p hp)).2.1]; rfl) 2 2
      simp [z]⟩) (by have := Ok.len; unfold lineP; omega)
  have k2 := lcm_map (P := PP) (C := callD PP (N + 2)) (m := []) (own := [2]) (tg := .one 2) (it := .var 1) (a := .and (.call 1 [(.idx (.var 2) (.cst (.int 0))), (.cst (.int 0)), (.bin .sub (.call 4 [(.var 0)]) (.cst (.int 1)))]) (.call 47 [(.idx (.var 2) (.cst (.int 1)))])) (e := [some (gm k b), some (hv hd), none]) (x := .val (hv hd))
    hd (fun p => PV.tup [.int (p.1 : Nat), p.2]) (fun p => [some (gm k b), some (hv hd), some (.tup [.int (p.1 : Nat), p.2])]) (fun _ => .bl true) (by simp) rfl rfl (fun p hp => ⟨rfl, by
      have e1 : ((p.1 : Nat) : Int) ≤ (num b : Nat) - 1 := by have := Ok.lt p hp; omega
      simp [pair0, pair1, c4, cl1 (N := N + 2) (by omega), e1, cl47 (N := N + 2) (by omega) (Ok.ok p hp)]⟩) (by have := Ok.len; unfold lineP; omega)
  have ab := all_bl (fun _ : Nat × PV => true) hd
  rw [all_true] at ab
  have z := cl2h (N := N + 2) (by omega) Ok.pure 0 20
  have e1 : (decide ((0 : Int) ≤ (hd.length : Nat)) && decide ((hd.length : Nat) ≤ (20 : Int))) = true := by have := Ok.len; simp; omega
  rw [e1] at z
  unfold runB D.d48
  simp only [List.map, List.length, List.replicate, List.cons_append, List.nil_append]
  rw [ss_next (e' := [some (gm k b), some (hv hd), none]) (m' := []) (by simp [hg4, z, k1, ab])]
  simp [ss_cons, k2, ab, leave]
theorem cl49 (h : 4 ≤ N) (hk : k ∈ kinds) (hb : b ∈ boards) {hd : Hd} (Ok : HdOk (num b) hd) (m : MH) : callD PP N 49 [gm k b, hv hd] m = .ok (tN ((List.range (num b)).filter fun i => hd.all fun p => eqv (An k b i p.1) p.2)) m := by
  obtain ⟨N, rfl⟩ := sub_of h
  refine call_lift (d := D.d49) (m1 := []) rfl rfl rfl (by rw [pures, pure_gm hk, pures, Ok.pure]; rfl) (pure_tN _) ?_ m
  have f := bf hb
  have inner := fun (i : Nat) (hi : i < num b) => lcm_map (P := PP) (C := callD PP (N + 3)) (m := []) (own := [3, 4]) (tg := .two 3 4) (it := .var 1) (a := .cmp .eq (.call 16 [(.var 0), (.var 2), (.var 3)]) (.var 4)) (e := [some (gm k b), some (hv hd), some (.int (i : Nat)), none, none]) (x := .val (hv hd))
    hd (fun p => PV.tup [.int (p.1 : Nat), p.2]) (fun p => [some (gm k b), some (hv hd), some (.int (i : Nat)), some (.int (p.1 : Nat)), some p.2]) (fun p => .bl (eqv (An k b i p.1) p.2)) (by simp) rfl rfl (fun p hp => ⟨rfl, by
      simp [cl16A (N := N + 3) (by omega) hk hb hi (Ok.lt p hp), eq_I (isI_An k b i p.1) (Ok.isI p hp)]⟩) (by have := Ok.len; unfold lineP; omega)
  have key := lcm_of (P := PP) (C := callD PP (N + 3)) (m := []) (own := [2]) (tg := .one 2) (it := .rng1 (.call 4 [(.var 0)])) (cs := [(.bl .all (.lcm [3, 4] (.two 3 4) (.var 1) [] (.cmp .eq (.call 16 [(.var 0), (.var 2), (.var 3)]) (.var 4))))]) (a := .var 2) (e := [some (gm k b), some (hv hd), none, none, none])
    (List.range (num b)) (fun i => .int (i : Nat)) (fun i => [some (gm k b), some (hv hd), some (.int (i : Nat)), none, none]) (fun i => hd.all fun p => eqv (An k b i p.1) p.2) (fun i => .int (i : Nat)) (x_rows (callD PP (N + 3)) (fun m => cl4 (by omega) hk hb m) hb rfl []) (toL_rng _ (by have := f.le; omega) _) rfl (fun i hi => ⟨rfl, by
      have hi := List.mem_range.mp hi
      have ab := all_bl (fun p : Nat × PV => eqv (An k b i p.1) p.2) hd
      simp only [c_cons, c_nil, x_bl]
      rw [inner i hi]
      simp only [Res.bind_ok, toLL_tmp, ab, ofO_some, toV_val, asB_ok]
      cases (hd.all fun p => eqv (An k b i p.1) p.2) <;> rfl, fun _ => by simp⟩) (by rw [List.length_range]; have := f.le; unfold lineP; omega)
  unfold runB D.d49
  simp only [List.map, List.length, List.replicate, List.cons_append, List.nil_append, ss_cons, st_ret, ev_def, x_tof]
  rw [key]
  simp only [Res.bind_ok, toC_tmp, toV_val]
  rfl
theorem cl50 (h : 6 ≤ N) (hk : k ∈ kinds) (hb : b ∈ boards) {hd : Hd} (Ok : HdOk (num b) hd) (hg4 : PP.glob 4 = some (.int 20)) (m : MH) : callD PP N 50 [gm k b, hv hd] m = .ok (tN ((List.range (num b)).filter fun i => hd.all fun p => eqv (An k b i p.1) p.2)) m := by
  obtain ⟨N, rfl⟩ := sub_of h
  refine call_lift (d := D.d50) (m1 := []) rfl rfl rfl (by rw [pures, pure_gm hk, pures, Ok.pure]; rfl) (pure_tN _) ?_ m
  simp [runB, D.d50, ss_cons, leave, cl6 (N := N + 5) (by omega) hk hb, cl48 (N := N + 5) (by omega) hk hb Ok hg4, cl0 (N := N + 5) (by omega) "heard" (by decide), cl49 (N := N + 5) (by omega) hk hb Ok]
end
end Mi
end

section
set_option autoImplicit false
set_option maxRecDepth 100000
set_option maxHeartbeats 1000000
set_option linter.all false
namespace Mi
section
variable {N : Nat} {m0 : MH} {l : Nat}
theorem hp_at (hl : l < m0.length) (d : MO) (t : MH) : (m0.set l d ++ t)[l]? = some d := by
  rw [List.getElem?_append_left (by rw [List.length_set]; exact hl)]
  exact List.getElem?_set_self hl
theorem hp_set (hl : l < m0.length) (d d' : MO) (t : MH) : (m0.set l d ++ t).set l d' = m0.set l d' ++ t := by
  rw [List.set_append_left _ _ (by rw [List.length_set]; exact hl), List.set_set]
theorem hp_id {d : MO} (h : m0[l]? = some d) : m0.set l d ++ [] = m0 := by
  rw [List.append_nil]
  apply List.ext_getElem?
  intro i
  by_cases e : l = i
  · subst e
    rw [h, List.getElem?_set_self (List.getElem?_eq_some_iff.mp h).1]
  · rw [List.getElem?_set_ne e]
theorem hp_end (d : MO) (t : MH) (o : MO) : (m0.set l d ++ t) ++ [o] = m0.set l d ++ (t ++ [o]) := List.append_assoc ..
theorem roll_on (h : 1 ≤ N) (hl : l < m0.length) {a b c tot : Int} (t : MH) (hc : 0 ≤ c) (hc2 : c < 1000000) (ht : 0 < tot) (ht2 : tot < 1000000) : ∃ (r : Nat) (a' b' c' : Int), (r : Int) < tot ∧ 0 ≤ c' ∧ c' ≤ c + 1 ∧ callD PP N 19 [.loc l, .int tot] (m0.set l (d3 a b c) ++ t) = .ok (.int (r : Nat)) (m0.set l (d3 a' b' c') ++ t) := by
  obtain ⟨r, a', b', c', z1, z2, z3, z4, e⟩ := cl19 h (hp_at hl (d3 a b c) t) hc hc2 ht ht2
  obtain ⟨i, rfl⟩ : ∃ i : Nat, r = i := ⟨r.toNat, by omega⟩
  rw [hp_set hl] at e
  exact ⟨i, a', b', c', z2, z3, z4, e⟩
theorem any_nat (r : Nat) (L : List Nat) : ((L.map fun i => PV.int (i : Nat)).any fun z => eqv z (.int (r : Nat))) = decide (r ∈ L) := by
  induction L with
  | nil => rfl
  | cons x L ih =>
    rw [List.map_cons, List.any_cons, ih, eqv]
    by_cases e : x = r
    · subst e; simp
    · have e' : ((x : Nat) : Int) ≠ (r : Nat) := by omega
      have e2 : r ≠ x := fun z => e z.symm
      simp [e', e2]
theorem pures_nats (L : List Nat) : pures (L.map fun i => PV.int (i : Nat)) = true := pure_tN L
theorem depths_nats : ∀ L : List Nat, depths (L.map fun i => PV.int (i : Nat)) = 0
  | [] => rfl
  | x :: L => by rw [List.map_cons, depths, depths_nats L]; rfl
theorem in_nats {m : MH} {lf : Nat} {L : List Nat} (h : m[lf]? = some (.lst (L.map fun i => PV.int (i : Nat)))) (r : Nat) : isIn m (.int (r : Nat)) (.loc lf) = some (decide (r ∈ L)) := by
  unfold isIn
  simp only [h]
  rw [any_nat, pures_nats, depths, depths_nats]
  rfl
theorem nin_nats {m : MH} {lf : Nat} {L : List Nat} (h : m[lf]? = some (.lst (L.map fun i => PV.int (i : Nat)))) (r : Nat) : cmpV .nin (.int (r : Nat)) (.loc lf) m = some (!decide (r ∈ L)) := by
  show (isIn m _ _).map _ = _
  rw [in_nats h]
  rfl
theorem nodup_len : ∀ (L : List Nat) (n : Nat), L.Nodup → (∀ i ∈ L, i < n) → L.length ≤ n := fun L n h1 h2 => by
  have e : (L.mergeSort).Pairwise (fun a b => a ≤ b) := by
    have := List.pairwise_mergeSort (le := fun a b : Nat => decide (a ≤ b)) (fun a b c h1 h2 => by simp at *; omega) (fun a b => by simp; omega) L
    exact this.imp fun h => by simpa using h
  have p := List.mergeSort_perm L (fun a b : Nat => decide (a ≤ b))
  have hn : (L.mergeSort).Nodup := p.nodup_iff.mpr h1
  have lt : (L.mergeSort).Pairwise (· < ·) := by
    refine (List.Pairwise.and e hn).imp fun {a b} h => ?_
    have := h.1; have := h.2; omega
  have := rise_len L.mergeSort 0 n lt fun i hi => ⟨Nat.zero_le _, h2 i (p.mem_iff.mp hi)⟩
  rw [p.length_eq] at this
  omega
/-- the rising list of such numbers -/
theorem sort_nats (L : List Nat) (hn : L.Nodup) : ∃ hs : List Nat, sortI (L.map fun i => ((i : Nat) : Int)) = hs.map (fun i => ((i : Nat) : Int)) ∧ hs.Pairwise (· < ·) ∧ hs.Perm L := by
  have p := sortI_perm (L.map fun i => ((i : Nat) : Int))
  have s := sortI_le (L.map fun i => ((i : Nat) : Int))
  have nn : ∀ x ∈ sortI (L.map fun i => ((i : Nat) : Int)), 0 ≤ x := fun x hx => by
    obtain ⟨i, _, rfl⟩ := List.mem_map.mp (p.mem_iff.mp hx)
    omega
  have e : (sortI (L.map fun i => ((i : Nat) : Int))) = ((sortI (L.map fun i => ((i : Nat) : Int))).map Int.toNat).map fun i => ((i : Nat) : Int) := by
    rw [List.map_map]
    apply List.ext_getElem?
    intro i
    rw [List.getElem?_map]
    cases q : (sortI (L.map fun i => ((i : Nat) : Int)))[i]? with
    | none => rfl
    | some x =>
      have := nn x (List.mem_of_getElem? q)
      show some x = some (((x.toNat : Nat) : Int))
      congr 1
      omega
  have pm : ((sortI (L.map fun i => ((i : Nat) : Int))).map Int.toNat).Perm L := by
    have := p.map Int.toNat
    rw [List.map_map, show (Int.toNat ∘ fun (i : Nat) => ((i : Nat) : Int)) = id from rfl, List.map_id] at this
    exact this
  refine ⟨(sortI (L.map fun i => ((i : Nat) : Int))).map Int.toNat, e, ?_, pm⟩
  have hd : ((sortI (L.map fun i => ((i : Nat) : Int))).map Int.toNat).Nodup := pm.nodup_iff.mpr hn
  have le : ((sortI (L.map fun i => ((i : Nat) : Int))).map Int.toNat).Pairwise (· ≤ ·) := by
    rw [List.pairwise_map]
    refine s.imp_of_mem fun {a b} ha hb h => ?_
    have := nn a ha
    omega
  exact (List.Pairwise.and le hd).imp fun {a b} h => by have := h.1; have := h.2; omega
end
end Mi
end

section
set_option autoImplicit false
set_option maxRecDepth 100000
set_option maxHeartbeats 1000000
set_option linter.all false
namespace Mi
theorem subset_len : ∀ (A B : List Nat), A.Nodup → (∀ x ∈ A, x ∈ B) → A.length ≤ B.length
  | [], _, _, _ => Nat.zero_le _
  | a :: A, B, hn, hs => by
    rw [List.nodup_cons] at hn
    have ha := hs a List.mem_cons_self
    have ih := subset_len A (B.erase a) hn.2 fun x hx => by
      have ne : x ≠ a := fun z => hn.1 (z ▸ hx)
      exact (List.mem_erase_of_ne ne).mpr (hs x (List.mem_cons_of_mem _ hx))
    rw [List.length_erase_of_mem ha] at ih
    have := List.length_pos_of_mem ha
    simp only [List.length_cons]
    omega
def natV (L : List Nat) : List PV := L.map fun i => PV.int (i : Nat)
section
variable {N n : Nat} {m0 : MH} {l : Nat}
theorem rng_nat (C : Nat → List PV → MH → Res PV) {e : Env} {i n : Nat} (he : e[i]? = some (some (.int (n : Nat)))) (hn : n ≤ 1000) (m : MH) : evX PP C (.rng1 (.var i)) e m = .ok (.val (.rng 0 (n : Nat))) m := by
  have a1 : (-1000000 : Int) ≤ ((n : Nat) : Int) := by omega
  have a2 : ((n : Nat) : Int) ≤ 1000000 := by omega
  simp [he, a1, a2]
theorem hp_tail (d : MO) (t : MH) (j : Nat) : (m0.set l d ++ t)[m0.length + j]? = t[j]? := by
  have := at_app (m0.set l d) t j
  rw [List.length_set] at this
  exact this
theorem hp_len (d : MO) (t : MH) : (m0.set l d ++ t).length = m0.length + t.length := by rw [List.length_append, List.length_set]
theorem min_nat (x y : Nat) (m : MH) : biV .min2 [.int (x : Nat), .int (y : Nat)] m = some (.int (min x y : Nat)) := by
  show some (PV.int (if ((y : Nat) : Int) < (x : Nat) then ((y : Nat) : Int) else (x : Nat))) = _
  congr 2
  split <;> omega
theorem cl51 (h : 2 ≤ N) {a b c : Int} {least : Nat} (hm : m0[l]? = some (d3 a b c)) (hc : 0 ≤ c) (hc2 : c < 900000) (hn : 1 ≤ n) (hn2 : n ≤ 100) (hle : least ≤ 100) :
    ∃ hs a' b' c', HS n hs ∧ min least n ≤ hs.length ∧ 0 ≤ c' ∧ c' ≤ c + 300 ∧ callD PP N 51 [.loc l, .int (n : Nat), .int (least : Nat)] m0 = .ok (tN hs) (m0.set l (d3 a' b' c')) := by
  obtain ⟨N, rfl⟩ := sub_of h
  rw [call_raw (d := D.d51) rfl rfl rfl]
  have hl : l < m0.length := (List.getElem?_eq_some_iff.mp hm).1
  -- the first list
  obtain ⟨ys, m', h1, sub, a1, b1, c1, q1, q2, q3, q4, q5⟩ := lcm_eff (P := PP) (C := callD PP (N + 1)) (m := m0) (m0 := m0) (own := [5]) (tg := .one 5) (it := .rng1 (.var 1)) (cs := [(.cmp .eq (.call 19 [(.var 0), (.cst (.int 2))]) (.cst (.int 0)))]) (a := .var 5) (e := [some (.loc l), some (.int (n : Nat)), some (.int (least : Nat)), none, none, none, none]) (x := .val (.rng 0 (n : Nat)))
    (List.range n) (fun i => .int (i : Nat)) (fun i => [some (.loc l), some (.int (n : Nat)), some (.int (least : Nat)), none, none, some (.int (i : Nat)), none])
    (fun pre acc m' => ∃ (sub : List Nat) (a' b' c' : Int), m' = m0.set l (d3 a' b' c') ++ [] ∧ 0 ≤ c' ∧ c' ≤ c + (pre.length : Nat) ∧ acc = natV sub ∧ sub.Sublist pre) (rng_nat _ rfl (by omega) _) (toL_rng n (by omega) _) (fun _ _ _ _ => rfl) ⟨[], a, b, c, (hp_id hm).symm, hc, by simp, rfl, List.nil_sublist _⟩ (fun i _ => rfl) (by
      intro pre i rest acc m' hL ⟨sub, a', b', c', e1, e2, e3, e4, e5⟩
      subst e1
      have hpl : pre.length ≤ n := by
        have := congrArg List.length hL
        rw [List.length_range, List.length_append] at this
        omega
      obtain ⟨r, a2, b2, c2, r1, r2, r3, r4⟩ := roll_on (N := N + 1) (by omega) hl (a := a') (b := b') (tot := 2) [] e2 (by omega) (by omega) (by omega)
      have sl : acc.length ≤ pre.length := by rw [e4]; unfold natV; rw [List.length_map]; exact e5.length_le
      by_cases z : r = 0
      · subst z
        refine .inl ⟨m0.set l (d3 a2 b2 c2) ++ [], m0.set l (d3 a2 b2 c2) ++ [], .int (i : Nat), ?_, by simp, by unfold lineP; omega, sub ++ [i], a2, b2, c2, rfl, r2, ?_, ?_, ?_⟩
        · have r4 : callD PP (N + 1) 19 [.loc l, .int 2] (m0.set l (d3 a' b' c') ++ []) = .ok (.int 0) (m0.set l (d3 a2 b2 c2) ++ []) := r4
          rw [List.append_nil, List.append_nil] at *
          simp [r4]
        · rw [List.length_append, List.length_singleton]; omega
        · rw [e4]; unfold natV; rw [List.map_append]; rfl
        · exact e5.append (List.Sublist.refl _)
      · refine .inr ⟨m0.set l (d3 a2 b2 c2) ++ [], ?_, sub, a2, b2, c2, rfl, r2, ?_, e4, e5.trans (List.sublist_append_left ..)⟩
        · have z' : ¬ ((r : Nat) : Int) = 0 := by omega
          rw [List.append_nil, List.append_nil] at *
          simp [r4, z']
          omega
        · rw [List.length_append, List.length_singleton]; omega)
  rw [List.length_range] at q3
  have nd : sub.Nodup := q5.nodup (List.nodup_range)
  have lt : ∀ i ∈ sub, i < n := fun i hi => List.mem_range.mp (q5.subset hi)
  subst q1
  -- more, till there are enough
  have body : ∀ (d : Nat) (F : List Nat) (a b c : Int) (t : MH) (j : Nat) (s4 : Option PV) (fuel : Nat), min least n - F.length ≤ d → d < fuel → F.Nodup → (∀ i ∈ F, i < n) → 0 ≤ c → c + (d : Nat) < 1000000 → t[j]? = some (.lst (natV F)) →
      ∃ G a' b' c' t' j' s4', G.Nodup ∧ (∀ i ∈ G, i < n) ∧ min least n ≤ G.length ∧ 0 ≤ c' ∧ c' ≤ c + (d : Nat) ∧ t'[j']? = some (.lst (natV G)) ∧
        whileLoop (fun e m => asB (ev PP (callD PP (N + 1)) (.cmp .lt (.bi .len [(.var 3)]) (.bi .min2 [(.var 2), (.var 1)])) e m)) (fun e m => execs PP (callD PP (N + 1)) [.set 4 (.call 19 [(.var 0), (.var 1)]), .set 3 (.ife (.cmp .nin (.var 4) (.var 3)) (.lcat (.var 3) (.lst [(.var 4)])) (.lcat (.var 3) (.lst [(.idx (.lcm [6] (.one 6) (.rng1 (.var 1)) [(.cmp .nin (.var 6) (.var 3))] (.var 6)) (.cst (.int 0)))])))] e m) fuel
          [some (.loc l), some (.int (n : Nat)), some (.int (least : Nat)), some (.loc (m0.length + j)), s4, none, none] (m0.set l (d3 a b c) ++ t) = .ok (.next [some (.loc l), some (.int (n : Nat)), some (.int (least : Nat)), some (.loc (m0.length + j')), s4', none, none]) (m0.set l (d3 a' b' c') ++ t') := by
    intro d
    induction d with
    | zero =>
      intro F a b c t j s4 fuel hd hf hnd hlt h0 h1 hF
      obtain ⟨fuel, rfl⟩ : ∃ z, fuel = z + 1 := ⟨fuel - 1, by omega⟩
      refine ⟨F, a, b, c, t, j, s4, hnd, hlt, by omega, h0, by omega, hF, while_stop ?_⟩
      have ln := len_loc ((hp_tail (m0 := m0) (l := l) (d3 a b c) t j).trans hF)
      unfold natV at ln
      rw [List.length_map] at ln
      have ge : ¬ ((F.length : Nat) : Int) < (min least n : Nat) := by omega
      simp only [ev_def, x_cmp, x_bi, s_cons, s_nil, x_var, List.getElem?_cons_zero, List.getElem?_cons_succ, Res.bind_ok, toV_val, ln, min_nat, ofO_some, cmp_ltI, ofB_some, asB_ok, decide_eq_false ge]
    | succ d ih =>
      intro F a b c t j s4 fuel hd hf hnd hlt h0 h1 hF
      obtain ⟨fuel, rfl⟩ : ∃ z, fuel = z + 1 := ⟨fuel - 1, by omega⟩
      have ln := len_loc ((hp_tail (m0 := m0) (l := l) (d3 a b c) t j).trans hF)
      unfold natV at ln
      rw [List.length_map] at ln
      by_cases enough : min least n ≤ F.length
      · refine ⟨F, a, b, c, t, j, s4, hnd, hlt, enough, h0, by omega, hF, while_stop ?_⟩
        have ge : ¬ ((F.length : Nat) : Int) < (min least n : Nat) := by omega
        simp only [ev_def, x_cmp, x_bi, s_cons, s_nil, x_var, List.getElem?_cons_zero, List.getElem?_cons_succ, Res.bind_ok, toV_val, ln, min_nat, ofO_some, cmp_ltI, ofB_some, asB_ok, decide_eq_false ge]
      · have go : ((F.length : Nat) : Int) < (min least n : Nat) := by omega
        obtain ⟨r, a2, b2, c2, r1, r2, r3, r4⟩ := roll_on (N := N + 1) (by omega) hl (a := a) (b := b) (tot := (n : Nat)) t h0 (by omega) (by omega) (by omega)
        have rn : r < n := by omega
        have hF2 := (hp_tail (m0 := m0) (l := l) (d3 a2 b2 c2) t j).trans hF
        have nin := fun i => nin_nats hF2 i
        have step : ∃ (x : Nat) (g : MH), x ∉ F ∧ x < n ∧ execs PP (callD PP (N + 1)) [.set 4 (.call 19 [(.var 0), (.var 1)]), .set 3 (.ife (.cmp .nin (.var 4) (.var 3)) (.lcat (.var 3) (.lst [(.var 4)])) (.lcat (.var 3) (.lst [(.idx (.lcm [6] (.one 6) (.rng1 (.var 1)) [(.cmp .nin (.var 6) (.var 3))] (.var 6)) (.cst (.int 0)))])))] [some (.loc l), some (.int (n : Nat)), some (.int (least : Nat)), some (.loc (m0.length + j)), s4, none, none] (m0.set l (d3 a b c) ++ t)
            = .ok (.next [some (.loc l), some (.int (n : Nat)), some (.int (least : Nat)), some (.loc (m0.length + (t ++ g).length)), some (.int (r : Nat)), none, none]) (m0.set l (d3 a2 b2 c2) ++ ((t ++ g) ++ [.lst (natV (F ++ [x]))])) := by
          have Fle := nodup_len F n hnd hlt
          by_cases hr : r ∈ F
          · -- the first one that lacks
            have key := lcm_of (P := PP) (C := callD PP (N + 1)) (m := m0.set l (d3 a2 b2 c2) ++ t) (own := [6]) (tg := .one 6) (it := .rng1 (.var 1)) (cs := [(.cmp .nin (.var 6) (.var 3))]) (a := .var 6) (e := [some (.loc l), some (.int (n : Nat)), some (.int (least : Nat)), some (.loc (m0.length + j)), some (.int (r : Nat)), none, none]) (x := .val (.rng 0 (n : Nat)))
              (List.range n) (fun i => .int (i : Nat)) (fun i => [some (.loc l), some (.int (n : Nat)), some (.int (least : Nat)), some (.loc (m0.length + j)), some (.int (r : Nat)), none, some (.int (i : Nat))]) (fun i => !decide (i ∈ F)) (fun i => .int (i : Nat)) (rng_nat _ rfl (by omega) _) (toL_rng n (by omega) _) rfl (fun i _ => ⟨rfl, by
                by_cases z : i ∈ F <;> simp [nin, z], fun _ => by simp⟩) (by rw [List.length_range]; unfold lineP; omega)
            obtain ⟨x, G, hG⟩ : ∃ x G, (List.range n).filter (fun i => !decide (i ∈ F)) = x :: G := by
              apply List.exists_cons_of_ne_nil
              intro z
              have sub : ∀ i, i < n → i ∈ F := fun i hi => by
                apply Classical.byContradiction
                intro q
                have : i ∈ (List.range n).filter (fun i => !decide (i ∈ F)) := List.mem_filter.mpr ⟨List.mem_range.mpr hi, by simp [q]⟩
                rw [z] at this
                cases this
              have := subset_len (List.range n) F List.nodup_range fun i hi => sub i (List.mem_range.mp hi)
              rw [List.length_range] at this
              omega
            have hx : x ∈ (List.range n).filter (fun i => !decide (i ∈ F)) := by rw [hG]; exact List.mem_cons_self
            have hx := List.mem_filter.mp hx
            have hxF : x ∉ F := by simpa using hx.2
            refine ⟨x, [.lst (natV (x :: G))], hxF, List.mem_range.mp hx.1, ?_⟩
            rw [hG] at key
            have key : evX PP (callD PP (N + 1)) (.lcm [6] (.one 6) (.rng1 (.var 1)) [(.cmp .nin (.var 6) (.var 3))] (.var 6)) [some (.loc l), some (.int (n : Nat)), some (.int (least : Nat)), some (.loc (m0.length + j)), some (.int (r : Nat)), none, none] (m0.set l (d3 a2 b2 c2) ++ t) = .ok (.tmp (natV (x :: G))) (m0.set l (d3 a2 b2 c2) ++ t) := key
            have hj : j < t.length := (List.getElem?_eq_some_iff.mp hF).1
            have hF3 : (m0.set l (d3 a2 b2 c2) ++ (t ++ [.lst (natV (x :: G))]))[m0.length + j]? = some (.lst (natV F)) := by
              rw [hp_tail, List.getElem?_append_left hj]; exact hF
            have tm := toM_loc hF3
            have ix0 : idxV (.loc (m0.length + t.length)) (.int 0) (m0.set l (d3 a2 b2 c2) ++ (t ++ [.lst (natV (x :: G))])) = some (.int (x : Nat)) := by
              rw [idxl_list (xs := natV (x :: G)) (by rw [hp_tail, List.getElem?_append_right (Nat.le_refl _), Nat.sub_self]; rfl)]
              rfl
            have fits : (natV F).length + 1 ≤ lineP := by unfold natV lineP; rw [List.length_map]; omega
            rw [ss_next (e' := [some (.loc l), some (.int (n : Nat)), some (.int (least : Nat)), some (.loc (m0.length + j)), some (.int (r : Nat)), none, none]) (m' := m0.set l (d3 a2 b2 c2) ++ t) (by simp [r4])]
            have e1 : natV F ++ [.int (x : Nat)] = natV (F ++ [x]) := by unfold natV; rw [List.map_append]; rfl
            simp only [ss_cons, st_set, ev_def, x_ife, x_cmp, x_var, List.getElem?_cons_zero, List.getElem?_cons_succ, Res.bind_ok, toV_val, nin r, hr, decide_true, Bool.not_true, ofB_some, asB_ok, Bool.false_eq_true, if_false, x_lcat, x_lst, s_cons, s_nil, x_idx, key, toV_tmp, x_cst, hp_len, hp_end, ix0, ofO_some, tm, toM_tmp, List.length_singleton, decide_eq_true fits, guard_true, e1, ss_nil]
            rfl
          · refine ⟨r, [], hr, rn, ?_⟩
            rw [List.append_nil]
            have tm := toM_loc hF2
            have fits : (natV F).length + 1 ≤ lineP := by unfold natV lineP; rw [List.length_map]; omega
            rw [ss_next (e' := [some (.loc l), some (.int (n : Nat)), some (.int (least : Nat)), some (.loc (m0.length + j)), some (.int (r : Nat)), none, none]) (m' := m0.set l (d3 a2 b2 c2) ++ t) (by simp [r4])]
            have e1 : natV F ++ [.int (r : Nat)] = natV (F ++ [r]) := by unfold natV; rw [List.map_append]; rfl
            simp only [ss_cons, st_set, ev_def, x_ife, x_cmp, x_var, List.getElem?_cons_zero, List.getElem?_cons_succ, Res.bind_ok, toV_val, nin r, hr, decide_false, Bool.not_false, ofB_some, asB_ok, if_true, x_lcat, x_lst, s_cons, s_nil, tm, toM_tmp, List.length_singleton, decide_eq_true fits, guard_true, toV_tmp, e1, ss_nil, hp_len, hp_end]
            rfl
        obtain ⟨x, g, x1, x2, x3⟩ := step
        obtain ⟨G, a3, b3, c3, t3, j3, s43, y1, y2, y3, y4, y5, y6, y7⟩ := ih (F ++ [x]) a2 b2 c2 ((t ++ g) ++ [.lst (natV (F ++ [x]))]) (t ++ g).length (some (.int (r : Nat))) fuel (by rw [List.length_append, List.length_singleton]; omega) (by omega)
          (by rw [List.nodup_append]; exact ⟨hnd, by simp, fun u hu v hv => by rw [List.mem_singleton.mp hv]; exact fun z => x1 (z ▸ hu)⟩) (fun i hi => by
            rcases List.mem_append.mp hi with hi | hi
            · exact hlt i hi
            · rw [List.mem_singleton.mp hi]; exact x2) r2 (by omega) (by rw [List.getElem?_append_right (Nat.le_refl _), Nat.sub_self]; rfl)
        refine ⟨G, a3, b3, c3, t3, j3, s43, y1, y2, y3, y4, by omega, y6, (while_step (m1 := m0.set l (d3 a b c) ++ t) ?_ x3).trans y7⟩
        simp only [ev_def, x_cmp, x_bi, s_cons, s_nil, x_var, List.getElem?_cons_zero, List.getElem?_cons_succ, Res.bind_ok, toV_val, ln, min_nat, ofO_some, cmp_ltI, ofB_some, asB_ok, decide_eq_true go]
  obtain ⟨G, a2, b2, c2, t2, j2, s42, y1, y2, y3, y4, y5, y6, y7⟩ := body (min least n) sub a1 b1 c1 [.lst (natV sub)] 0 none fuelW (by omega) (by unfold fuelW; omega) nd lt q2 (by omega) rfl
  obtain ⟨hs, w1, w2, w3⟩ := sort_nats G y1
  refine ⟨hs, a2, b2, c2, ⟨w2, fun i hi => y2 i (w3.mem_iff.mp hi)⟩, by rw [w3.length_eq]; exact y3, y4, by omega, ?_⟩
  have hF := (hp_tail (m0 := m0) (l := l) (d3 a2 b2 c2) t2 j2).trans y6
  have eG : natV G = (G.map fun i => ((i : Nat) : Int)).map PV.int := by unfold natV; rw [List.map_map]; rfl
  have so : sortP (natV G) = some (natV hs) := by
    rw [eG, sort_ints, w1]
    unfold natV
    rw [List.map_map]
    rfl
  have ib : intsB (natV G) = true := by rw [eG]; exact intsB_ints _
  unfold runB D.d51
  simp only [List.map, List.length, List.replicate, List.cons_append, List.nil_append]
  rw [ss_next (e' := [some (.loc l), some (.int (n : Nat)), some (.int (least : Nat)), some (.loc (m0.length + 0)), none, none, none]) (m' := m0.set l (d3 a1 b1 c1) ++ [.lst (natV sub)]) (by
    rw [st_set, ev_def, h1, q4]
    simp)]
  rw [ss_next (by rw [st_wle]; exact y7)]
  simp only [ss_cons, st_ret, ev_def, x_tof, x_srt, x_var, List.getElem?_cons_zero, List.getElem?_cons_succ, Res.bind_ok, toLL_loc hF, ib, guard_true, so, ofO_some, toC_tmp, toV_val]
  show guard (pure (tN hs) && oldOk m0 (m0.set l (d3 a2 b2 c2) ++ t2)) (Res.ok (tN hs) ((m0.set l (d3 a2 b2 c2) ++ t2).take m0.length)) = _
  rw [pure_tN, oldOk_set _ _ _ _ (d3_pure ..)]
  have e := List.take_left (l₁ := m0.set l (d3 a2 b2 c2)) (l₂ := t2)
  rw [List.length_set] at e
  rw [e]
  rfl
end
end Mi
end

section
set_option autoImplicit false
set_option maxRecDepth 100000
set_option linter.all false
namespace Mi
@[simp] theorem wipe_nil (e : Env) : wipe [] e = e := rfl
@[simp] theorem wipe_cons (i : Nat) (r : List Nat) (e : Env) : wipe (i :: r) e = wipe r (e.set i none) := rfl
section
variable {P : Prog} {C : Nat → List PV → MH → Res PV} {α : Type}
/-- what is walked -/
structure Wk (P : Prog) (C : Nat → List PV → MH → Res PV) (it : Ex) (e : Env) (m m0 : MH) (vs : List PV) : Prop where
  ok : ∃ x, evX P C it e m = .ok x m0 ∧ toL x m0 = .ok vs m0 ∧ srcOk (srcOf x m0) m0 = true
theorem Wk.mk' {it : Ex} {e : Env} {m m0 : MH} {vs : List PV} {x : XV} (h1 : evX P C it e m = .ok x m0) (h2 : toL x m0 = .ok vs m0) (h3 : srcOk (srcOf x m0) m0 = true) : Wk P C it e m m0 vs := ⟨x, h1, h2, h3⟩
theorem Wk.tup {it : Ex} {e : Env} {m m0 : MH} {vs : List PV} (h1 : evX P C it e m = .ok (.val (.tup vs)) m0) : Wk P C it e m m0 vs := ⟨_, h1, rfl, rfl⟩
theorem Wk.tmp {it : Ex} {e : Env} {m m0 : MH} {vs : List PV} (h1 : evX P C it e m = .ok (.tmp vs) m0) : Wk P C it e m m0 vs := ⟨_, h1, rfl, rfl⟩
theorem Wk.its {it : Ex} {e : Env} {m m0 : MH} {vs : List PV} (h1 : evX P C it e m = .ok (.its [] vs) m0) : Wk P C it e m m0 vs := ⟨_, h1, rfl, rfl⟩
theorem Wk.nats {it : Ex} {e : Env} {m m0 : MH} {hs : List Nat} (h1 : evX P C it e m = .ok (.val (tN hs)) m0) : Wk P C it e m m0 (hs.map fun i => PV.int (i : Nat)) := ⟨_, h1, rfl, rfl⟩
theorem Wk.loc {it : Ex} {e : Env} {m m0 : MH} {l : Nat} {vs : List PV} (h1 : evX P C it e m = .ok (.val (.loc l)) m0) (h2 : m0[l]? = some (.lst vs)) : Wk P C it e m m0 vs := ⟨_, h1, toL_loc h2, by rw [src_loc h2]; exact srcOk_loc h2⟩
theorem Wk.rng {it : Ex} {e : Env} {m m0 : MH} {n : Nat} (h1 : evX P C it e m = .ok (.val (.rng 0 (n : Nat))) m0) (hn : n ≤ 100000) : Wk P C it e m m0 ((List.range n).map fun i => PV.int (i : Nat)) := ⟨_, h1, toL_rng n (by omega) _, rfl⟩
theorem rng1_nat {a : Ex} {e : Env} {m m0 : MH} {n : Nat} (h1 : (evX P C a e m).bind toV = .ok (.int (n : Nat)) m0) (hn : n ≤ 100000) : evX P C (.rng1 a) e m = .ok (.val (.rng 0 (n : Nat))) m0 := by
  have a1 : (-1000000 : Int) ≤ ((n : Nat) : Int) := by omega
  have a2 : ((n : Nat) : Int) ≤ 1000000 := by omega
  rw [x_rng1, h1]
  simp [a1, a2]
theorem Wk.rngA {a : Ex} {e : Env} {m m0 : MH} {n : Nat} (h1 : (evX P C a e m).bind toV = .ok (.int (n : Nat)) m0) (hn : n ≤ 100000) : Wk P C (.rng1 a) e m m0 ((List.range n).map fun i => PV.int (i : Nat)) := Wk.rng (rng1_nat h1 hn) hn
/-- a comprehension with no condition -/
theorem lcM {own : List Nat} {tg : Tgt} {it : Ex} {a : Ex} {e : Env} {m m0 : MH} (L : List α) (φ : α → PV) (q : α → PV) (w : Wk P C it e m m0 (L.map φ)) (hl : L.length ≤ 100000)
    (h : ∀ z ∈ L, ∃ e1, bindT tg (φ z) (wipe own e) = some e1 ∧ (evX P C a e1 m0).bind toV = .ok (q z) m0) : evX P C (.lcm own tg it [] a) e m = .ok (.tmp (L.map q)) m0 := by
  obtain ⟨x, h1, h2, h3⟩ := w
  refine lcm_mapH L φ (fun z => (bindT tg (φ z) (wipe own e)).getD []) q h1 h2 h3 (fun z hz => ?_) (by unfold lineP; omega)
  obtain ⟨e1, q1, q2⟩ := h z hz
  rw [q1]
  exact ⟨rfl, q2⟩
/-- a comprehension with conditions -/
theorem lcF {own : List Nat} {tg : Tgt} {it : Ex} {cs : List Ex} {a : Ex} {e : Env} {m m0 : MH} (L : List α) (φ : α → PV) (p : α → Bool) (q : α → PV) (w : Wk P C it e m m0 (L.map φ)) (hl : L.length ≤ 100000)
    (h : ∀ z ∈ L, ∃ e1, bindT tg (φ z) (wipe own e) = some e1 ∧ evc P C cs e1 m0 = .ok (p z) m0 ∧ (p z = true → (evX P C a e1 m0).bind toV = .ok (q z) m0)) : evX P C (.lcm own tg it cs a) e m = .ok (.tmp ((L.filter p).map q)) m0 := by
  obtain ⟨x, h1, h2, h3⟩ := w
  refine lcm_ofH L φ (fun z => (bindT tg (φ z) (wipe own e)).getD []) p q h1 h2 h3 (fun z hz => ?_) (by unfold lineP; omega)
  obtain ⟨e1, q1, q2, q3⟩ := h z hz
  rw [q1]
  exact ⟨rfl, q2, q3⟩
/-- a for -/
theorem forA {tg : Tgt} {it : Ex} {b : List St} {e : Env} {m m0 : MH} (L : List α) (φ : α → PV) (I : List α → Env → MH → Prop) (w : Wk P C it e m m0 (L.map φ)) (hs : ∀ x, evX P C it e m = .ok x m0 → ∀ pre e' m', I pre e' m' → srcOk (srcOf x m0) m' = true) (h0 : I [] e m0)
    (H : ∀ pre z rest, L = pre ++ z :: rest → ∀ e m, I pre e m → ∃ e1 e2 m2, bindT tg (φ z) e = some e1 ∧ execs P C b e1 m = .ok (.next e2) m2 ∧ I (pre ++ [z]) e2 m2) : ∃ e' m', exec P C (.for tg it b) e m = .ok (.next e') m' ∧ I L e' m' := by
  obtain ⟨x, h1, h2, h3⟩ := w
  obtain ⟨e', m', h4, h5⟩ := for_of (src := srcOf x m0) (tg := tg) (f := fun e m => execs P C b e m) φ I (hs x h1) L [] e m0 h0 (fun pre' z rest eq => H pre' z rest eq)
  refine ⟨e', m', ?_, h5⟩
  rw [st_for, h1]
  show (toL x m0).bind _ = _
  rw [h2]
  exact h4
/-- a for that walks nothing of the heap -/
theorem forT {tg : Tgt} {it : Ex} {b : List St} {e : Env} {m m0 : MH} (L : List α) (φ : α → PV) (I : List α → Env → MH → Prop) {x : XV} (h1 : evX P C it e m = .ok x m0) (h2 : toL x m0 = .ok (L.map φ) m0) (h3 : srcOf x m0 = []) (h0 : I [] e m0)
    (H : ∀ pre z rest, L = pre ++ z :: rest → ∀ e m, I pre e m → ∃ e1 e2 m2, bindT tg (φ z) e = some e1 ∧ execs P C b e1 m = .ok (.next e2) m2 ∧ I (pre ++ [z]) e2 m2) : ∃ e' m', exec P C (.for tg it b) e m = .ok (.next e') m' ∧ I L e' m' :=
  forA L φ I ⟨x, h1, h2, by rw [h3]; rfl⟩ (fun y hy pre e' m' _ => by rw [h1] at hy; cases hy; rw [h3]; rfl) h0 H
/-- the turns of a for, an exit possible -/
theorem for_find {src : List (Nat × List PV)} {tg : Tgt} {f : Env → MH → Res Flow} (φ : α → PV) (g : α → Option PV) (I : Env → Prop) (m : MH) (hs : srcOk src m = true) : ∀ (L : List α) (e : Env), I e →
    (∀ z ∈ L, ∀ e, I e → ∃ e1, bindT tg (φ z) e = some e1 ∧ (∀ v, g z = some v → f e1 m = .ok (.ret v) m) ∧ (g z = none → ∃ e2, f e1 m = .ok (.next e2) m ∧ I e2)) →
    (∀ v, L.findSome? g = some v → forLoop src tg f (L.map φ) e m = .ok (.ret v) m) ∧ (L.findSome? g = none → ∃ e2, forLoop src tg f (L.map φ) e m = .ok (.next e2) m ∧ I e2)
  | [], e, h, _ => ⟨fun z hz => (by cases hz), fun _ => ⟨e, for_nil hs, h⟩⟩
  | z :: L, e, h, H => by
    obtain ⟨e1, h1, h2, h3⟩ := H z List.mem_cons_self e h
    rw [List.findSome?_cons]
    cases hp : g z with
    | some v =>
      refine ⟨fun y hy => ?_, fun hy => by cases hy⟩
      cases hy
      rw [List.map_cons, forLoop, guard_of hs, h1]
      show ((f e1 m).bind _) = _
      rw [h2 v hp]
      rfl
    | none =>
      obtain ⟨e2, h4, h5⟩ := h3 hp
      obtain ⟨i1, i2⟩ := for_find φ g I m hs L e2 h5 fun y hy => H y (List.mem_cons_of_mem _ hy)
      refine ⟨fun y hy => ?_, fun hy => ?_⟩
      · rw [List.map_cons, for_cons hs h1 h4]; exact i1 y hy
      · rw [List.map_cons, for_cons hs h1 h4]; exact i2 hy
theorem forF {tg : Tgt} {it : Ex} {b : List St} {e : Env} {m m0 : MH} (L : List α) (φ : α → PV) (g : α → Option PV) (I : Env → Prop) (w : Wk P C it e m m0 (L.map φ)) (h0 : I e)
    (H : ∀ z ∈ L, ∀ e, I e → ∃ e1, bindT tg (φ z) e = some e1 ∧ (∀ v, g z = some v → execs P C b e1 m0 = .ok (.ret v) m0) ∧ (g z = none → ∃ e2, execs P C b e1 m0 = .ok (.next e2) m0 ∧ I e2)) :
    (∀ v, L.findSome? g = some v → exec P C (.for tg it b) e m = .ok (.ret v) m0) ∧ (L.findSome? g = none → ∃ e2, exec P C (.for tg it b) e m = .ok (.next e2) m0 ∧ I e2) := by
  obtain ⟨x, h1, h2, h3⟩ := w
  obtain ⟨a1, a2⟩ := for_find (src := srcOf x m0) (tg := tg) (f := fun e m => execs P C b e m) φ g I m0 h3 L e h0 H
  have e0 : exec P C (.for tg it b) e m = forLoop (srcOf x m0) tg (fun e m => execs P C b e m) (L.map φ) e m0 := by
    rw [st_for, h1]
    show (toL x m0).bind _ = _
    rw [h2]
    rfl
  rw [e0]
  exact ⟨a1, a2⟩
end
def mostL (r : List Int) (x : Int) : Int := r.foldl (fun b y => if y > b then y else b) x
theorem mostI_ints : ∀ (r : List Int) (x : Int), mostI (r.map PV.int) x = some (mostL r x)
  | [], x => rfl
  | y :: r, x => by rw [List.map_cons, mostI, mostI_ints r]; rfl
def maxL : List Int → Int
  | [] => 0
  | x :: r => mostL r x
theorem bl_max {L : List Int} (h : L ≠ []) : blV .max (L.map PV.int) = some (.int (maxL L)) := by
  cases L with
  | nil => exact absurd rfl h
  | cons x r =>
    show (mostI (r.map PV.int) x).map _ = _
    rw [mostI_ints]
    rfl
@[simp] theorem p_game : pure (.str "game") = true := by decide
@[simp] theorem p_hidden : pure (.str "hidden") = true := by decide
@[simp] theorem p_ask : pure (.str "ask") = true := by decide
@[simp] theorem p_asks : pure (.str "asks") = true := by decide
@[simp] theorem p_one : pure (.str "one") = true := by decide
@[simp] theorem p_other : pure (.str "other") = true := by decide
@[simp] theorem p_heard : pure (.str "heard") = true := by decide
@[simp] theorem p_kind : pure (.str "kind") = true := by decide
@[simp] theorem p_row : pure (.str "row") = true := by decide
@[simp] theorem p_order : pure (.str "order") = true := by decide
@[simp] theorem p_move : pure (.str "move") = true := by decide
@[simp] theorem p_tree : pure (.str "tree") = true := by decide
@[simp] theorem p_number : pure (.str "number") = true := by decide
@[simp] theorem p_errors : pure (.str "errors") = true := by decide
@[simp] theorem p_text : pure (.str "text") = true := by decide
section
variable {N : Nat} {m t : MH} {a b : Int} {c : Nat}
theorem rollH (h : 1 ≤ N) {tot : Nat} (ht : 0 < tot) (ht2 : tot < 1000000) (hc : c < 900000) : ∃ (r c' : Nat) (a' b' : Int), r < tot ∧ c' ≤ c + 1 ∧ ∀ T : Int, T = (tot : Nat) → callD PP N 19 [.loc m.length, .int T] (m ++ d3 a b c :: t) = .ok (.int (r : Nat)) (m ++ d3 a' b' c' :: t) := by
  obtain ⟨r, a', b', c', z1, z2, z3, z4, e⟩ := cl19 h (m := m ++ d3 a b c :: t) (l := m.length) (a := a) (b := b) (c := c) (tot := tot) (by simp) (by omega) (by omega) (by omega) (by omega)
  obtain ⟨i, rfl⟩ : ∃ i : Nat, r = i := ⟨r.toNat, by omega⟩
  obtain ⟨j, rfl⟩ : ∃ i : Nat, c' = i := ⟨c'.toNat, by omega⟩
  rw [set_app0] at e
  exact ⟨i, j, a', b', by omega, by omega, fun T hT => by subst hT; exact e⟩
theorem gameH (h : 3 ≤ N) {most : Nat} (hc : c < 800000) (hL : (boards.filter fun b => decide (num b ≤ most)) ≠ []) :
    ∃ k bb a' b' c', k ∈ kinds ∧ bb ∈ boards ∧ num bb ≤ most ∧ c' ≤ c + 2 ∧ ∀ T C0 : Int, T = (most : Nat) → C0 = (c : Nat) → callD PP N 22 [.loc m.length, .int T] (m ++ d3 a b C0 :: t) = .ok (gm k bb) (m ++ d3 a' b' (c' : Nat) :: t) := by
  obtain ⟨k, bb, a', b', c', hk, hb, h9, c1, c2, e⟩ := cl22 h (m := m ++ d3 a b c :: t) (l := m.length) (a := a) (b := b) (c := c) (most := most) (by simp) (by omega) (by omega) hL
  obtain ⟨j, rfl⟩ : ∃ i : Nat, c' = i := ⟨c'.toNat, by omega⟩
  rw [set_app0] at e
  exact ⟨k, bb, a', b', j, hk, hb, h9, by omega, fun T C0 hT hC => by subst hT hC; exact e⟩
theorem pickH (h : 2 ≤ N) {j : Nat} {xs : List PV} (h2 : t[j]? = some (.lst xs)) (hc : c < 900000) (hx : 0 < xs.length) (hx2 : xs.length < 1000000) : ∃ (i : Nat) (x : PV) (a' b' : Int) (c' : Nat), xs[i]? = some x ∧ c' ≤ c + 1 ∧ callD PP N 20 [.loc m.length, .loc (m.length + (j + 1))] (m ++ d3 a b c :: t) = .ok x (m ++ d3 a' b' c' :: t) := by
  obtain ⟨i, x, a', b', c', q1, q2, q3, q4⟩ := cl20 (N := N) h (m := m ++ d3 a b c :: t) (l := m.length) (a := a) (b := b) (c := c) (l2 := m.length + (j + 1)) (xs := xs) (by simp) (by omega) (by omega) (by rw [at_app, List.getElem?_cons_succ]; exact h2) (by omega) hx hx2
  obtain ⟨z, rfl⟩ : ∃ i : Nat, c' = i := ⟨c'.toNat, by omega⟩
  rw [set_app0] at q4
  exact ⟨i, x, a', b', z, q1, by omega, q4⟩
end
/-- the turn of a law's def -/
def turnOf (d : Def) : List St := match d.body with
  | .for _ _ b :: _ => b
  | _ => []
/-- what a turn keeps -/
structure Kp (nv : Nat) (ns : List Int) (e : Env) : Prop where
  len : e.length = nv
  at0 : e[0]? = some (some (.seq ns))
theorem law_main (f last q nv : Nat) {d dl : Def} {B : List St} (hd : PP.defs f = some d) (hdl : PP.defs last = some dl) (hll : dl.lv.lifts = true) (hq : 1 ≤ q ∧ q ≤ 4) (hnp : d.np = 1) (hns : d.ns = nv + 1) (hlv : d.lv = .asis)
    (hb : d.body = [.for (.one 1) (.rng1 (.bi .max2 [(.cst (.int 1)), (.bi .min2 [(.cst (.int (q : Nat))), (.bi .len [(.var 0)])])])) B, .ret (.call last [])])
    {N : Nat} (hlast : callD PP N last [] [] = .ok (.bl true) []) (ns : List Int) (hn : ns.length ≤ 63) (h1 : 1 ≤ nv)
    (H : ∀ (i : Nat), i < 4 → ∀ (e : Env) (m : MH), Kp (nv + 1) ns e → e[1]? = some (some (.int (i : Nat))) → ∃ e2 m2, execs PP (callD PP N) B e m = .ok (.next e2) m2 ∧ Kp (nv + 1) ns e2) :
    ∃ m', callD PP (N + 1) f [.seq ns] [] = .ok (.bl true) m' := by
  have hx : ∃ n : Nat, n ≤ 4 ∧ ∀ e : Env, e[0]? = some (some (.seq ns)) → evX PP (callD PP N) (.rng1 (.bi .max2 [(.cst (.int 1)), (.bi .min2 [(.cst (.int (q : Nat))), (.bi .len [(.var 0)])])])) e [] = .ok (.val (.rng 0 (n : Nat))) [] := by
    have hl : biV .len [.seq ns] [] = some (.int (ns.length : Nat)) := rfl
    have mn : ∀ x y : Int, biV .min2 [.int x, .int y] [] = some (.int (if y < x then y else x)) := fun _ _ => rfl
    have mx : ∀ x y : Int, biV .max2 [.int x, .int y] [] = some (.int (if y > x then y else x)) := fun _ _ => rfl
    obtain ⟨z, hz, hz4⟩ : ∃ z : Nat, (if (if ((ns.length : Nat) : Int) < (q : Nat) then ((ns.length : Nat) : Int) else (q : Nat)) > 1 then (if ((ns.length : Nat) : Int) < (q : Nat) then ((ns.length : Nat) : Int) else (q : Nat)) else (1 : Int)) = (z : Nat) ∧ z ≤ 4 := by
      by_cases c : ((ns.length : Nat) : Int) < (q : Nat)
      · rw [if_pos c]
        by_cases c0 : ((ns.length : Nat) : Int) > 1
        · exact ⟨ns.length, by rw [if_pos c0], by omega⟩
        · exact ⟨1, by rw [if_neg c0]; rfl, by omega⟩
      · rw [if_neg c]
        by_cases c0 : ((q : Nat) : Int) > 1
        · exact ⟨q, by rw [if_pos c0], by omega⟩
        · exact ⟨1, by rw [if_neg c0]; rfl, by omega⟩
    refine ⟨z, hz4, fun e he => rng1_nat ?_ (by omega)⟩
    simp only [x_bi, s_cons, s_nil, x_cst, x_var, he, Res.bind_ok, toV_val, hl, ofO_some, mn, mx, hz]
  obtain ⟨n, hn4, hx⟩ := hx
  rw [call_raw hd (by rw [hnp]; rfl) rfl]
  unfold runB
  rw [hb, hnp, hns, hlv]
  obtain ⟨e', m', h, _⟩ := forT (P := PP) (C := callD PP N) (tg := .one 1) (it := .rng1 (.bi .max2 [(.cst (.int 1)), (.bi .min2 [(.cst (.int (q : Nat))), (.bi .len [(.var 0)])])])) (b := B) (m := []) (m0 := []) (e := List.map some [PV.seq ns] ++ List.replicate (nv + 1 - 1) none) (List.range n) (fun i => .int (i : Nat)) (fun pre e m => Kp (nv + 1) ns e)
    (hx _ rfl) (toL_rng n (by omega) _) rfl ⟨by simp, rfl⟩ (by
      intro pre i rest hL e m K
      have hi : i < n := List.mem_range.mp (by rw [hL]; simp)
      have hs : (e.set 1 (some (PV.int (i : Nat))))[1]? = some (some (.int (i : Nat))) := List.getElem?_set_self (by rw [K.len]; omega)
      obtain ⟨e2, m2, g1, g2⟩ := H i (by omega) (e.set 1 (some (.int (i : Nat)))) m ⟨by rw [List.length_set]; exact K.len, by rw [List.getElem?_set_ne (by omega)]; exact K.at0⟩ hs
      exact ⟨_, e2, m2, rfl, g1, g2⟩)
  refine ⟨m', ?_⟩
  rw [ss_next h]
  simp [ss_cons, call_any hdl hll rfl hlast, leave]
end Mi
end

section
set_option autoImplicit false
set_option maxRecDepth 100000
set_option maxHeartbeats 1000000
set_option linter.all false
namespace Mi
theorem memP_iff {x : PV} : ∀ {L : List PV}, memP x L = true ↔ x ∈ L
  | [] => by simp [memP]
  | y :: L => by
    rw [memP, Bool.or_eq_true, memP_iff, List.mem_cons]
    constructor
    · rintro (h | h)
      · exact .inl (beqV _ _ h)
      · exact .inr h
    · rintro (h | h)
      · exact .inl (by rw [h]; exact beq_refl y)
      · exact .inr h
theorem dedup_snoc (x : PV) : ∀ (L acc : List PV), dedup (L ++ [x]) acc = if memP x (dedup L acc) then dedup L acc else dedup L acc ++ [x]
  | [], acc => by
    have e : memP x acc.reverse = memP x acc := by rw [Bool.eq_iff_iff, memP_iff, memP_iff, List.mem_reverse]
    show (if memP x acc then dedup [] acc else dedup [] (x :: acc)) = _
    rw [dedup, dedup, e, List.reverse_cons]
  | y :: L, acc => by
    rw [List.cons_append, dedup, dedup]
    by_cases h : memP y acc = true
    · rw [if_pos h, if_pos h]; exact dedup_snoc x L acc
    · rw [if_neg h, if_neg h]; exact dedup_snoc x L (y :: acc)
theorem mem_dedup {x : PV} : ∀ {L acc : List PV}, x ∈ dedup L acc ↔ x ∈ L ∨ x ∈ acc
  | [], acc => by rw [dedup, List.mem_reverse]; simp
  | y :: L, acc => by
    rw [dedup]
    by_cases h : memP y acc = true
    · rw [if_pos h, mem_dedup]
      have := memP_iff.mp h
      constructor
      · rintro (q | q)
        · exact .inl (List.mem_cons_of_mem _ q)
        · exact .inr q
      · rintro (q | q)
        · rcases List.mem_cons.mp q with q | q
          · exact .inr (q ▸ this)
          · exact .inl q
        · exact .inr q
    · rw [if_neg h, mem_dedup, List.mem_cons, List.mem_cons]
      constructor
      · rintro (q | q | q)
        · exact .inl (.inr q)
        · exact .inl (.inl q)
        · exact .inr q
      · rintro ((q | q) | q)
        · exact .inr (.inl q)
        · exact .inl q
        · exact .inr (.inr q)
theorem nodup_dedupP : ∀ {L acc : List PV}, acc.Nodup → (dedup L acc).Nodup
  | [], acc, h => by
    rw [dedup]
    exact (List.reverse_perm acc).nodup_iff.mpr h
  | y :: L, acc, h => by
    rw [dedup]
    by_cases q : memP y acc = true
    · rw [if_pos q]; exact nodup_dedupP h
    · rw [if_neg q]
      exact nodup_dedupP (List.nodup_cons.mpr ⟨fun z => q (memP_iff.mpr z), h⟩)
def keysP (L : List PV) : List PV := dedup L []
theorem mem_keys {x : PV} {L : List PV} : x ∈ keysP L ↔ x ∈ L := by
  unfold keysP
  rw [mem_dedup]
  simp
theorem nodup_keys (L : List PV) : (keysP L).Nodup := nodup_dedupP List.nodup_nil
theorem keys_snoc (L : List PV) (x : PV) : keysP (L ++ [x]) = if memP x (keysP L) then keysP L else keysP L ++ [x] := dedup_snoc x L []
theorem keysP_len (L : List PV) : (keysP L).length ≤ L.length := by
  have := dedup_len L []
  simpa [keysP] using this
/-- ints, or pairs of ints that are not below nothing -/
inductive Shp : Bool → PV → Prop where
  | int (i : Int) : Shp false (.int i)
  | two {i j : Int} (h1 : 0 ≤ i) (h2 : i < 4096) (h3 : 0 ≤ j) (h4 : j < 4096) : Shp true (.tup [.int i, .int j])
theorem Shp.isI {t : Bool} {v : PV} (h : Shp t v) : isI v = true := by cases h <;> rfl
theorem Shp.pure {t : Bool} {v : PV} (h : Shp t v) : pure v = true := (isI_eqv h.isI).2.1
theorem Shp.tupP {t : Bool} {v : PV} (h : Shp t v) : isTupP v = t := by cases h <;> rfl
theorem Shp.key {t : Bool} {v : PV} (h : Shp t v) : keyTr v = true := by cases h <;> rfl
theorem Shp.depth {t : Bool} {v : PV} (h : Shp t v) : depth v ≤ 1 := by cases h <;> simp [Mi.depth, depths]
theorem Shp.cmp {t : Bool} {v w : PV} (h : Shp t v) (h2 : Shp t w) : ∃ o, cmpP v w = some o := by
  cases h with
  | int i => cases h2; exact ⟨_, by rw [cmpP]⟩
  | two =>
    cases h2
    rename_i i j _ _ _ _ i2 j2 _ _ _ _
    simp only [cmpP, cmpPs]
    by_cases a : i < i2
    · simp [a]
      by_cases c : j < j2 <;> simp [c]
      by_cases d : j = j2 <;> simp [d]
    · by_cases b : i = i2
      · simp [b]
        by_cases c : j < j2 <;> simp [c]
        by_cases d : j = j2 <;> simp [d]
      · simp [a, b]
        by_cases c : j < j2 <;> simp [c]
        by_cases d : j = j2 <;> simp [d]
theorem insF_some {x : PV} : ∀ {ys : List PV}, (∀ y ∈ ys, ∃ o, cmpP y x = some o) → ∃ zs, sortP.insF x ys = some zs ∧ zs.Perm (x :: ys)
  | [], _ => ⟨[x], rfl, List.Perm.refl _⟩
  | y :: ys, h => by
    obtain ⟨o, e⟩ := h y List.mem_cons_self
    obtain ⟨zs, h1, h2⟩ := insF_some (x := x) (ys := ys) fun z hz => h z (List.mem_cons_of_mem _ hz)
    rw [sortP.insF, e]
    cases o with
    | lt => exact ⟨y :: zs, by simp [h1], (h2.cons y).trans (List.Perm.swap x y ys)⟩
    | eq => exact ⟨_, rfl, List.Perm.refl _⟩
    | gt => exact ⟨_, rfl, List.Perm.refl _⟩
theorem sortP_some {t : Bool} : ∀ {L : List PV}, (∀ v ∈ L, Shp t v) → ∃ ys, sortP L = some ys ∧ ys.Perm L
  | [], _ => ⟨[], rfl, List.Perm.refl _⟩
  | x :: L, h => by
    obtain ⟨ys, h1, h2⟩ := sortP_some (L := L) fun v hv => h v (List.mem_cons_of_mem _ hv)
    obtain ⟨zs, h3, h4⟩ := insF_some (x := x) (ys := ys) fun y hy => (h y (List.mem_cons_of_mem _ (h2.mem_iff.mp hy))).cmp (h x List.mem_cons_self)
    exact ⟨zs, by rw [sortP, h1]; exact h3, h4.trans (h2.cons x)⟩
theorem setOk_shp {t : Bool} {L : List PV} (h : ∀ v ∈ L, Shp t v) : setOk L = true := by
  unfold setOk
  cases t with
  | false =>
    rw [Bool.or_eq_true]
    refine .inl ?_
    unfold intsB
    rw [List.all_eq_true]
    intro v hv
    cases h v hv
    rfl
  | true =>
    cases L with
    | nil => rfl
    | cons v L =>
      rw [Bool.or_eq_true]
      refine .inr ?_
      have h0 := h v List.mem_cons_self
      cases h0
      show (decide (1 ≤ 2) && List.all _ (tupIB 2)) = true
      rw [decide_eq_true (by omega), Bool.true_and, List.all_eq_true]
      intro w hw
      have hw := h w hw
      cases hw
      rename_i h1 h2 h3 h4
      simp [tupIB, h1, h2, h3, h4]
theorem kOk_shp {t : Bool} {v : PV} (h : Shp t v) {kvs : List (PV × PV)} (hk : ∀ p ∈ kvs, Shp t p.1) : kOk v kvs = true := by
  unfold kOk
  rw [Bool.and_eq_true, Bool.and_eq_true, h.key, List.all_eq_true]
  refine ⟨⟨rfl, decide_eq_true (by have := h.depth; omega)⟩, fun p hp => ?_⟩
  rw [(hk p hp).tupP, h.tupP]
  cases t <;> rfl
def dctK : List PV → Nat → List (PV × PV)
  | [], _ => []
  | k :: r, n => (k, .loc n) :: dctK r (n + 1)
theorem dctK_keys : ∀ (ks : List PV) (n : Nat), (dctK ks n).map (·.1) = ks
  | [], _ => rfl
  | k :: r, n => by rw [dctK, List.map_cons, dctK_keys r]
theorem dctK_len : ∀ (ks : List PV) (n : Nat), (dctK ks n).length = ks.length
  | [], _ => rfl
  | k :: r, n => by rw [dctK, List.length_cons, dctK_len r, List.length_cons]
theorem dctK_mem {ks : List PV} {n : Nat} {p : PV × PV} (h : p ∈ dctK ks n) : p.1 ∈ ks := by
  rw [← dctK_keys ks n]
  exact List.mem_map.mpr ⟨p, h, rfl⟩
theorem look_in {v : PV} : ∀ {ks : List PV} {n : Nat}, v ∈ ks → ∃ j, ks[j]? = some v ∧ look v (dctK ks n) = some (.loc (n + j))
  | [], _, h => by cases h
  | k :: r, n, h => by
    rw [dctK, look]
    by_cases e : beqP k v = true
    · exact ⟨0, by rw [← beqV _ _ e]; rfl, by rw [if_pos e]; rfl⟩
    · rw [if_neg e]
      have : v ∈ r := by
        rcases List.mem_cons.mp h with z | z
        · exact absurd (by rw [z]; exact beq_refl k) e
        · exact z
      obtain ⟨j, h1, h2⟩ := look_in (n := n + 1) this
      exact ⟨j + 1, h1, by rw [h2]; congr 2; omega⟩
theorem look_out {v : PV} : ∀ {ks : List PV} {n : Nat}, v ∉ ks → look v (dctK ks n) = none
  | [], _, _ => rfl
  | k :: r, n, h => by
    rw [dctK, look, if_neg fun e => h (by rw [← beqV _ _ e]; exact List.mem_cons_self)]
    exact look_out fun z => h (List.mem_cons_of_mem _ z)
theorem put_out {v : PV} : ∀ {ks : List PV} {n : Nat}, v ∉ ks → put v (.loc (n + ks.length)) (dctK ks n) = dctK (ks ++ [v]) n
  | [], n, _ => rfl
  | k :: r, n, h => by
    rw [dctK, put, if_neg fun e => h (by rw [← beqV _ _ e]; exact List.mem_cons_self), List.cons_append, dctK]
    have := put_out (ks := r) (n := n + 1) fun z => h (List.mem_cons_of_mem _ z)
    rw [← this, List.length_cons]
    congr 3
    omega
/-- the rows of these replies -/
def partL (rep : Nat → PV) (hs : List Nat) (v : PV) : List Nat := hs.filter fun i => eqv (rep i) v
theorem partL_snoc (rep : Nat → PV) (hs : List Nat) (i : Nat) (v : PV) : partL rep (hs ++ [i]) v = if eqv (rep i) v then partL rep hs v ++ [i] else partL rep hs v := by
  unfold partL
  rw [List.filter_append, List.filter_cons]
  cases eqv (rep i) v <;> simp
def heapK (rep : Nat → PV) (pre : List Nat) : MH := .dct (dctK (keysP (pre.map rep)) 1) :: (keysP (pre.map rep)).map fun v => .lst (natV (partL rep pre v))
theorem natV_app (a b : List Nat) : natV (a ++ b) = natV a ++ natV b := by unfold natV; rw [List.map_append]
/-- a row put to its reply -/
theorem sda_step {rep : Nat → PV} {t : Bool} {pre : List Nat} {i : Nat} (h : ∀ j ∈ pre ++ [i], Shp t (rep j)) (hl : (pre ++ [i]).length ≤ 100) : sdaV (.loc 0) (rep i) (.int (i : Nat)) (heapK rep pre) = .ok .non (heapK rep (pre ++ [i])) := by
  have hk : ∀ v ∈ keysP (pre.map rep), Shp t v := fun v hv => by
    obtain ⟨j, hj, rfl⟩ := List.mem_map.mp (mem_keys.mp hv)
    exact h j (List.mem_append_left _ hj)
  have hi := h i (List.mem_append_right _ List.mem_cons_self)
  have hd : dictAt (heapK rep pre) 0 = some (dctK (keysP (pre.map rep)) 1) := rfl
  have kl : (keysP (pre.map rep)).length ≤ 100 := by
    have := keysP_len (pre.map rep)
    rw [List.length_map] at this
    rw [List.length_append] at hl
    omega
  have pl : ∀ v, (partL rep pre v).length ≤ 100 := fun v => by
    have := List.length_filter_le (fun i => eqv (rep i) v) pre
    unfold partL
    rw [List.length_append] at hl
    omega
  simp only [sdaV, hd]
  rw [guard_of (by rw [kOk_shp hi fun p hp => hk _ (dctK_mem hp), decide_eq_true (show (dctK (keysP (pre.map rep)) 1).length < lineP by rw [dctK_len]; unfold lineP; omega)]; rfl)]
  have part : ∀ v ∈ keysP (pre.map rep), rep i ≠ v → partL rep (pre ++ [i]) v = partL rep pre v := fun v hv hne => by
    rw [partL_snoc, if_neg]
    exact fun z => hne ((eqv_is hi.isI (hk v hv).isI).mp z)
  have self : partL rep (pre ++ [i]) (rep i) = partL rep pre (rep i) ++ [i] := by
    rw [partL_snoc, if_pos (isI_eqv hi.isI).1]
  by_cases hm : rep i ∈ keysP (pre.map rep)
  · obtain ⟨j, h1, h2⟩ := look_in (n := 1) hm
    have hj : j < (keysP (pre.map rep)).length := (List.getElem?_eq_some_iff.mp h1).1
    have ha : (heapK rep pre)[1 + j]? = some (.lst (natV (partL rep pre (rep i)))) := by
      unfold heapK
      rw [Nat.add_comm, List.getElem?_cons_succ, List.getElem?_map, h1]
      rfl
    have hw : wlistAt (heapK rep pre) (1 + j) = some (natV (partL rep pre (rep i))) := by unfold wlistAt; rw [ha]
    rw [h2]
    simp only [hw]
    rw [guard_of (decide_eq_true (by unfold natV lineP; rw [List.length_map]; have := pl (rep i); omega))]
    congr 1
    have ek : keysP ((pre ++ [i]).map rep) = keysP (pre.map rep) := by
      rw [List.map_append, List.map_cons, List.map_nil, keys_snoc, if_pos (memP_iff.mpr hm)]
    unfold heapK
    rw [ek, Nat.add_comm 1 j, List.set_cons_succ]
    congr 1
    apply List.ext_getElem?
    intro q
    by_cases hq : j = q
    · subst hq
      rw [List.getElem?_set_self (by rw [List.length_map]; exact hj), List.getElem?_map, h1]
      show _ = some (MO.lst (natV (partL rep (pre ++ [i]) (rep i))))
      rw [self, natV_app]
      rfl
    · rw [List.getElem?_set_ne hq, List.getElem?_map, List.getElem?_map]
      cases hv : (keysP (pre.map rep))[q]? with
      | none => rfl
      | some v =>
        show some (MO.lst (natV (partL rep pre v))) = some (MO.lst (natV (partL rep (pre ++ [i]) v)))
        rw [part v (List.mem_of_getElem? hv) fun z => ?_]
        subst z
        obtain ⟨p1, p2⟩ := List.getElem?_eq_some_iff.mp h1
        obtain ⟨p3, p4⟩ := List.getElem?_eq_some_iff.mp hv
        exact hq ((List.getElem_inj (nodup_keys _)).mp (p2.trans p4.symm))
  · rw [look_out hm]
    simp only []
    congr 1
    have ek : keysP ((pre ++ [i]).map rep) = keysP (pre.map rep) ++ [rep i] := by
      rw [List.map_append, List.map_cons, List.map_nil, keys_snoc, if_neg fun z => hm (memP_iff.mp z)]
    have hlen : (heapK rep pre).length = 1 + (keysP (pre.map rep)).length := by
      unfold heapK
      rw [List.length_cons, List.length_map, Nat.add_comm]
    rw [hlen, put_out hm]
    unfold heapK
    rw [ek, List.set_cons_zero, List.cons_append, List.map_append]
    congr 2
    · apply List.map_congr_left
      intro v hv
      rw [part v hv fun z => hm (z ▸ hv)]
    · show _ = [MO.lst (natV (partL rep (pre ++ [i]) (rep i)))]
      rw [self]
      have : partL rep pre (rep i) = [] := by
        unfold partL
        rw [List.filter_eq_nil_iff]
        intro j hj z
        have := (eqv_is (h j (List.mem_append_left _ hj)).isI hi.isI).mp z
        exact hm (mem_keys.mpr (List.mem_map.mpr ⟨j, hj, this⟩))
      rw [this]
      rfl
end Mi
end

section
set_option autoImplicit false
set_option maxRecDepth 100000
set_option maxHeartbeats 1000000
set_option linter.all false
namespace Mi
def shpB : Bool → PV → Bool
  | false, .int _ => true
  | true, .tup [.int i, .int j] => decide (0 ≤ i) && decide (i < 4096) && (decide (0 ≤ j) && decide (j < 4096))
  | _, _ => false
theorem shp_of {t : Bool} {v : PV} (h : shpB t v = true) : Shp t v := by
  unfold shpB at h
  split at h
  · exact .int _
  · simp only [Bool.and_eq_true, decide_eq_true_eq] at h
    exact .two h.1.1 h.1.2 h.2.1 h.2.2
  · cases h
def isBoth (k : PySem.Str) : Bool := kb k "both"
theorem shp_tab : (kinds.all fun k => boards.all fun b => (rowsB b).all fun r => (rowsB b).all fun q => rOk 20 (ansR k r q) && shpB (isBoth k) (ansR k r q)) = true := by decide +kernel
section
variable {N n : Nat} {hs : List Nat} {k : PySem.Str} {b : Int × Int}
theorem An_tab (hk : k ∈ kinds) (hb : b ∈ boards) {i j : Nat} (hi : i < num b) (hj : j < num b) : rOk 20 (An k b i j) = true ∧ Shp (isBoth k) (An k b i j) := by
  have z := List.all_eq_true.mp (List.all_eq_true.mp shp_tab k hk) b hb
  have z := List.all_eq_true.mp (List.all_eq_true.mp z _ (List.mem_of_getElem? (row_ex hb hi))) _ (List.mem_of_getElem? (row_ex hb hj))
  rw [Bool.and_eq_true] at z
  exact ⟨z.1, shp_of z.2⟩
/-- row i -/
def rwB (b : Int × Int) (i : Nat) : List Int := (rowsB b).getD i []
theorem cl7A (h : 1 ≤ N) (hk : k ∈ kinds) (hb : b ∈ boards) {i : Nat} (hi : i < num b) (m : MH) : callD PP N 7 [gm k b, .int (i : Nat)] m = .ok (tt (rwB b i)) m := cl7 h hk hb (row_ex hb hi) m
theorem cl14A (h : 2 ≤ N) (hb : b ∈ boards) {k2 : PySem.Str} (hk2 : k2 ∈ kinds) {i j : Nat} (hi : i < num b) (hj : j < num b) (m : MH) : callD PP N 14 [.str k2, tt (rwB b i), tt (rwB b j)] m = .ok (An k2 b i j) m := by
  obtain ⟨_, h2, h3, _⟩ := tt_getI hb (row_ex hb hi)
  obtain ⟨_, h4, _, _⟩ := tt_getI hb (row_ex hb hj)
  exact cl14 h (pure_k hk2) _ _ (by unfold rwB; omega) (by unfold rwB; omega) m
/-- the replies, rising, each once -/
def srtK (L : List PV) : List PV := (sortP (keysP L)).getD []
theorem srtK_some {t : Bool} {L : List PV} (h : ∀ v ∈ L, Shp t v) : sortP (keysP L) = some (srtK L) ∧ (srtK L).Perm (keysP L) := by
  obtain ⟨ys, h1, h2⟩ := sortP_some (L := keysP L) (t := t) fun v hv => h v (mem_keys.mp hv)
  unfold srtK
  rw [h1]
  exact ⟨rfl, h2⟩
/-- what each answer leaves -/
def partsL (rep : Nat → PV) (hs : List Nat) : List (PV × List Nat) := (srtK (hs.map rep)).map fun v => (v, partL rep hs v)
def partP (p : PV × List Nat) : PV := .tup [p.1, tN p.2]
def partsV (rep : Nat → PV) (hs : List Nat) : PV := .tup ((partsL rep hs).map partP)
theorem pures_part : ∀ L : List (PV × List Nat), (∀ p ∈ L, isI p.1 = true) → pures (L.map partP) = true ∧ depths (L.map partP) ≤ 2 ∧ eqvs (L.map partP) (L.map partP) = true
  | [], _ => ⟨rfl, by simp [depths], rfl⟩
  | p :: L, h => by
    obtain ⟨i1, i2, i3⟩ := pures_part L fun q hq => h q (List.mem_cons_of_mem _ hq)
    obtain ⟨j1, j2, j3⟩ := isI_eqv (h p List.mem_cons_self)
    have d : depth p.1 ≤ 1 := by
      have := h p List.mem_cons_self
      revert this
      unfold isI
      split
      · rename_i e; intro _; rw [e]; simp [depth]
      · rename_i e; intro _; rw [e]; simp [depth, depths]
      · intro z; cases z
    have e1 : pure (partP p) = true := by
      show pures [p.1, tN p.2] = true
      rw [pures, pures, j2, pure_tN]
      rfl
    have e2 : depth (partP p) ≤ 2 := by
      unfold partP
      rw [depth, depths, depths, depths, tN_tt, depth_tt]
      omega
    have e3 : eqv (partP p) (partP p) = true := by
      unfold partP
      rw [eqv, eqvs, eqvs, eqvs, j1, tN_tt, eqv_tt]
      simp
    rw [List.map_cons, pures, depths, eqvs, i1, i3, e1, e3]
    exact ⟨rfl, by omega, rfl⟩
theorem partsL_isI {rep : Nat → PV} {t : Bool} (h : ∀ i ∈ hs, Shp t (rep i)) : ∀ p ∈ partsL rep hs, isI p.1 = true ∧ p.1 ∈ hs.map rep := by
  intro p hp
  have hL : ∀ v ∈ hs.map rep, Shp t v := fun v hv => by
    obtain ⟨i, hi, rfl⟩ := List.mem_map.mp hv
    exact h i hi
  obtain ⟨v, hv, rfl⟩ := List.mem_map.mp hp
  have hv := mem_keys.mp ((srtK_some hL).2.mem_iff.mp hv)
  exact ⟨(hL v hv).isI, hv⟩
theorem pure_parts {rep : Nat → PV} {t : Bool} (h : ∀ i ∈ hs, Shp t (rep i)) : pure (partsV rep hs) = true := (pures_part _ fun p hp => (partsL_isI h p hp).1).1
theorem ne_parts {rep : Nat → PV} {t : Bool} (h : ∀ i ∈ hs, Shp t (rep i)) (m : MH) : cmpV .ne (partsV rep hs) (partsV rep hs) m = some false := by
  obtain ⟨h1, h2, h3⟩ := pures_part _ fun p hp => (partsL_isI h p hp).1
  exact ne_tup h3 h1 (by omega) m
theorem cl34 (h : 3 ≤ N) (hk : k ∈ kinds) (hb : b ∈ boards) (H : HS (num b) hs) {j : Nat} (hj : j < num b) (m : MH) : callD PP N 34 [gm k b, tN hs, .int (j : Nat)] m = .ok (partsV (fun i => An k b i j) hs) m := by
  obtain ⟨N, rfl⟩ := sub_of h
  have f := bf hb
  have hS : ∀ i ∈ hs, Shp (isBoth k) (An k b i j) := fun i hi => (An_tab hk hb (H.lt i hi) hj).2
  have hl := H.len
  refine call_lift' (d := D.d34) rfl rfl rfl (by rw [pures, pure_gm hk, pures, pure_tN]; rfl) (pure_parts hS) ?_ m
  unfold runB D.d34
  simp only [List.map, List.length, List.replicate, List.cons_append, List.nil_append]
  rw [ss_next (e' := [some (gm k b), some (tN hs), some (.int (j : Nat)), some (tt (rwB b j)), none, none, none]) (m' := []) (by simp [cl7A, hk, hb, hj])]
  rw [ss_next (e' := [some (gm k b), some (tN hs), some (.int (j : Nat)), some (tt (rwB b j)), some (.loc 0), none, none]) (m' := [.dct []]) (by simp [pairUp, dictOf, alloc])]
  obtain ⟨e', m', h1, ⟨s5, h2⟩, h3⟩ := forT (P := PP) (C := callD PP (N + 2)) (tg := .one 5) (it := .var 1) (b := [.exp (.sda (.var 4) (.call 14 [(.idx (.var 0) (.cst (.int 0))), (.call 7 [(.var 0), (.var 5)]), (.var 3)]) (.var 5))])
    (e := [some (gm k b), some (tN hs), some (.int (j : Nat)), some (tt (rwB b j)), some (.loc 0), none, none]) (m := [.dct []]) (m0 := [.dct []]) hs (fun i => PV.int (i : Nat))
    (fun pre e m => (∃ s5, e = [some (gm k b), some (tN hs), some (.int (j : Nat)), some (tt (rwB b j)), some (.loc 0), s5, none]) ∧ m = heapK (fun i => An k b i j) pre) (x := .val (tN hs)) (by simp) rfl rfl ⟨⟨none, rfl⟩, rfl⟩ (by
      intro pre i rest hL e m ⟨⟨s5, he⟩, hm⟩
      subst he hm
      have hi : i < num b := H.lt i (by rw [hL]; simp)
      have hd : isDct (.loc 0) (heapK (fun i => An k b i j) pre) = true := rfl
      have st := sda_step (rep := fun i => An k b i j) (t := isBoth k) (pre := pre) (i := i) (fun q hq => hS q (by rw [hL]; rcases List.mem_append.mp hq with z | z <;> simp at z ⊢ <;> simp [z])) (by
        have := congrArg List.length hL
        simp only [List.length_append, List.length_cons, List.length_nil] at this ⊢
        have := f.le
        omega)
      exact ⟨_, _, _, rfl, by simp [ss_cons, hd, cl7A, cl14A, hk, hb, hi, hj, st]; rfl, ⟨_, rfl⟩, rfl⟩)
  rw [ss_next h1, h2, h3]
  have hkeys : ∀ v ∈ keysP (hs.map fun i => An k b i j), Shp (isBoth k) v := fun v hv => by
    obtain ⟨i, hi, rfl⟩ := List.mem_map.mp (mem_keys.mp hv)
    exact hS i hi
  obtain ⟨so, sp⟩ := srtK_some (L := hs.map fun i => An k b i j) (t := isBoth k) fun v hv => hkeys v (mem_keys.mpr hv)
  have kl := keysP_len (hs.map fun i => An k b i j)
  rw [List.length_map] at kl
  have dl : dictAt (heapK (fun i => An k b i j) hs) 0 = some (dctK (keysP (hs.map fun i => An k b i j)) 1) := rfl
  have sok : setOk (keysP (hs.map fun i => An k b i j)) = true := setOk_shp hkeys
  have x1 : evX PP (callD PP (N + 2)) (.srk (.var 4)) [some (gm k b), some (tN hs), some (.int (j : Nat)), some (tt (rwB b j)), some (.loc 0), s5, none] (heapK (fun i => An k b i j) hs) = .ok (.tmp (srtK (hs.map fun i => An k b i j))) (heapK (fun i => An k b i j) hs) := by
    have e64 : decide ((keysP (hs.map fun i => An k b i j)).length < 64) = true := decide_eq_true (by have := f.le; omega)
    simp only [x_srk, x_var, List.getElem?_cons_zero, List.getElem?_cons_succ, Res.bind_ok, toV_val, dl, dctK_keys, dctK_len, sok, e64, Bool.and_self, guard_true, so, ofO_some]
  refine ⟨[], ?_⟩
  simp only [ss_cons, st_ret, ev_def, x_tof]
  rw [lcM (srtK (hs.map fun i => An k b i j)) id (fun v => partP (v, partL (fun i => An k b i j) hs v)) (Wk.tmp (by rw [List.map_id]; exact x1)) (by rw [sp.length_eq]; have := f.le; omega) (fun v hv => ⟨_, rfl, by
    have hv := sp.mem_iff.mp hv
    obtain ⟨q, h4, h5⟩ := look_in (n := 1) hv
    have hq : (heapK (fun i => An k b i j) hs)[1 + q]? = some (.lst (natV (partL (fun i => An k b i j) hs v))) := by
      unfold heapK
      rw [Nat.add_comm, List.getElem?_cons_succ, List.getElem?_map, h4]
      rfl
    have ix : idxV (.loc 0) v (heapK (fun i => An k b i j) hs) = some (.loc (1 + q)) := by
      show (if kOk v (dctK (keysP (hs.map fun i => An k b i j)) 1) then look v (dctK (keysP (hs.map fun i => An k b i j)) 1) else none) = _
      rw [kOk_shp (hkeys v hv) fun p hp => hkeys _ (dctK_mem hp)]
      exact h5
    simp [ix, toC_loc hq]
    rfl⟩)]
  simp only [Res.bind_ok, toC_tmp, toV_val, leave]
  unfold partsV partsL
  rw [List.map_map]
  have hp := pure_parts hS
  unfold partsV partsL at hp
  rw [List.map_map] at hp
  have op : ∀ m, oldOk [] m = true := fun m => rfl
  show guard (pure (.tup _) && oldOk [] _) _ = _
  rw [op, Bool.and_true]
  refine (guard_of hp _).trans rfl
end
end Mi
end

section
set_option autoImplicit false
set_option maxRecDepth 100000
set_option maxHeartbeats 1000000
set_option linter.all false
namespace Mi
section
variable {N n : Nat} {hs : List Nat} {k : PySem.Str} {b : Int × Int}
theorem cl33A (h : 2 ≤ N) (hk : k ∈ kinds) (hb : b ∈ boards) {i : Nat} (hi : i < num b) {x : PySem.Str} (hx : pure (.str x) = true) (m : MH) : callD PP N 33 [gm k b, .int (i : Nat), .str x] m = .ok .non m := cl33 h hk hb hi x hx m
theorem cl32A (h : 4 ≤ N) (hk : k ∈ kinds) (hb : b ∈ boards) (H : HS (num b) hs) {x : PySem.Str} (hx : pure (.str x) = true) (m : MH) : callD PP N 32 [gm k b, tN hs, .str x] m = .ok .non m := cl32 h hk hb H x hx m
theorem shp_hs (hk : k ∈ kinds) (hb : b ∈ boards) (H : HS (num b) hs) {j : Nat} (hj : j < num b) : ∀ i ∈ hs, Shp (isBoth k) (An k b i j) := fun i hi => (An_tab hk hb (H.lt i hi) hj).2
theorem partsL_len {rep : Nat → PV} {t : Bool} (h : ∀ i ∈ hs, Shp t (rep i)) : (partsL rep hs).length = (keysP (hs.map rep)).length ∧ (partsL rep hs).length ≤ hs.length := by
  obtain ⟨_, sp⟩ := srtK_some (L := hs.map rep) (t := t) fun v hv => by
    obtain ⟨i, hi, rfl⟩ := List.mem_map.mp hv
    exact h i hi
  have kl := keysP_len (hs.map rep)
  rw [List.length_map] at kl
  unfold partsL
  rw [List.length_map, sp.length_eq]
  exact ⟨rfl, kl⟩
theorem cl35 (h : 6 ≤ N) (hk : k ∈ kinds) (hb : b ∈ boards) (H : HS (num b) hs) {j : Nat} (hj : j < num b) (m : MH) : callD PP N 35 [gm k b, tN hs, .int (j : Nat)] m = .ok (partsV (fun i => An k b i j) hs) m := by
  obtain ⟨N, rfl⟩ := sub_of h
  have hS := shp_hs hk hb H hj
  refine call_lift (d := D.d35) (m1 := []) rfl rfl rfl (by rw [pures, pure_gm hk, pures, pure_tN]; rfl) (pure_parts hS) ?_ m
  simp [runB, D.d35, ss_cons, leave, cl6 (N := N + 5) (by omega), cl32A (N := N + 5) (by omega), cl33A (N := N + 5) (by omega), cl34 (N := N + 5) (by omega), hk, hb, H, hj]
def greatL (rep : Nat → PV) (hs : List Nat) : Int := maxL (0 :: (partsL rep hs).map fun p => ((p.2.length : Nat) : Int))
theorem lenN (l : List Nat) (m : MH) : biV .len [tN l] m = some (.int (l.length : Nat)) := by
  rw [tN_tt, len_tt, List.length_map]
/-- the lengths of the parts -/
theorem x_lens {P : Prog} {C : Nat → List PV → MH → Res PV} {it : Ex} {e : Env} {m m0 : MH} {i j : Nat} {L : List (PV × List Nat)} (w : Wk P C it e m m0 (L.map partP)) (hl : L.length ≤ 1000) (hij : i ≠ j) (hj : j < e.length) :
    evX P C (.lcm [i, j] (.two i j) it [] (.bi .len [(.var j)])) e m = .ok (.tmp ((L.map fun p => ((p.2.length : Nat) : Int)).map PV.int)) m0 := by
  rw [lcM L partP (fun p => .int (p.2.length : Nat)) w (by omega) (fun p _ => ⟨_, rfl, by
    have e1 : (((wipe [i, j] e).set i (some p.1)).set j (some (tN p.2)))[j]? = some (some (tN p.2)) := List.getElem?_set_self (by simp [hj])
    simp only [x_bi, s_cons, s_nil, x_var, e1, Res.bind_ok, toV_val, lenN, ofO_some]⟩), List.map_map]
  rfl
theorem cl36 (h : 6 ≤ N) (hk : k ∈ kinds) (hb : b ∈ boards) (H : HS (num b) hs) {j : Nat} (hj : j < num b) (m : MH) : callD PP N 36 [gm k b, tN hs, .int (j : Nat)] m = .ok (.int (greatL (fun i => An k b i j) hs)) m := by
  obtain ⟨N, rfl⟩ := sub_of h
  have hS := shp_hs hk hb H hj
  have hl := (partsL_len hS).2
  have hl2 := H.len
  have f := bf hb
  have f36 := f.le
  refine call_lift (d := D.d36) (m1 := []) rfl rfl rfl (by rw [pures, pure_gm hk, pures, pure_tN]; rfl) rfl ?_ m
  unfold runB D.d36
  simp only [List.map, List.length, List.replicate, List.cons_append, List.nil_append]
  rw [ss_next (e' := [some (gm k b), some (tN hs), some (.int (j : Nat)), none, none]) (m' := []) (by simp [cl6 (N := N + 5) (by omega), hk, hb])]
  rw [ss_next (e' := [some (gm k b), some (tN hs), some (.int (j : Nat)), none, none]) (m' := []) (by simp [cl32A (N := N + 5) (by omega), hk, hb, H])]
  rw [ss_next (e' := [some (gm k b), some (tN hs), some (.int (j : Nat)), none, none]) (m' := []) (by simp [cl33A (N := N + 5) (by omega), hk, hb, hj])]
  have x := x_lens (P := PP) (C := callD PP (N + 5)) (i := 3) (j := 4) (it := .call 34 [(.var 0), (.var 1), (.var 2)]) (e := [some (gm k b), some (tN hs), some (.int (j : Nat)), none, none]) (m := []) (m0 := []) (L := partsL (fun i => An k b i j) hs) (Wk.tup (by
    have e := cl34 (N := N + 5) (by omega) hk hb H hj []
    simp [e, partsV])) (by omega) (by omega) (by simp)
  have z : ((partsL (fun i => An k b i j) hs).map fun p => ((p.2.length : Nat) : Int)).length + 1 ≤ lineP := by rw [List.length_map]; unfold lineP; omega
  unfold greatL
  generalize ((partsL (fun i => An k b i j) hs).map fun p => ((p.2.length : Nat) : Int)) = Z at x z ⊢
  have z1 : 1 + Z.length ≤ lineP := by omega
  have mx := bl_max (L := 0 :: Z) (by simp)
  rw [List.map_cons] at mx
  simp only [ss_cons, st_ret, ev_def, x_bl, x_lcat, x_lst, s_cons, s_nil, x_cst, Res.bind_ok, toV_val, x, toM_tmp, List.length_singleton, List.length_map, decide_eq_true z1, guard_true, toLL_tmp, List.singleton_append, mx, ofO_some, leave]
theorem len_parts (rep : Nat → PV) (hs : List Nat) (m : MH) : biV .len [partsV rep hs] m = some (.int ((partsL rep hs).length : Nat)) := by
  show some (PV.int (((partsL rep hs).map partP).length : Nat)) = _
  rw [List.length_map]
def mostA (k : PySem.Str) (b : Int × Int) (hs : List Nat) : Int := maxL ((List.range (num b)).map fun j => (((partsL (fun i => An k b i j) hs).length : Nat) : Int))
theorem cl42 (h : 6 ≤ N) (hk : k ∈ kinds) (hb : b ∈ boards) (H : HS (num b) hs) (m : MH) : callD PP N 42 [gm k b, tN hs] m = .ok (.int (mostA k b hs)) m := by
  obtain ⟨N, rfl⟩ := sub_of h
  have f := bf hb
  have f36 := f.le
  have fp := f.pos
  refine call_lift (d := D.d42) (m1 := []) rfl rfl rfl (by rw [pures, pure_gm hk, pures, pure_tN]; rfl) rfl ?_ m
  unfold runB D.d42
  simp only [List.map, List.length, List.replicate, List.cons_append, List.nil_append]
  rw [ss_next (e' := [some (gm k b), some (tN hs), none]) (m' := []) (by simp [cl6 (N := N + 5) (by omega), hk, hb])]
  rw [ss_next (e' := [some (gm k b), some (tN hs), none]) (m' := []) (by simp [cl32A (N := N + 5) (by omega), hk, hb, H])]
  simp only [ss_cons, st_ret, ev_def, x_bl]
  rw [lcM (m0 := []) (List.range (num b)) (fun i => .int (i : Nat)) (fun j => .int ((partsL (fun i => An k b i j) hs).length : Nat)) (Wk.rngA (n := num b) (by simp [cl4 (N := N + 5) (by omega), hk, hb]) (by omega)) (by rw [List.length_range]; omega) (fun j hj => ⟨_, rfl, by
    have e := cl34 (N := N + 5) (by omega) hk hb H (List.mem_range.mp hj) []
    simp [e, len_parts]⟩)]
  have mx := bl_max (L := (List.range (num b)).map fun j => (((partsL (fun i => An k b i j) hs).length : Nat) : Int)) (by simp; omega)
  rw [List.map_map] at mx
  have mx : blV .max ((List.range (num b)).map fun j => PV.int (((partsL (fun i => An k b i j) hs).length : Nat) : Int)) = _ := mx
  simp only [Res.bind_ok, toLL_tmp, mx, ofO_some, toV_val, leave]
  rfl
/-- the asks that tell two rows apart -/
def tellL (k : PySem.Str) (b : Int × Int) (i j : Nat) : List Nat := (List.range (num b)).filter fun a => !eqv (An k b i a) (An k b j a)
theorem cl43 (h : 4 ≤ N) (hk : k ∈ kinds) (hb : b ∈ boards) {i j : Nat} (hi : i < num b) (hj : j < num b) (m : MH) : callD PP N 43 [gm k b, .int (i : Nat), .int (j : Nat)] m = .ok (tN (tellL k b i j)) m := by
  obtain ⟨N, rfl⟩ := sub_of h
  have f := bf hb
  have f36 := f.le
  refine call_lift (d := D.d43) (m1 := []) rfl rfl rfl (by rw [pures, pure_gm hk]; rfl) (pure_tN _) ?_ m
  unfold runB D.d43
  simp only [List.map, List.length, List.replicate, List.cons_append, List.nil_append, ss_cons, st_ret, ev_def, x_tof]
  rw [lcF (m0 := []) (List.range (num b)) (fun i => .int (i : Nat)) (fun a => !eqv (An k b i a) (An k b j a)) (fun i => .int (i : Nat)) (Wk.rngA (n := num b) (by simp [cl4 (N := N + 3) (by omega), hk, hb]) (by omega)) (by rw [List.length_range]; omega) (fun a ha => ⟨_, rfl, by
    have ha := List.mem_range.mp ha
    simp [cl16A (N := N + 3) (by omega), hk, hb, hi, hj, ha, ne_I, isI_An]
    cases eqv (An k b i a) (An k b j a) <;> simp, fun _ => by simp⟩)]
  rfl
theorem cl44 (h : 6 ≤ N) (hk : k ∈ kinds) (hb : b ∈ boards) {i j : Nat} (hi : i < num b) (hj : j < num b) (m : MH) : callD PP N 44 [gm k b, .int (i : Nat), .int (j : Nat)] m = .ok (tN (tellL k b i j)) m := by
  obtain ⟨N, rfl⟩ := sub_of h
  refine call_lift (d := D.d44) (m1 := []) rfl rfl rfl (by rw [pures, pure_gm hk]; rfl) (pure_tN _) ?_ m
  simp [runB, D.d44, ss_cons, leave, cl6 (N := N + 5) (by omega), cl33A (N := N + 5) (by omega), cl43 (N := N + 5) (by omega), hk, hb, hi, hj]
/-- the first two rows that no ask tells apart -/
def untold (k : PySem.Str) (b : Int × Int) (hs : List Nat) : Option (Nat × Nat) := (pairs hs).find? fun p => (tellL k b p.1 p.2).length == 0
def untoldV (k : PySem.Str) (b : Int × Int) (hs : List Nat) : PV := match untold k b hs with
  | some p => pv2 p
  | none => .non
theorem cl46 (h : 5 ≤ N) (hk : k ∈ kinds) (hb : b ∈ boards) (H : HS (num b) hs) (m : MH) : callD PP N 46 [gm k b, tN hs] m = .ok (untoldV k b hs) m := by
  obtain ⟨N, rfl⟩ := sub_of h
  have f := bf hb
  have f36 := f.le
  have hl := H.len
  refine call_lift (d := D.d46) (m1 := []) rfl rfl rfl (by rw [pures, pure_gm hk, pures, pure_tN]; rfl) (by unfold untoldV; split <;> rfl) ?_ m
  unfold runB D.d46
  simp only [List.map, List.length, List.replicate, List.cons_append, List.nil_append]
  let g : Nat × Nat → Option PV := fun z => (((hs.drop (z.2 + 1)).map fun c => (z.1, c)).find? fun p => (tellL k b p.1 p.2).length == 0).map pv2
  have hg : hs.zipIdx.findSome? g = (untold k b hs).map pv2 := by
    unfold untold
    have e := pairs_zip hs hs [] rfl
    rw [List.length_nil] at e
    rw [← e, List.find?_flatMap, List.map_findSome?]
    rfl
  obtain ⟨h1, h2⟩ := forF (P := PP) (C := callD PP (N + 4)) (tg := .two 2 3) (it := .enu (.var 1)) (b := [.for (.one 4) (.slc (.var 1) (some (.bin .add (.var 2) (.cst (.int 1)))) none) [.ife (.cmp .eq (.bi .len [(.call 43 [(.var 0), (.var 3), (.var 4)])]) (.cst (.int 0))) [.ret (.tup [(.var 3), (.var 4)])] []]])
    (e := [some (gm k b), some (tN hs), none, none, none]) (m := []) (m0 := []) hs.zipIdx (fun p => PV.tup [.int (p.2 : Nat), .int (p.1 : Nat)]) g (fun e => ∃ s2 s3 s4, e = [some (gm k b), some (tN hs), s2, s3, s4]) (Wk.its (by
      have t : toL (.val (tN hs)) [] = .ok (hs.map fun i => PV.int (i : Nat)) [] := rfl
      have kd : kindX (.val (tN hs)) [] = some false := rfl
      simp [t, kd, enum_map]
      rfl)) ⟨none, none, none, rfl⟩ (by
      intro z hz e ⟨s2, s3, s4, he⟩
      subst he
      obtain ⟨i, q⟩ := z
      have hi : i ∈ hs := by
        have := List.mem_zipIdx hz
        obtain ⟨_, _, e⟩ := this
        rw [e]
        exact List.getElem_mem _
      obtain ⟨k1, k2⟩ := forF (P := PP) (C := callD PP (N + 4)) (tg := .one 4) (it := .slc (.var 1) (some (.bin .add (.var 2) (.cst (.int 1)))) none) (b := [.ife (.cmp .eq (.bi .len [(.call 43 [(.var 0), (.var 3), (.var 4)])]) (.cst (.int 0))) [.ret (.tup [(.var 3), (.var 4)])] []])
        (e := [some (gm k b), some (tN hs), some (.int (q : Nat)), some (.int (i : Nat)), s4]) (m := []) (m0 := []) (hs.drop (q + 1)) (fun i => .int (i : Nat)) (fun c => if (tellL k b i c).length == 0 then some (pv2 (i, c)) else none) (fun e => ∃ s4, e = [some (gm k b), some (tN hs), some (.int (q : Nat)), some (.int (i : Nat)), s4]) (Wk.tup (by
          have e1 : (q : Int) + 1 = ((q + 1 : Nat) : Int) := by omega
          have e2 : slcV (tN hs) (some ((q + 1 : Nat) : Int)) none [] = some (.tup ((hs.drop (q + 1)).map fun i => PV.int (i : Nat))) := by
            show some (PV.tup (cut (hs.map _) (some ((q + 1 : Nat) : Int)) none)) = _
            rw [cutD, List.map_drop]
          simp only [x_slc, x_var, List.getElem?_cons_zero, List.getElem?_cons_succ, Res.bind_ok, toV_val, o_some, o_none, x_bin, x_cst, bin_addI, e1, e2, ofO_some])) ⟨s4, rfl⟩ (by
          intro c hc e ⟨s4, he⟩
          subst he
          have hc : c ∈ hs := List.mem_of_mem_drop hc
          have e := cl43 (N := N + 4) (by omega) hk hb (H.lt i hi) (H.lt c hc) []
          refine ⟨[some (gm k b), some (tN hs), some (.int (q : Nat)), some (.int (i : Nat)), some (.int (c : Nat))], rfl, fun v hv => ?_, fun hv => ?_⟩
          · by_cases z : (tellL k b i c).length = 0
            · rw [if_pos (by simpa using z)] at hv
              cases hv
              simp [ss_cons, e, lenN, z, pv2]
            · rw [if_neg (by simpa using z)] at hv
              cases hv
          · by_cases z : (tellL k b i c).length = 0
            · rw [if_pos (by simpa using z)] at hv
              cases hv
            · have z' : ¬ (((tellL k b i c).length : Nat) : Int) = 0 := by omega
              exact ⟨_, by simp [ss_cons, e, lenN, z]; rfl, ⟨_, rfl⟩⟩)
      have gg : g (i, q) = (hs.drop (q + 1)).findSome? fun c => if (tellL k b i c).length == 0 then some (pv2 (i, c)) else none := by
        show Option.map pv2 (List.find? _ (List.map _ _)) = _
        rw [List.find?_map]
        generalize hs.drop (q + 1) = L
        induction L with
        | nil => rfl
        | cons c L ih =>
          rw [List.find?_cons, List.findSome?_cons]
          simp only [Function.comp]
          cases (tellL k b i c).length == 0 with
          | true => rfl
          | false => exact ih
      refine ⟨_, rfl, fun v hv => ?_, fun hv => ?_⟩
      · rw [gg] at hv
        exact ss_ret (k1 v hv)
      · rw [gg] at hv
        obtain ⟨e2, k3, s4, rfl⟩ := k2 hv
        exact ⟨_, (ss_next k3).trans (ss_nil _ _), ⟨_, _, _, rfl⟩⟩)
  rw [hg] at h1 h2
  unfold untoldV
  cases hu : untold k b hs with
  | some p =>
    rw [ss_ret (h1 (pv2 p) (by rw [hu]; rfl))]
    rfl
  | none =>
    obtain ⟨e2, h3, _⟩ := h2 (by rw [hu]; rfl)
    rw [ss_next h3]
    simp [ss_cons, leave]
theorem cl45 (h : 6 ≤ N) (hk : k ∈ kinds) (hb : b ∈ boards) (H : HS (num b) hs) (m : MH) : callD PP N 45 [gm k b, tN hs] m = .ok (.bl (untold k b hs).isNone) m := by
  obtain ⟨N, rfl⟩ := sub_of h
  refine call_lift (d := D.d45) (m1 := []) rfl rfl rfl (by rw [pures, pure_gm hk, pures, pure_tN]; rfl) rfl ?_ m
  have e : cmpV .isn (untoldV k b hs) .non [] = some (untold k b hs).isNone := by
    unfold untoldV
    cases untold k b hs <;> rfl
  simp [runB, D.d45, ss_cons, leave, cl6 (N := N + 5) (by omega), cl32A (N := N + 5) (by omega), cl46 (N := N + 5) (by omega), hk, hb, H, e]
end
end Mi
end

section
set_option autoImplicit false
set_option maxRecDepth 100000
set_option maxHeartbeats 1000000
set_option linter.all false
namespace Mi
section
variable {N n : Nat} {hs : List Nat} {k : PySem.Str} {b : Int × Int}
theorem zip_same {α : Type} (φ ψ : α → PV) : ∀ L : List α, List.zipWith (fun u v => PV.tup [u, v]) (L.map φ) (L.map ψ) = L.map fun i => PV.tup [φ i, ψ i]
  | [] => rfl
  | a :: L => by rw [List.map_cons, List.map_cons, List.zipWith_cons_cons, zip_same φ ψ L]; rfl
theorem mem_rwB (hb : b ∈ boards) {i : Nat} (hi : i < num b) : rwB b i ∈ rowsB b := List.mem_of_getElem? (row_ex hb hi)
theorem cl25A (h : 2 ≤ N) (hb : b ∈ boards) {k2 : PySem.Str} (hk2 : k2 ∈ kinds) {i j : Nat} (hi : i < num b) (hj : j < num b) (m : MH) : callD PP N 25 [.str k2, tt (rwB b i), tt (rwB b j)] m = .ok (An k2 b i j) m := cl25 h hk2 hb (mem_rwB hb hi) (mem_rwB hb hj) m
/-- row i of the law's list -/
theorem idx_rows (hb : b ∈ boards) {m : MH} {l i : Nat} (hm : m[l]? = some (.lst ((rowsB b).map tt))) (hi : i < num b) : idxV (.loc l) (.int (i : Nat)) m = some (tt (rwB b i)) := by
  rw [idxl_list hm, ix_nat _ _ (by rw [List.length_map, (bf hb).len]; exact hi)]
  show ((rowsB b).map tt)[i]? = _
  rw [List.getElem?_map, row_ex hb hi]
  rfl
theorem oldOk_more (m t : MH) : oldOk m (m ++ t) = true := oldOk_app m t
theorem cl52 (h : 3 ≤ N) (hk : k ∈ kinds) (hb : b ∈ boards) (H : HS (num b) hs) {j : Nat} (hj : j < num b) {m : MH} {l : Nat} (hm : m[l]? = some (.lst ((rowsB b).map tt))) : callD PP N 52 [gm k b, .loc l, tN hs, .int (j : Nat)] m = .ok (partsV (fun i => An k b i j) hs) m := by
  obtain ⟨N, rfl⟩ := sub_of h
  have f := bf hb
  have f36 := f.le
  have hl := H.len
  have hS := shp_hs hk hb H hj
  rw [call_raw (d := D.d52) rfl rfl (by simp [pures, pure_gm hk, pure])]
  unfold runB D.d52
  simp only [List.map, List.length, List.replicate, List.cons_append, List.nil_append]
  have hlt : l < m.length := (List.getElem?_eq_some_iff.mp hm).1
  have up : ∀ t : MH, (m ++ t)[l]? = some (.lst ((rowsB b).map tt)) := fun t => by rw [List.getElem?_append_left hlt]; exact hm
  have q1 : evX PP (callD PP (N + 2)) (.lcm [7] (.one 7) (.var 2) [] (.call 25 [(.idx (.var 0) (.cst (.int 0))), (.idx (.var 1) (.var 7)), (.idx (.var 1) (.var 3))])) [some (gm k b), some (.loc l), some (tN hs), some (.int (j : Nat)), none, none, none, none, none] m = .ok (.tmp (hs.map fun i => An k b i j)) m :=
    lcM hs (fun i => .int (i : Nat)) (fun i => An k b i j) (Wk.nats (by simp)) (by omega) (fun i hi => ⟨_, rfl, by
      simp [idx_rows hb hm (H.lt i hi), idx_rows hb hm hj, cl25A (N := N + 2) (by omega) hb hk (H.lt i hi) hj]⟩)
  rw [ss_next (e' := [some (gm k b), some (.loc l), some (tN hs), some (.int (j : Nat)), some (.loc m.length), none, none, none, none]) (m' := m ++ [.lst (hs.map fun i => An k b i j)]) (by simp [q1])]
  rw [ss_next (e' := [some (gm k b), some (.loc l), some (tN hs), some (.int (j : Nat)), some (.loc m.length), some (.loc (m.length + 1)), none, none, none]) (m' := m ++ [.lst (hs.map fun i => An k b i j), .lst []]) (by simp)]
  generalize hR : (hs.map fun i => An k b i j) = R
  have kk : ∀ v ∈ R, Shp (isBoth k) v := fun v hv => by
    rw [← hR] at hv
    obtain ⟨i, hi, rfl⟩ := List.mem_map.mp hv
    exact hS i hi
  obtain ⟨so, sp⟩ := srtK_some kk
  have hRl : R.length ≤ 36 := by rw [← hR, List.length_map]; omega
  have dl : (dedup R []).length < 63 := by have := dedup_len R []; simp at this; omega
  have Rat : ∀ t : MH, (m ++ (.lst R :: t))[m.length]? = some (.lst R) := fun t => by rw [at_app0]; rfl
  have sl : (srtK R).length ≤ 36 := by have := keysP_len R; rw [sp.length_eq]; omega
  obtain ⟨e', m', h1, ⟨s6, h2⟩, h3⟩ := forT (P := PP) (C := callD PP (N + 2)) (tg := .one 6) (it := .srs (.var 4)) (b := [.exp (.mt .append (.var 5) [(.tup [(.var 6), (.tof (.lcm [7, 8] (.two 7 8) (.zip (.var 2) (.var 4)) [(.cmp .eq (.var 8) (.var 6))] (.var 7)))])])])
    (e := [some (gm k b), some (.loc l), some (tN hs), some (.int (j : Nat)), some (.loc m.length), some (.loc (m.length + 1)), none, none, none]) (m := m ++ [.lst R, .lst []]) (m0 := m ++ [.lst R, .lst []]) (srtK R) id
    (fun pre e m' => (∃ s6, e = [some (gm k b), some (.loc l), some (tN hs), some (.int (j : Nat)), some (.loc m.length), some (.loc (m.length + 1)), s6, none, none]) ∧ m' = m ++ [.lst R, .lst (pre.map fun v => partP (v, partL (fun i => An k b i j) hs v))]) (x := .tmp (srtK R)) (by
      have so' : sortP (dedup R []) = some (srtK R) := so
      simp [toL_loc (Rat _), kind_loc (Rat _), setOk_shp kk, dl, so']) (by rw [List.map_id]; rfl) rfl ⟨⟨none, rfl⟩, rfl⟩ (by
      intro pre v rest hL e m' ⟨⟨s6, he⟩, hm'⟩
      subst he hm'
      have hv : v ∈ R := mem_keys.mp (sp.mem_iff.mp (by rw [hL]; simp))
      have Iv := (kk v hv).isI
      have key : evX PP (callD PP (N + 2)) (.lcm [7, 8] (.two 7 8) (.zip (.var 2) (.var 4)) [(.cmp .eq (.var 8) (.var 6))] (.var 7)) [some (gm k b), some (.loc l), some (tN hs), some (.int (j : Nat)), some (.loc m.length), some (.loc (m.length + 1)), some v, none, none] (m ++ [.lst R, .lst (pre.map fun v => partP (v, partL (fun i => An k b i j) hs v))]) = .ok (.tmp ((partL (fun i => An k b i j) hs v).map fun i => PV.int (i : Nat))) (m ++ [.lst R, .lst (pre.map fun v => partP (v, partL (fun i => An k b i j) hs v))]) := by
        refine lcF hs (fun i => PV.tup [.int (i : Nat), An k b i j]) (fun i => eqv (An k b i j) v) (fun i => .int (i : Nat)) ⟨.its [(m.length, R)] (List.zipWith (fun u v => PV.tup [u, v]) (hs.map fun i => PV.int (i : Nat)) R), ?_, ?_, ?_⟩ (by omega) (fun i hi => ⟨_, rfl, by
          simp [eq_I (isI_An k b i j) Iv]; cases eqv (An k b i j) v <;> rfl, fun _ => by simp⟩)
        · have t : ∀ m, toL (.val (tN hs)) m = .ok (hs.map fun i => PV.int (i : Nat)) m := fun m => rfl
          have kd : ∀ m, kindX (.val (tN hs)) m = some false := fun m => rfl
          have sr : ∀ m, srcOf (.val (tN hs)) m = [] := fun m => rfl
          simp [t, toL_loc (Rat _), sameK, kd, kind_loc (Rat _), sr, src_loc (Rat _)]
        · rw [← hR, zip_same]
          rfl
        · exact srcOk_loc (Rat _)
      have hr : recvOk .append (.loc (m.length + 1)) (m ++ [.lst R, .lst (pre.map fun v => partP (v, partL (fun i => An k b i j) hs v))]) = true := by
        show (listAt _ _).isSome = true
        unfold listAt
        rw [at_app]
        rfl
      have pl : pre.length < 37 := by
        have := congrArg List.length hL
        rw [List.length_append] at this
        omega
      have ha : mtV .append (.loc (m.length + 1)) [partP (v, partL (fun i => An k b i j) hs v)] (m ++ [.lst R, .lst (pre.map fun v => partP (v, partL (fun i => An k b i j) hs v))]) = .ok .non (m ++ [.lst R, .lst ((pre ++ [v]).map fun v => partP (v, partL (fun i => An k b i j) hs v))]) := by
        have w : wlistAt (m ++ [.lst R, .lst (pre.map fun v => partP (v, partL (fun i => An k b i j) hs v))]) (m.length + 1) = some (pre.map fun v => partP (v, partL (fun i => An k b i j) hs v)) := by
          unfold wlistAt
          rw [at_app]
          rfl
        simp only [mtV, appV, w]
        rw [guard_of (decide_eq_true (by rw [List.length_map]; unfold lineP; omega)), set_app, List.map_append]
        rfl
      refine ⟨_, _, _, rfl, ?_, ⟨some v, rfl⟩, rfl⟩
      have ha2 : mtV .append (.loc (m.length + 1)) [.tup [v, .tup ((partL (fun i => An k b i j) hs v).map fun i => PV.int (i : Nat))]] (m ++ [.lst R, .lst (pre.map fun v => partP (v, partL (fun i => An k b i j) hs v))]) = _ := ha
      simp only [id, ss_cons, st_exp, x_mt, x_var, List.getElem?_cons_zero, List.getElem?_cons_succ, List.set_cons_zero, List.set_cons_succ, Res.bind_ok, toV_val, hr, guard_true, s_cons, s_nil, x_tup, x_tof, key, toC_tmp, ha2, ss_nil])
  rw [ss_next h1, h2, h3]
  have t5 : toC (.val (.loc (m.length + 1))) (m ++ [.lst R, .lst ((srtK R).map fun v => partP (v, partL (fun i => An k b i j) hs v))]) = .ok ((srtK R).map fun v => partP (v, partL (fun i => An k b i j) hs v)) (m ++ [.lst R, .lst ((srtK R).map fun v => partP (v, partL (fun i => An k b i j) hs v))]) := toC_loc (by rw [at_app]; rfl)
  simp only [ss_cons, st_ret, ev_def, x_tof, x_var, List.getElem?_cons_zero, List.getElem?_cons_succ, Res.bind_ok, toV_val, t5]
  have hp := pure_parts hS
  unfold partsV partsL at hp ⊢
  rw [hR, List.map_map] at hp ⊢
  show guard (pure (.tup _) && oldOk m (m ++ _)) (Res.ok _ ((m ++ _).take m.length)) = _
  rw [oldOk_app, List.take_left, Bool.and_true]
  exact guard_of hp _
theorem count_part (rep : Nat → PV) : ∀ (ks : List PV), ks.Nodup → (∀ v ∈ ks, isI v = true) → ∀ hs : List Nat, (∀ i ∈ hs, isI (rep i) = true ∧ rep i ∈ ks) → (ks.map fun v => (partL rep hs v).length).foldl (· + ·) 0 = hs.length := by
  intro ks hn hi hs
  have e : ∀ (L : List Nat) (a : Nat), L.foldl (· + ·) a = a + L.foldl (· + ·) 0 := by
    intro L
    induction L with
    | nil => intro a; rfl
    | cons x L ih => intro a; rw [List.foldl_cons, List.foldl_cons, ih, ih (0 + x)]; omega
  induction hs with
  | nil =>
    intro hx
    clear hx
    show _ = 0
    have : ks.map (fun v => (partL rep [] v).length) = ks.map fun _ => 0 := rfl
    rw [this]
    clear this hi hn
    induction ks with
    | nil => rfl
    | cons x L ih => rw [List.map_cons, List.foldl_cons]; exact ih
  | cons i hs ih =>
    intro h
    have ih2 := ih fun j hj => h j (List.mem_cons_of_mem _ hj)
    obtain ⟨h1, h2⟩ := h i List.mem_cons_self
    rw [List.length_cons, ← ih2]
    clear ih ih2
    have st : ∀ v, (partL rep (i :: hs) v).length = (partL rep hs v).length + if eqv (rep i) v then 1 else 0 := fun v => by
      unfold partL
      rw [List.filter_cons]
      split <;> simp
    rw [List.map_congr_left fun v _ => st v]
    clear st h
    induction ks with
    | nil => cases h2
    | cons x L ih =>
      rw [List.nodup_cons] at hn
      rw [List.map_cons, List.map_cons, List.foldl_cons, List.foldl_cons, e, e (L.map fun v => (partL rep hs v).length)]
      by_cases c : rep i = x
      · have z : ∀ v ∈ L, eqv (rep i) v = false := fun v hv => by
          rw [Bool.eq_false_iff]
          intro q
          have := (eqv_is h1 (hi v (List.mem_cons_of_mem _ hv))).mp q
          exact hn.1 (c ▸ this ▸ hv)
        rw [show eqv (rep i) x = true from (eqv_is h1 (hi x List.mem_cons_self)).mpr c]
        rw [List.map_congr_left fun v hv => show (partL rep hs v).length + (if eqv (rep i) v = true then 1 else 0) = (partL rep hs v).length by rw [z v hv]; rfl]
        simp
        omega
      · have z : eqv (rep i) x = false := by
          rw [Bool.eq_false_iff]
          exact fun q => c ((eqv_is h1 (hi x List.mem_cons_self)).mp q)
        have h2 : rep i ∈ L := by
          rcases List.mem_cons.mp h2 with q | q
          · exact absurd q c
          · exact q
        have := ih hn.2 (fun v hv => hi v (List.mem_cons_of_mem _ hv)) h2
        rw [z]
        simp at this ⊢
        omega
theorem sum_parts {rep : Nat → PV} {t : Bool} (h : ∀ i ∈ hs, Shp t (rep i)) : ((partsL rep hs).map fun p => ((p.2.length : Nat) : Int)).foldl (fun x y : Int => x + y) 0 = ((hs.length : Nat) : Int) := by
  have hL : ∀ v ∈ hs.map rep, Shp t v := fun v hv => by
    obtain ⟨i, hi, rfl⟩ := List.mem_map.mp hv
    exact h i hi
  obtain ⟨_, sp⟩ := srtK_some hL
  have hm : ∀ v, v ∈ srtK (hs.map rep) ↔ v ∈ hs.map rep := fun v => sp.mem_iff.trans mem_keys
  have z := count_part rep (srtK (hs.map rep)) (sp.nodup_iff.mpr (nodup_keys _)) (fun v hv => (hL v ((hm v).mp hv)).isI) hs fun i hi => ⟨(h i hi).isI, (hm _).mpr (List.mem_map.mpr ⟨i, hi, rfl⟩)⟩
  rw [← z]
  unfold partsL
  rw [List.map_map]
  generalize srtK (hs.map rep) = L
  have e : ∀ (L : List PV) (a : Nat), (L.map ((fun (p : PV × List Nat) => ((p.2.length : Nat) : Int)) ∘ fun v => (v, partL rep hs v))).foldl (fun x y : Int => x + y) ((a : Nat) : Int) = ((((L.map fun v => (partL rep hs v).length).foldl (fun x y : Nat => x + y) a) : Nat) : Int) := by
    intro L
    induction L with
    | nil => intro a; rfl
    | cons x L ih =>
      intro a
      rw [List.map_cons, List.map_cons, List.foldl_cons, List.foldl_cons, ← ih]
      rfl
  exact e L 0
/-- the part of a reply that a row gives -/
theorem find_part {rep : Nat → PV} {t : Bool} (h : ∀ i ∈ hs, Shp t (rep i)) {r : Nat} (hr : r ∈ hs) : ((partsL rep hs).filter fun p => eqv p.1 (rep r)) = [(rep r, partL rep hs (rep r))] := by
  have hL : ∀ v ∈ hs.map rep, Shp t v := fun v hv => by
    obtain ⟨i, hi, rfl⟩ := List.mem_map.mp hv
    exact h i hi
  obtain ⟨_, sp⟩ := srtK_some hL
  have hm : ∀ v, v ∈ srtK (hs.map rep) ↔ v ∈ hs.map rep := fun v => sp.mem_iff.trans mem_keys
  have nd : (srtK (hs.map rep)).Nodup := sp.nodup_iff.mpr (nodup_keys _)
  unfold partsL
  rw [List.filter_map]
  have hin := (hm (rep r)).mpr (List.mem_map.mpr ⟨r, hr, rfl⟩)
  have iI : ∀ v ∈ srtK (hs.map rep), isI v = true := fun v hv => (hL v ((hm v).mp hv)).isI
  have rI := (h r hr).isI
  have e : (srtK (hs.map rep)).filter (fun v => eqv v (rep r)) = [rep r] := by
    revert hin nd iI
    generalize srtK (hs.map rep) = L
    intro nd hin iI
    induction L with
    | nil => cases hin
    | cons x L ih =>
      rw [List.nodup_cons] at nd
      rw [List.filter_cons]
      by_cases c : x = rep r
      · subst c
        rw [if_pos (show eqv (rep r) (rep r) = true from (isI_eqv rI).1)]
        congr 1
        rw [List.filter_eq_nil_iff]
        intro v hv q
        have := (eqv_is (iI v (List.mem_cons_of_mem _ hv)) rI).mp q
        exact nd.1 (this ▸ hv)
      · rw [if_neg fun q => c ((eqv_is (iI x List.mem_cons_self) rI).mp q)]
        refine ih nd.2 ?_ fun v hv => iI v (List.mem_cons_of_mem _ hv)
        rcases List.mem_cons.mp hin with q | q
        · exact absurd q.symm c
        · exact q
  exact congrArg (List.map fun v => (v, partL rep hs v)) e
end
end Mi
end

section
set_option autoImplicit false
set_option maxRecDepth 100000
set_option linter.all false
namespace Mi
section
variable {P : Prog} {C : Nat → List PV → MH → Res PV} {nv : Nat} {ns : List Int}
/-- the statements end as a turn shall -/
def Gd (nv : Nat) (ns : List Int) (r : Res Flow) : Prop := ∃ e2 m2, r = .ok (.next e2) m2 ∧ Kp nv ns e2
theorem Gd.nil {e : Env} {m : MH} (K : Kp nv ns e) : Gd nv ns (execs P C [] e m) := ⟨e, m, ss_nil _ _, K⟩
theorem Gd.set {i : Nat} {a : Ex} {r : List St} {e : Env} {m m' : MH} {v : PV} (h : (evX P C a e m).bind toV = .ok v m') (g : Gd nv ns (execs P C r (e.set i (some v)) m')) : Gd nv ns (execs P C (.set i a :: r) e m) := by
  rw [ss_next (by rw [st_set, ev_def, h]; rfl)]
  exact g
theorem Gd.chk {c : Ex} {a r : List St} {e : Env} {m m' : MH} (h : (evX P C c e m).bind toV = .ok (.bl false) m') (g : Gd nv ns (execs P C r e m')) : Gd nv ns (execs P C (.ife c a [] :: r) e m) := by
  rw [ss_next (e' := e) (m' := m') (by rw [st_ife, ev_def, h, asB_ok]; simp)]
  exact g
theorem Gd.yes {c : Ex} {a b r : List St} {e e' : Env} {m m' m2 : MH} (h : (evX P C c e m).bind toV = .ok (.bl true) m') (h2 : execs P C a e m' = .ok (.next e') m2) (g : Gd nv ns (execs P C r e' m2)) : Gd nv ns (execs P C (.ife c a b :: r) e m) := by
  rw [ss_next (e' := e') (m' := m2) (by rw [st_ife, ev_def, h, asB_ok]; simpa using h2)]
  exact g
theorem Gd.no {c : Ex} {a b r : List St} {e e' : Env} {m m' m2 : MH} (h : (evX P C c e m).bind toV = .ok (.bl false) m') (h2 : execs P C b e m' = .ok (.next e') m2) (g : Gd nv ns (execs P C r e' m2)) : Gd nv ns (execs P C (.ife c a b :: r) e m) := by
  rw [ss_next (e' := e') (m' := m2) (by rw [st_ife, ev_def, h, asB_ok]; simpa using h2)]
  exact g
theorem Gd.par {is : List Nat} {es : List Ex} {r : List St} {e e' : Env} {m m' : MH} {vs : List PV} (h : evs P C es e m = .ok vs m') (h2 : unpack is vs e = some e') (g : Gd nv ns (execs P C r e' m')) : Gd nv ns (execs P C (.par is es :: r) e m) := by
  rw [ss_next (by rw [st_par, h, Res.bind_ok, h2]; rfl)]
  exact g
theorem Gd.unp {is : List Nat} {a : Ex} {r : List St} {e e' : Env} {m m' : MH} {vs : List PV} (h : (evX P C a e m).bind toV = .ok (.tup vs) m') (h2 : unpack is vs e = some e') (g : Gd nv ns (execs P C r e' m')) : Gd nv ns (execs P C (.unp is a :: r) e m) := by
  rw [ss_next (e' := e') (m' := m') (by rw [st_unp, ev_def, h]; show (ofO (unpack is vs e) m').bind _ = _; rw [h2]; rfl)]
  exact g
theorem Gd.stp {s : St} {r : List St} {e e' : Env} {m m' : MH} (h : exec P C s e m = .ok (.next e') m') (g : Gd nv ns (execs P C r e' m')) : Gd nv ns (execs P C (s :: r) e m) := by
  rw [ss_next h]
  exact g
@[simp] theorem env_get (e : Env) (i j : Nat) (v : Option PV) : (List.set e i v)[j]? = if i = j then (if i < e.length then some v else none) else e[j]? := List.getElem?_set
@[simp] theorem listAt_app (m t : MH) (j : Nat) : listAt (m ++ t) (m.length + j) = listAt t j := by unfold listAt; rw [at_app]
@[simp] theorem wlistAt_app (m t : MH) (j : Nat) : wlistAt (m ++ t) (m.length + j) = wlistAt t j := by unfold wlistAt; rw [at_app]
@[simp] theorem dictAt_app (m t : MH) (j : Nat) : dictAt (m ++ t) (m.length + j) = dictAt t j := by unfold dictAt; rw [at_app]
/-- the length of a list that is laid behind -/
theorem len_at (m t : MH) (j : Nat) : biV .len [.loc (m.length + j)] (m ++ t) = (match t[j]? with
    | some (.lst xs) => some (.int (xs.length : Nat))
    | _ => none) := by
  show (lenV (.loc (m.length + j)) (m ++ t)).map _ = _
  unfold lenV
  simp only [at_app]
  rcases h : t[j]? with _ | o
  · rfl
  · cases o <;> rfl
end
section
variable {N : Nat} {m t : MH} {a b : Int} {c : Nat}
theorem setH (h : 2 ≤ N) {n least : Nat} (hc : c < 800000) (hn : 1 ≤ n) (hn2 : n ≤ 100) (hle : least ≤ 100) :
    ∃ (hs : List Nat) (a' b' : Int) (c' : Nat), HS n hs ∧ min least n ≤ hs.length ∧ c' ≤ c + 300 ∧ ∀ T L : Int, T = (n : Nat) → L = (least : Nat) → callD PP N 51 [.loc m.length, .int T, .int L] (m ++ d3 a b c :: t) = .ok (tN hs) (m ++ d3 a' b' (c' : Nat) :: t) := by
  obtain ⟨hs, a', b', c', q1, q2, q3, q4, e⟩ := cl51 h (m0 := m ++ d3 a b c :: t) (l := m.length) (a := a) (b := b) (c := c) (n := n) (least := least) (by simp) (by omega) (by omega) hn hn2 hle
  obtain ⟨j, rfl⟩ : ∃ i : Nat, c' = i := ⟨c'.toNat, by omega⟩
  rw [set_app0] at e
  exact ⟨hs, a', b', j, q1, q2, by omega, fun T L hT hL => by subst hT hL; exact e⟩
/-- a list of drawn numbers -/
theorem rollsH {own : List Nat} {i w : Nat} {it a0 : Ex} {e : Env} {n q : Nat} {a1 b1 : Int} {c1 : Nat} {m0 : MH} (hN : 1 ≤ N) (hn : 0 < n) (hn2 : n < 1000000) (hq : q ≤ 1000) (hc : c1 + q < 800000)
    (hit : evX PP (callD PP N) it e m0 = .ok (.val (.rng 0 (q : Nat))) (m ++ d3 a1 b1 c1 :: t))
    (h : ∀ (z : Nat) (a b : Int) (c r : Nat) (a' b' : Int) (c' : Nat), callD PP N 19 [.loc m.length, .int (n : Nat)] (m ++ d3 a b c :: t) = .ok (.int (r : Nat)) (m ++ d3 a' b' c' :: t) → (evX PP (callD PP N) a0 ((wipe own e).set i (some (.int (z : Nat)))) (m ++ d3 a b c :: t)).bind toV = .ok (.int (r : Nat)) (m ++ d3 a' b' c' :: t)) :
    ∃ (L : List Nat) (a' b' : Int) (c' : Nat), L.length = q ∧ (∀ x ∈ L, x < n) ∧ c' ≤ c1 + q ∧ evX PP (callD PP N) (.lcm own (.one i) it [] a0) e m0 = .ok (.tmp (natV L)) (m ++ d3 a' b' c' :: t) := by
  obtain ⟨ys, m', h6, L, a', b', c', q1, q3, q4, q5, q6⟩ := lcm_eff (P := PP) (C := callD PP N) (m := m0) (m0 := (m ++ d3 a1 b1 c1 :: t)) (own := own) (tg := .one i) (it := it) (cs := []) (a := a0) (e := e) (x := .val (.rng 0 (q : Nat)))
    (List.range q) (fun z => .int (z : Nat)) (fun z => (wipe own e).set i (some (.int (z : Nat)))) (fun pre acc m' => ∃ (L : List Nat) (a'' b'' : Int) (c'' : Nat), m' = m ++ d3 a'' b'' c'' :: t ∧ c'' ≤ c1 + pre.length ∧ acc = natV L ∧ (∀ j ∈ L, j < n) ∧ L.length = pre.length) hit (toL_rng _ (by omega) _) (fun _ _ _ _ => rfl) ⟨[], a1, b1, c1, rfl, by simp, rfl, (fun j hj => by cases hj), rfl⟩ (fun z _ => rfl) (by
      intro pre z rest acc m' hL ⟨L, a2, b2, c2, e1, e3, e4, e5, e6⟩
      subst e1
      have hpl : pre.length < q := by
        have := congrArg List.length hL
        rw [List.length_range, List.length_append, List.length_cons] at this
        omega
      obtain ⟨r, c3, a3, b3, y1, y3, y4⟩ := rollH (N := N) hN (m := m) (t := t) (a := a2) (b := b2) (c := c2) (tot := n) hn hn2 (by omega)
      refine .inl ⟨_, m ++ d3 a3 b3 c3 :: t, .int (r : Nat), c_nil _ _, h z a2 b2 c2 r a3 b3 c3 (y4 _ rfl), by rw [e4]; unfold natV lineP; rw [List.length_map]; omega, L ++ [r], a3, b3, c3, rfl, ?_, ?_, ?_, ?_⟩
      · rw [List.length_append, List.length_singleton]; omega
      · rw [e4]; unfold natV; rw [List.map_append]; rfl
      · intro j hj
        rcases List.mem_append.mp hj with hj | hj
        · exact e5 j hj
        · rw [List.mem_singleton.mp hj]; exact y1
      · rw [List.length_append, List.length_append, e6]; rfl)
  rw [List.length_range] at q3 q6
  exact ⟨L, a', b', c', q6, q5, q3, by rw [h6, q1, q4]⟩
end
end Mi
end

section
set_option autoImplicit false
set_option maxRecDepth 100000
set_option maxHeartbeats 1000000
set_option linter.all false
namespace Mi
theorem rOk_le {c d : Int} (h : c ≤ d) {v : PV} (hv : rOk c v = true) : rOk d v = true := by
  unfold rOk at hv ⊢
  split at hv
  · simp only [Bool.and_eq_true, decide_eq_true_eq] at hv ⊢
    omega
  · simp only [Bool.and_eq_true, decide_eq_true_eq] at hv ⊢
    omega
  · cases hv
theorem rise_eq : ∀ (l m : List Nat), l.Pairwise (· < ·) → m.Pairwise (· < ·) → (∀ i, i ∈ l ↔ i ∈ m) → l = m
  | [], [], _, _, _ => rfl
  | [], y :: m, _, _, h => by have := (h y).mpr List.mem_cons_self; cases this
  | x :: l, [], _, _, h => by have := (h x).mp List.mem_cons_self; cases this
  | x :: l, y :: m, h1, h2, h => by
    rw [List.pairwise_cons] at h1 h2
    have e : x = y := by
      rcases List.mem_cons.mp ((h x).mp List.mem_cons_self) with z | z
      · exact z
      · rcases List.mem_cons.mp ((h y).mpr List.mem_cons_self) with z2 | z2
        · exact z2.symm
        · have := h2.1 x z
          have := h1.1 y z2
          omega
    subst e
    rw [rise_eq l m h1.2 h2.2 fun i => ?_]
    constructor
    · intro hi
      rcases List.mem_cons.mp ((h i).mp (List.mem_cons_of_mem _ hi)) with z | z
      · have := h1.1 i hi; omega
      · exact z
    · intro hi
      rcases List.mem_cons.mp ((h i).mpr (List.mem_cons_of_mem _ hi)) with z | z
      · have := h2.1 i hi; omega
      · exact z
section
variable {n : Nat} {hs : List Nat}
theorem only_row (H : HS n hs) {row : Nat} (hr : row ∈ hs) (p : Nat → Bool) (h1 : p row = true) (h2 : ∀ i ∈ hs, i ≠ row → p i = false) : hs.filter p = [row] := by
  refine rise_eq _ _ (H.rise.sublist List.filter_sublist) (by simp) fun i => ?_
  rw [List.mem_filter, List.mem_singleton]
  constructor
  · intro ⟨h3, h4⟩
    apply Classical.byContradiction
    intro ne
    rw [h2 i h3 ne] at h4
    cases h4
  · intro e
    subst e
    exact ⟨hr, h1⟩
theorem range_in (H : HS n hs) (p : Nat → Bool) : ((List.range n).filter p).filter (fun i => decide (i ∈ hs)) = hs.filter p := by
  have a1 : (List.range n).Pairwise (· < ·) := List.pairwise_lt_range
  have a2 : ((List.range n).filter p).Pairwise (· < ·) := a1.sublist List.filter_sublist
  have a3 : (((List.range n).filter p).filter (fun i => decide (i ∈ hs))).Pairwise (· < ·) := a2.sublist List.filter_sublist
  have a4 : (hs.filter p).Pairwise (· < ·) := H.rise.sublist List.filter_sublist
  refine rise_eq _ _ a3 a4 fun i => ?_
  rw [List.mem_filter, List.mem_filter, List.mem_filter, List.mem_range]
  constructor
  · intro ⟨⟨_, h2⟩, h3⟩
    exact ⟨by simpa using h3, h2⟩
  · intro ⟨h1, h2⟩
    exact ⟨⟨H.lt i h1, h2⟩, by simpa using h1⟩
end
theorem hv_refl {hd : Hd} (h : ∀ p ∈ hd, isI p.2 = true) (m : MH) : cmpV .ne (hv hd) (hv hd) m = some false := by
  have e : ∀ hd : Hd, (∀ p ∈ hd, isI p.2 = true) → eqvs (hd.map fun p => PV.tup [.int (p.1 : Nat), p.2]) (hd.map fun p => PV.tup [.int (p.1 : Nat), p.2]) = true ∧ depths (hd.map fun p => PV.tup [.int (p.1 : Nat), p.2]) ≤ 62 := by
    intro hd
    induction hd with
    | nil => exact fun _ => ⟨rfl, by simp [depths]⟩
    | cons p hd ih =>
      intro h
      obtain ⟨i1, i2⟩ := ih fun q hq => h q (List.mem_cons_of_mem _ hq)
      obtain ⟨j1, j2, j3⟩ := isI_eqv (h p List.mem_cons_self)
      refine ⟨?_, ?_⟩
      · rw [List.map_cons, eqvs, i1, eqv, eqvs, eqvs, j1]
        simp [eqv, eqvs]
      · rw [List.map_cons, depths, depth, depths, depths]
        have : depth (PV.int (p.1 : Nat)) = 0 := rfl
        have : depths ([] : List PV) = 0 := rfl
        omega
  have dI : ∀ v : PV, isI v = true → depth v ≤ 1 := fun v hv => by
    unfold isI at hv
    split at hv
    · simp [depth]
    · simp [depth, depths]
    · cases hv
  have d2 : ∀ hd : Hd, (∀ p ∈ hd, isI p.2 = true) → depths (hd.map fun p => PV.tup [.int (p.1 : Nat), p.2]) ≤ 2 := by
    intro hd
    induction hd with
    | nil => exact fun _ => by simp [depths]
    | cons p hd ih =>
      intro h
      have i1 := ih fun q hq => h q (List.mem_cons_of_mem _ hq)
      have j1 := dI _ (h p List.mem_cons_self)
      rw [List.map_cons, depths, depth, depths, depths]
      have : depth (PV.int (p.1 : Nat)) = 0 := rfl
      have : depths ([] : List PV) = 0 := rfl
      omega
  show (eqH m _ _).map _ = _
  rw [eqH_same (v := hv hd) (by unfold hv; rw [eqv]; exact (e hd h).1) (pures_hv hd h) (by unfold hv; rw [depth]; have := d2 hd h; omega)]
  rfl
theorem ne_tN (l : List Nat) (m : MH) : cmpV .ne (tN l) (tN l) m = some false := by rw [tN_tt]; exact ne_tt _ m
theorem in_tN (L : List Nat) (r : Nat) (m : MH) : isIn m (.int (r : Nat)) (tN L) = some (decide (r ∈ L)) := by
  show (if pure (.int (r : Nat)) && pures (natV L) && decide (depths (.int (r : Nat) :: natV L) ≤ 60) then some ((natV L).any fun z => eqv z (.int (r : Nat))) else none) = _
  unfold natV
  rw [any_nat, pures_nats, depths, depths_nats]
  rfl
theorem inn_tN (L : List Nat) (r : Nat) (m : MH) : cmpV .inn (.int (r : Nat)) (tN L) m = some (decide (r ∈ L)) := in_tN L r m
theorem nin_tN (L : List Nat) (r : Nat) (m : MH) : cmpV .nin (.int (r : Nat)) (tN L) m = some (!decide (r ∈ L)) := by
  show (isIn m _ _).map _ = _
  rw [in_tN]
  rfl
theorem heardA {k : PySem.Str} {b : Int × Int} (hk : k ∈ kinds) (hb : b ∈ boards) {asks : List Nat} (ha : ∀ a ∈ asks, a < num b) (hl : asks.length ≤ 12) {row : Nat} (hr : row < num b) : HdOk (num b) (heardS k b asks row) ∧ ∀ p ∈ heardS k b asks row, rOk 20 p.2 = true := by
  have h20 : ∀ p ∈ heardS k b asks row, rOk 20 p.2 = true := fun p hp => by
    obtain ⟨a, h, rfl⟩ := List.mem_map.mp hp
    exact (An_tab hk hb hr (ha a h)).1
  refine ⟨⟨fun p hp => ?_, fun p hp => rOk_le (c := 20) (d := 99) (by omega) (h20 p hp), by unfold heardS; rw [List.length_map]; exact hl⟩, h20⟩
  obtain ⟨a, h, rfl⟩ := List.mem_map.mp hp
  exact ha a h
theorem HdOk.app {n : Nat} {A B : Hd} (h : HdOk n A) (h2 : HdOk n B) (hl : A.length + B.length ≤ 12) : HdOk n (A ++ B) :=
  ⟨fun p hp => (List.mem_append.mp hp).elim (h.lt p) (h2.lt p), fun p hp => (List.mem_append.mp hp).elim (h.ok p) (h2.ok p), by rw [List.length_append]; exact hl⟩
theorem HdOk.take {n : Nat} {A : Hd} (h : HdOk n A) (q : Nat) : HdOk n (A.take q) :=
  ⟨fun p hp => h.lt p (List.mem_of_mem_take hp), fun p hp => h.ok p (List.mem_of_mem_take hp), Nat.le_trans (by rw [List.length_take]; omega) h.len⟩
/-- the rows that give all that was heard -/
def leftL (k : PySem.Str) (b : Int × Int) (hd : Hd) : List Nat := (List.range (num b)).filter fun i => hd.all fun p => eqv (An k b i p.1) p.2
theorem leftL_HS (k : PySem.Str) (b : Int × Int) (hd : Hd) : HS (num b) (leftL k b hd) := ⟨List.pairwise_lt_range.sublist List.filter_sublist, fun i hi => List.mem_range.mp (List.mem_filter.mp hi).1⟩
theorem cl50A {N : Nat} {k : PySem.Str} {b : Int × Int} (h : 6 ≤ N) (hk : k ∈ kinds) (hb : b ∈ boards) {hd : Hd} (Ok : HdOk (num b) hd) (m : MH) : callD PP N 50 [gm k b, hv hd] m = .ok (tN (leftL k b hd)) m := cl50 h hk hb Ok rfl m
theorem add_hv (A B : Hd) (h : A.length + B.length ≤ 100) (m : MH) : binV .add (hv A) (hv B) m = .ok (hv (A ++ B)) m := by
  show guard (decide ((A.map _).length + (B.map _).length ≤ lineP)) (Res.ok (PV.tup (A.map _ ++ B.map _)) m) = _
  rw [guard_of (decide_eq_true (by rw [List.length_map, List.length_map]; unfold lineP; omega))]
  unfold hv
  rw [List.map_append]
theorem slc_hv (A : Hd) (q : Nat) (m : MH) : slcV (hv A) none (some (q : Nat)) m = some (hv (A.take q)) := by
  show some (PV.tup (cut (A.map _) none (some ((q : Nat) : Int)))) = _
  rw [cutT, ← List.map_take]
  rfl
theorem subset_lenG {α : Type} [DecidableEq α] : ∀ (A B : List α), A.Nodup → (∀ x ∈ A, x ∈ B) → A.length ≤ B.length
  | [], _, _, _ => Nat.zero_le _
  | a :: A, B, hn, hs => by
    rw [List.nodup_cons] at hn
    have ha := hs a List.mem_cons_self
    have ih := subset_lenG A (B.erase a) hn.2 fun x hx => by
      have ne : x ≠ a := fun z => hn.1 (z ▸ hx)
      exact (List.mem_erase_of_ne ne).mpr (hs x (List.mem_cons_of_mem _ hx))
    rw [List.length_erase_of_mem ha] at ih
    have := List.length_pos_of_mem ha
    simp only [List.length_cons]
    omega
/-- the game's answers -/
theorem cl17A {N : Nat} {k : PySem.Str} {b : Int × Int} (h : 6 ≤ N) (hk : k ∈ kinds) (hb : b ∈ boards) : ∃ ys : List PV, (∀ m, callD PP N 17 [gm k b] m = .ok (.tup ys) m) ∧ ∀ (j : Nat) (hs : List Nat), j < num b → (∀ i ∈ hs, i < num b) → (partsL (fun i => An k b i j) hs).length ≤ ys.length := by
  have z := List.all_eq_true.mp (List.all_eq_true.mp set_tab k hk) b hb
  obtain ⟨ys, F⟩ := setF_of z
  refine ⟨ys, fun m => cl17 h hk hb F m, fun j hs hj hH => ?_⟩
  have hS : ∀ i ∈ hs, Shp (isBoth k) (An k b i j) := fun i hi => (An_tab hk hb (hH i hi) hj).2
  have hA : ∀ v ∈ allA k b, Shp (isBoth k) v := fun v hv => by
    obtain ⟨r, hr, hv⟩ := List.mem_flatMap.mp hv
    obtain ⟨q, hq, rfl⟩ := List.mem_map.mp hv
    have z := List.all_eq_true.mp (List.all_eq_true.mp shp_tab k hk) b hb
    have z := List.all_eq_true.mp (List.all_eq_true.mp z r hr) q hq
    rw [Bool.and_eq_true] at z
    exact shp_of z.2
  obtain ⟨so, sp⟩ := srtK_some hA
  have e : ys = srtK (allA k b) := by
    have := F.srt.symm.trans so
    exact Option.some.inj this
  rw [(partsL_len hS).1, e, sp.length_eq]
  have : DecidableEq PV := fun _ _ => Classical.propDecidable _
  refine subset_lenG _ _ (nodup_keys _) fun v hv => mem_keys.mpr ?_
  obtain ⟨i, hi, rfl⟩ := List.mem_map.mp (mem_keys.mp hv)
  exact List.mem_flatMap.mpr ⟨_, List.mem_of_getElem? (row_ex hb (hH i hi)), List.mem_map.mpr ⟨_, List.mem_of_getElem? (row_ex hb hj), rfl⟩⟩
@[simp] theorem len_tN (l : List Nat) (m : MH) : biV .len [tN l] m = some (.int (l.length : Nat)) := lenN l m
theorem eqv_symm {v w : PV} (h1 : isI v = true) (h2 : isI w = true) : eqv v w = eqv w v := by
  rw [Bool.eq_iff_iff, eqv_is h1 h2, eqv_is h2 h1]
  exact ⟨fun h => h.symm, fun h => h.symm⟩
theorem tell_symm (k : PySem.Str) (b : Int × Int) (i j : Nat) : tellL k b i j = tellL k b j i := by
  unfold tellL
  congr 1
  funext a
  rw [eqv_symm (isI_An ..) (isI_An ..)]
theorem ne_bl (x y : Bool) (m : MH) : cmpV .ne (.bl x) (.bl y) m = some (!(x == y)) := by
  cases x <;> cases y <;> rfl
end Mi
end

section
set_option autoImplicit false
set_option maxRecDepth 100000
set_option maxHeartbeats 1000000
set_option linter.all false
namespace Mi
structure Ord (n : Nat) (o : List Nat) : Prop where
  len : o.length = n
  lt : ∀ x ∈ o, x < n
  nd : o.Nodup
theorem Ord.all {n : Nat} {o : List Nat} (h : Ord n o) {j : Nat} (hj : j < n) : j ∈ o := by
  apply Classical.byContradiction
  intro hn
  have := subset_lenG (List.range n) (o.erase j) List.nodup_range
  have h2 := subset_lenG (j :: o) (List.range n) (List.nodup_cons.mpr ⟨hn, h.nd⟩) fun x hx => by
    rcases List.mem_cons.mp hx with z | z
    · rw [z]; exact List.mem_range.mpr hj
    · exact List.mem_range.mpr (h.lt x z)
  rw [List.length_cons, List.length_range, h.len] at h2
  omega
theorem Ord.perm {n : Nat} {o : List Nat} (h : Ord n o) : o.Perm (List.range n) :=
  (List.perm_ext_iff_of_nodup h.nd List.nodup_range).mpr fun x => ⟨fun hx => List.mem_range.mpr (h.lt x hx), fun hx => h.all (List.mem_range.mp hx)⟩
/-- hue by hue -/
def hmI (o : List Nat) (r : List Int) : List Int := r.map fun h => ((o.getD h.toNat 0 : Nat) : Int)
/-- place by place -/
def pmI (o : List Nat) (r : List Int) : List Int := (List.range o.length).map fun j => r.getD (o.idxOf j) 0
/-- a row as such -/
structure RowOk (b : Int × Int) (r : List Int) : Prop where
  len : r.length = b.2.toNat
  lt : ∀ x ∈ r, 0 ≤ x ∧ x < b.1
theorem rows_rowN (h : Nat) : ∀ (p : Nat) (r : List Int), r.length = p → (∀ x ∈ r, 0 ≤ x ∧ x < (h : Nat)) → r ∈ rowsN h p
  | 0, r, hl, _ => by rw [List.length_eq_zero_iff.mp hl]; exact List.mem_singleton.mpr rfl
  | p + 1, r, hl, hx => by
    have hne : r ≠ [] := fun z => by rw [z] at hl; cases hl
    have e := List.dropLast_concat_getLast hne
    have h1 := rows_rowN h p r.dropLast (by rw [List.length_dropLast]; omega) fun x q => hx x (List.dropLast_subset _ q)
    have h2 := hx _ (List.getLast_mem hne)
    rw [← e]
    unfold rowsN
    refine List.mem_flatMap.mpr ⟨_, h1, List.mem_map.mpr ⟨(r.getLast hne).toNat, List.mem_range.mpr (by omega), ?_⟩⟩
    have : Int.ofNat (r.getLast hne).toNat = r.getLast hne := by
      show (((r.getLast hne).toNat : Nat) : Int) = _
      omega
    rw [this]
theorem row_mem {b : Int × Int} (hb : b ∈ boards) {r : List Int} : RowOk b r ↔ r ∈ rowsB b := by
  have f := bf hb
  constructor
  · intro h
    unfold rowsB
    have := f.h1
    exact rows_rowN _ _ r h.len fun x hx => by have := h.lt x hx; omega
  · intro h
    have := f.row r h
    exact ⟨this.1, this.2⟩
theorem row_ix {b : Int × Int} {r : List Int} (h : r ∈ rowsB b) : ∃ i : Nat, (rowsB b)[i]? = some r := List.mem_iff_getElem?.mp h
theorem hm_row {b : Int × Int} {o : List Nat} (h1 : 1 ≤ b.1) (O : Ord b.1.toNat o) {r : List Int} (h : RowOk b r) : RowOk b (hmI o r) := by
  refine ⟨by unfold hmI; rw [List.length_map]; exact h.len, fun x hx => ?_⟩
  obtain ⟨y, hy, rfl⟩ := List.mem_map.mp hx
  have hy := h.lt y hy
  have hl : y.toNat < o.length := by rw [O.len]; omega
  have : o.getD y.toNat 0 ∈ o := by
    rw [List.getD_eq_getElem?_getD, List.getElem?_eq_getElem hl]
    exact List.getElem_mem hl
  have := O.lt _ this
  omega
theorem pm_row {b : Int × Int} {o : List Nat} (O : Ord b.2.toNat o) {r : List Int} (h : RowOk b r) : RowOk b (pmI o r) := by
  refine ⟨by unfold pmI; rw [List.length_map, List.length_range]; exact O.len, fun x hx => ?_⟩
  obtain ⟨j, hj, rfl⟩ := List.mem_map.mp hx
  have hj := List.mem_range.mp hj
  rw [O.len] at hj
  have hk : o.idxOf j < r.length := by
    rw [h.len, ← O.len]
    exact List.idxOf_lt_length_of_mem (O.all hj)
  rw [List.getD_eq_getElem?_getD, List.getElem?_eq_getElem hk]
  exact h.lt _ (List.getElem_mem hk)
theorem idxI_of : ∀ (o : List Nat) (j k : Nat), j ∈ o → idxI (j : Nat) (o.map fun i => ((i : Nat) : Int)) k = some (k + o.idxOf j)
  | [], j, k, h => by cases h
  | x :: o, j, k, h => by
    rw [List.map_cons, idxI, List.idxOf_cons]
    by_cases e : x = j
    · subst e
      simp
    · have e2 : ¬ ((x : Nat) : Int) = (j : Nat) := by omega
      rw [if_neg e2]
      have hj : j ∈ o := by
        rcases List.mem_cons.mp h with z | z
        · exact absurd z.symm e
        · exact z
      rw [idxI_of o j (k + 1) hj]
      have e3 : (x == j) = false := by simpa using e
      rw [e3]
      simp
      omega
theorem idx_tN {o : List Nat} {i : Nat} (h : i < o.length) (m : MH) : idxV (tN o) (.int (i : Nat)) m = some (.int (o.getD i 0 : Nat)) := by
  rw [tN_tt]
  rw [idx_tt (a := ((o.getD i 0 : Nat) : Int)) (by rw [List.getElem?_map, List.getD_eq_getElem?_getD, List.getElem?_eq_getElem h]; rfl)]
theorem dedupI_nd : ∀ (l acc : List Int), l.Nodup → (∀ x ∈ l, x ∉ acc) → dedupI l acc = acc.reverse ++ l
  | [], acc, _, _ => by rw [dedupI]; simp
  | x :: l, acc, h, h2 => by
    rw [List.nodup_cons] at h
    have hm : memI x acc = false := by
      have hx := h2 x List.mem_cons_self
      clear h2
      induction acc with
      | nil => rfl
      | cons y acc ih =>
        rw [memI]
        have : ¬ x = y := fun z => hx (z ▸ List.mem_cons_self)
        rw [ih fun z => hx (List.mem_cons_of_mem _ z)]
        simp [this]
    rw [dedupI, hm]
    have := dedupI_nd l (x :: acc) h.2 fun y hy z => by
      rcases List.mem_cons.mp z with q | q
      · exact h.1 (q ▸ hy)
      · exact h2 y (List.mem_cons_of_mem _ hy) q
    simp only [Bool.false_eq_true, if_false]
    rw [this]
    simp
section
variable {N n : Nat} {k : PySem.Str} {b : Int × Int} {o : List Nat}
theorem cast_nodup {o : List Nat} (h : o.Nodup) : (o.map fun i => ((i : Nat) : Int)).Nodup := by
  rw [List.nodup_iff_pairwise_ne, List.pairwise_map]
  exact h.imp fun {a b} ne z => ne (by omega)
theorem cl29 (h : 3 ≤ N) (O : Ord n o) (hn : n ≤ 50) (T : Int) (hT : T = (n : Nat)) (m : MH) : callD PP N 29 [tN o, .int T] m = .ok (.bl true) m := by
  obtain ⟨N, rfl⟩ := sub_of h
  subst hT
  refine call_lift (d := D.d29) (m1 := []) rfl rfl rfl (by rw [pures, pure_tN]; rfl) rfl ?_ m
  have hl := O.len
  have h3 := cl3 (N := N + 2) (by omega) (o.map fun i => ((i : Nat) : Int)) (by rw [List.length_map]; omega) (n : Nat) (n : Nat) 0 ((n : Nat) - 1)
  have e3 : (decide (((n : Nat) : Int) ≤ ((o.map fun i => ((i : Nat) : Int)).length : Nat)) && decide (((o.map fun i => ((i : Nat) : Int)).length : Nat) ≤ (n : Int)) && (o.map fun i => ((i : Nat) : Int)).all fun v => decide (0 ≤ v) && decide (v ≤ (n : Int) - 1)) = true := by
    rw [List.length_map]
    simp only [Bool.and_eq_true, decide_eq_true_eq, List.all_eq_true]
    refine ⟨⟨by omega, by omega⟩, fun x hx => ?_⟩
    obtain ⟨i, hi, rfl⟩ := List.mem_map.mp hx
    have := O.lt i hi
    omega
  rw [e3, ← tN_tt] at h3
  have dd : dedup (o.map fun i => PV.int (i : Nat)) [] = o.map fun i => PV.int (i : Nat) := by
    have e := dedup_ints (o.map fun i => ((i : Nat) : Int)) []
    rw [List.map_nil, dedupI_nd _ _ (cast_nodup O.nd) (fun _ _ h => by cases h)] at e
    rw [List.map_map] at e
    refine e.trans ?_
    rw [List.reverse_nil, List.nil_append, List.map_map]
    rfl
  have tl : toL (.val (tN o)) [] = .ok (o.map fun i => PV.int (i : Nat)) [] := rfl
  have kd : kindX (.val (tN o)) [] = some false := rfl
  have so : setOk (o.map fun i => PV.int (i : Nat)) = true := by
    have := setOk_ints (o.map fun i => ((i : Nat) : Int))
    rw [List.map_map] at this
    exact this
  have hlt : n < 63 := by omega
  simp [runB, D.d29, ss_cons, h3, tl, kd, so, dd, hl, hlt, leave]
theorem pure_row (r : List Int) : pure (tt r) = true := pure_tt r
theorem cl9R (h : 6 ≤ N) (hk : k ∈ kinds) (hb : b ∈ boards) {r : List Int} (R : RowOk b r) (m : MH) : callD PP N 9 [gm k b, tt r] m = .ok (.bl true) m := by
  obtain ⟨i, hi⟩ := row_ix ((row_mem hb).mp R)
  exact cl9r h hk hb hi m
theorem cl30 (h : 7 ≤ N) (hk : k ∈ kinds) (hb : b ∈ boards) {r : List Int} (R : RowOk b r) (O : Ord b.1.toNat o) (m : MH) : callD PP N 30 [gm k b, tt r, tN o] m = .ok (tt (hmI o r)) m := by
  obtain ⟨N, rfl⟩ := sub_of h
  have f := bf hb
  have e1 : b.1 = (b.1.toNat : Nat) := by have := f.h1; omega
  have h1 := f.h1
  have h6 := f.h6
  have p4 := f.p4
  refine call_lift (d := D.d30) (m1 := []) rfl rfl rfl (by rw [pures, pure_gm hk, pures, pure_tt, pures, pure_tN]; rfl) (pure_tt _) ?_ m
  unfold runB D.d30
  simp only [List.map, List.length, List.replicate, List.cons_append, List.nil_append]
  rw [ss_next (e' := [some (gm k b), some (tt r), some (tN o), none]) (m' := []) (by simp [cl6 (N := N + 6) (by omega), hk, hb])]
  rw [ss_next (e' := [some (gm k b), some (tt r), some (tN o), none]) (m' := []) (by simp [cl9R (N := N + 6) (by omega) hk hb R, cl0 (N := N + 6) (by omega)])]
  rw [ss_next (e' := [some (gm k b), some (tt r), some (tN o), none]) (m' := []) (by simp [cl29 (N := N + 6) (by omega) O (by omega) b.1 e1, cl0 (N := N + 6) (by omega)])]
  simp only [ss_cons, st_ret, ev_def, x_tof]
  rw [lcM (m0 := []) r PV.int (fun h => .int (o.getD h.toNat 0 : Nat)) (Wk.tup (by simp [tt])) (by have := R.len; omega) (fun z hz => ⟨_, rfl, by
    have hz := R.lt z hz
    have e2 : z = (z.toNat : Nat) := by omega
    have ix := idx_tN (o := o) (i := z.toNat) (by rw [O.len]; omega) []
    rw [← e2] at ix
    simp only [x_idx, x_var, wipe_cons, wipe_nil, List.set_cons_zero, List.set_cons_succ, List.getElem?_cons_zero, List.getElem?_cons_succ, Res.bind_ok, toV_val, ix, ofO_some]⟩)]
  simp [leave, tt, hmI]
theorem cl31 (h : 7 ≤ N) (hk : k ∈ kinds) (hb : b ∈ boards) {r : List Int} (R : RowOk b r) (O : Ord b.2.toNat o) (m : MH) : callD PP N 31 [gm k b, tt r, tN o] m = .ok (tt (pmI o r)) m := by
  obtain ⟨N, rfl⟩ := sub_of h
  have f := bf hb
  have e1 : b.2 = (b.2.toNat : Nat) := by have := f.p1; omega
  have p1 := f.p1
  have p4 := f.p4
  refine call_lift (d := D.d31) (m1 := []) rfl rfl rfl (by rw [pures, pure_gm hk, pures, pure_tt, pures, pure_tN]; rfl) (pure_tt _) ?_ m
  unfold runB D.d31
  simp only [List.map, List.length, List.replicate, List.cons_append, List.nil_append]
  rw [ss_next (e' := [some (gm k b), some (tt r), some (tN o), none]) (m' := []) (by simp [cl6 (N := N + 6) (by omega), hk, hb])]
  rw [ss_next (e' := [some (gm k b), some (tt r), some (tN o), none]) (m' := []) (by simp [cl9R (N := N + 6) (by omega) hk hb R, cl0 (N := N + 6) (by omega)])]
  rw [ss_next (e' := [some (gm k b), some (tt r), some (tN o), none]) (m' := []) (by simp [cl29 (N := N + 6) (by omega) O (by omega) b.2 e1, cl0 (N := N + 6) (by omega)])]
  simp only [ss_cons, st_ret, ev_def, x_tof]
  rw [lcM (m0 := []) (List.range b.2.toNat) (fun i => .int (i : Nat)) (fun j => .int (r.getD (o.idxOf j) 0)) (Wk.rngA (n := b.2.toNat) (by simp; omega) (by omega)) (by rw [List.length_range]; omega) (fun j hj => ⟨_, rfl, by
    have hj := List.mem_range.mp hj
    have hm := O.all hj
    have hi : o.idxOf j < r.length := by
      rw [R.len, ← O.len]
      exact List.idxOf_lt_length_of_mem hm
    have mi : mtV .index (tN o) [.int (j : Nat)] [] = .ok (.int (o.idxOf j : Nat)) [] := by
      have e := index_ints (j : Nat) (o.map fun i => ((i : Nat) : Int)) 0
      rw [idxI_of o j 0 hm, List.map_map] at e
      have pl := plain_ints (j : Nat) (o.map fun i => ((i : Nat) : Int))
      rw [List.map_map] at pl
      show guard (plainIn (.int (j : Nat)) (o.map fun i => PV.int (i : Nat))) (ofO ((indexOf (.int (j : Nat)) (o.map fun i => PV.int (i : Nat)) 0).map fun k => PV.int (k : Nat)) []) = _
      rw [show plainIn (.int (j : Nat)) (o.map fun i => PV.int (i : Nat)) = true from pl, guard_true, show indexOf (.int (j : Nat)) (o.map fun i => PV.int (i : Nat)) 0 = some (0 + o.idxOf j) from e]
      rw [Nat.zero_add]
      rfl
    have rc : recvOk .index (tN o) [] = true := rfl
    have ix := idx_tt (l := r) (i := o.idxOf j) (a := r.getD (o.idxOf j) 0) (by rw [List.getD_eq_getElem?_getD, List.getElem?_eq_getElem hi]; rfl) []
    simp only [x_idx, x_mt, s_cons, s_nil, x_var, wipe_cons, wipe_nil, List.set_cons_zero, List.set_cons_succ, List.getElem?_cons_zero, List.getElem?_cons_succ, Res.bind_ok, toV_val, rc, guard_true, mi, ix, ofO_some]⟩)]
  simp only [Res.bind_ok, toC_tmp, toV_val, leave]
  unfold pmI tt
  rw [O.len, List.map_map]
  rfl
/-- the order that leads back -/
def backO (o : List Nat) : List Nat := (List.range o.length).map fun j => o.idxOf j
theorem cl38 (h : 1 ≤ N) (O : Ord n o) (hn : n ≤ 50) (m : MH) : callD PP N 38 [tN o] m = .ok (tN (backO o)) m := by
  obtain ⟨N, rfl⟩ := sub_of h
  have hl := O.len
  refine call_lift (d := D.d38) (m1 := []) rfl rfl rfl (by rw [pures, pure_tN]; rfl) (pure_tN _) ?_ m
  unfold runB D.d38
  simp only [List.map, List.length, List.replicate, List.cons_append, List.nil_append, ss_cons, st_ret, ev_def, x_tof]
  rw [lcM (m0 := []) (List.range o.length) (fun i => .int (i : Nat)) (fun j => .int (o.idxOf j : Nat)) (Wk.rngA (n := o.length) (by simp) (by omega)) (by rw [List.length_range]; omega) (fun j hj => ⟨_, rfl, by
    have hj := List.mem_range.mp hj
    have hm := O.all (by rw [← hl]; exact hj)
    have mi : mtV .index (tN o) [.int (j : Nat)] [] = .ok (.int (o.idxOf j : Nat)) [] := by
      have e := index_ints (j : Nat) (o.map fun i => ((i : Nat) : Int)) 0
      rw [idxI_of o j 0 hm, List.map_map] at e
      have pl := plain_ints (j : Nat) (o.map fun i => ((i : Nat) : Int))
      rw [List.map_map] at pl
      show guard (plainIn (.int (j : Nat)) (o.map fun i => PV.int (i : Nat))) (ofO ((indexOf (.int (j : Nat)) (o.map fun i => PV.int (i : Nat)) 0).map fun k => PV.int (k : Nat)) []) = _
      rw [show plainIn (.int (j : Nat)) (o.map fun i => PV.int (i : Nat)) = true from pl, guard_true, show indexOf (.int (j : Nat)) (o.map fun i => PV.int (i : Nat)) 0 = some (0 + o.idxOf j) from e]
      rw [Nat.zero_add]
      rfl
    have rc : recvOk .index (tN o) [] = true := rfl
    simp only [x_mt, s_cons, s_nil, x_var, wipe_cons, wipe_nil, List.set_cons_zero, List.set_cons_succ, List.getElem?_cons_zero, List.getElem?_cons_succ, Res.bind_ok, toV_val, rc, guard_true, mi, ofO_some]⟩)]
  simp only [Res.bind_ok, toC_tmp, toV_val, leave]
  unfold backO tN
  rw [List.map_map]
  rfl
end
end Mi
end

section
set_option autoImplicit false
set_option maxRecDepth 100000
set_option maxHeartbeats 1000000
set_option linter.all false
namespace Mi
theorem idxOf_nd : ∀ (l : List Nat) (i : Nat), l.Nodup → i < l.length → l.idxOf (l.getD i 0) = i
  | [], i, _, h => by simp at h
  | x :: l, 0, _, _ => by simp [List.idxOf_cons]
  | x :: l, i + 1, hn, h => by
    rw [List.nodup_cons] at hn
    have hi : i < l.length := by simpa using h
    have ih := idxOf_nd l i hn.2 hi
    have hm : l.getD i 0 ∈ l := by
      rw [List.getD_eq_getElem?_getD, List.getElem?_eq_getElem hi]
      exact List.getElem_mem hi
    show (x :: l).idxOf (l.getD i 0) = i + 1
    rw [List.idxOf_cons]
    have ne : (x == l.getD i 0) = false := by
      have : ¬ x = l.getD i 0 := fun z => hn.1 (z ▸ hm)
      simpa using this
    rw [ne, ih]
    rfl
theorem getD_idxOf : ∀ (l : List Nat) (j : Nat), j ∈ l → l.getD (l.idxOf j) 0 = j
  | [], j, h => by cases h
  | x :: l, j, h => by
    rw [List.idxOf_cons]
    by_cases e : x = j
    · subst e; simp
    · have ne : (x == j) = false := by simpa using e
      rw [ne]
      have hj : j ∈ l := by
        rcases List.mem_cons.mp h with z | z
        · exact absurd z.symm e
        · exact z
      exact getD_idxOf l j hj
theorem getD_map {α β : Type} (f : α → β) (l : List α) (i : Nat) (d : α) (d2 : β) (h : i < l.length) : (l.map f).getD i d2 = f (l.getD i d) := by
  rw [List.getD_eq_getElem?_getD, List.getD_eq_getElem?_getD, List.getElem?_map, List.getElem?_eq_getElem h]
  rfl
theorem getD_range (n i : Nat) (h : i < n) : (List.range n).getD i 0 = i := by
  rw [List.getD_eq_getElem?_getD, List.getElem?_range h]
  rfl
section
variable {n : Nat} {o : List Nat}
theorem Ord.back (O : Ord n o) : Ord n (backO o) where
  len := by unfold backO; rw [List.length_map, List.length_range]; exact O.len
  lt := fun x hx => by
    obtain ⟨j, hj, rfl⟩ := List.mem_map.mp hx
    have hj := List.mem_range.mp hj
    rw [O.len] at hj
    rw [← O.len]
    exact List.idxOf_lt_length_of_mem (O.all hj)
  nd := by
    unfold backO
    rw [List.nodup_iff_pairwise_ne, List.pairwise_map]
    refine (List.nodup_iff_pairwise_ne.mp (List.nodup_range (n := o.length))).imp_of_mem fun {a b} ha hb ne z => ne ?_
    have ha := List.mem_range.mp ha
    have hb := List.mem_range.mp hb
    rw [O.len] at ha hb
    rw [← getD_idxOf o a (O.all ha), ← getD_idxOf o b (O.all hb), z]
theorem Ord.at {i : Nat} (O : Ord n o) (h : i < n) : o.getD i 0 < n := by
  have hi : i < o.length := by rw [O.len]; exact h
  refine O.lt _ ?_
  rw [List.getD_eq_getElem?_getD, List.getElem?_eq_getElem hi]
  exact List.getElem_mem hi
theorem back_at {j : Nat} (O : Ord n o) (h : j < n) : (backO o).getD j 0 = o.idxOf j := by
  unfold backO
  rw [getD_map _ _ _ 0 _ (by rw [List.length_range, O.len]; exact h), getD_range _ _ (by rw [O.len]; exact h)]
theorem back_idx {j : Nat} (O : Ord n o) (h : j < n) : (backO o).idxOf j = o.getD j 0 := by
  have e : (backO o).getD (o.getD j 0) 0 = j := by
    rw [back_at O (O.at h), idxOf_nd o j O.nd (by rw [O.len]; exact h)]
  have := idxOf_nd (backO o) (o.getD j 0) O.back.nd (by rw [O.back.len]; exact O.at h)
  rw [e] at this
  exact this
theorem pm_at {r : List Int} {j : Nat} (O : Ord n o) (h : j < n) : (pmI o r).getD (o.getD j 0) 0 = r.getD j 0 := by
  unfold pmI
  rw [getD_map _ _ _ 0 _ (by rw [List.length_range, O.len]; exact O.at h), getD_range _ _ (by rw [O.len]; exact O.at h), idxOf_nd o j O.nd (by rw [O.len]; exact h)]
theorem pm_len (r : List Int) : (pmI o r).length = o.length := by unfold pmI; rw [List.length_map, List.length_range]
theorem list_getD {α : Type} (d : α) (l : List α) : (List.range l.length).map (fun i => l.getD i d) = l := by
  have := range_get l d id
  rw [List.map_id] at this
  exact this
theorem pm_back {r : List Int} (O : Ord n o) (hr : r.length = n) : pmI (backO o) (pmI o r) = r := by
  unfold pmI
  rw [O.back.len]
  show (List.range n).map (fun j => (pmI o r).getD ((backO o).idxOf j) 0) = r
  have e : (List.range n).map (fun j => (pmI o r).getD ((backO o).idxOf j) 0) = (List.range n).map fun j => r.getD j 0 := by
    apply List.map_congr_left
    intro j hj
    have hj := List.mem_range.mp hj
    rw [back_idx O hj, pm_at O hj]
  rw [e, ← hr]
  exact list_getD 0 r
theorem hm_back {r : List Int} (O : Ord n o) (hr : ∀ x ∈ r, 0 ≤ x ∧ x < (n : Nat)) : hmI (backO o) (hmI o r) = r := by
  unfold hmI
  rw [List.map_map]
  conv => rhs; rw [← List.map_id r]
  apply List.map_congr_left
  intro x hx
  have hx := hr x hx
  show (((backO o).getD ((o.getD x.toNat 0 : Nat) : Int).toNat 0 : Nat) : Int) = x
  rw [Int.toNat_natCast, back_at O (O.at (by omega)), idxOf_nd o _ O.nd (by rw [O.len]; omega)]
  omega
theorem hm_pm {p : List Nat} {q : Nat} {r : List Int} (O : Ord q p) (hr : r.length = q) (o : List Nat) : pmI p (hmI o r) = hmI o (pmI p r) := by
  unfold pmI hmI
  rw [List.map_map]
  apply List.map_congr_left
  intro j hj
  have hj := List.mem_range.mp hj
  rw [O.len] at hj
  have hi : p.idxOf j < r.length := by
    rw [hr, ← O.len]
    exact List.idxOf_lt_length_of_mem (O.all hj)
  rw [getD_map _ _ _ 0 _ hi]
  rfl
end
section
variable {f : Int → Int} {S : Int → Prop}
theorem right_map (hf : ∀ x y, S x → S y → f x = f y → x = y) : ∀ (xs ys : List Int), (∀ x ∈ xs, S x) → (∀ y ∈ ys, S y) → rightI (xs.map f) (ys.map f) = rightI xs ys
  | [], ys, _, _ => by unfold rightI; simp
  | x :: xs, [], _, _ => by unfold rightI; simp
  | x :: xs, y :: ys, h1, h2 => by
    have ih := right_map hf xs ys (fun z hz => h1 z (List.mem_cons_of_mem _ hz)) (fun z hz => h2 z (List.mem_cons_of_mem _ hz))
    unfold rightI at ih ⊢
    rw [List.map_cons, List.map_cons, List.zip_cons_cons, List.zip_cons_cons, List.filter_cons, List.filter_cons]
    have e : decide (f x = f y) = decide (x = y) := by
      rw [Bool.eq_iff_iff, decide_eq_true_eq, decide_eq_true_eq]
      exact ⟨hf x y (h1 x List.mem_cons_self) (h2 y List.mem_cons_self), fun z => by rw [z]⟩
    simp only [e]
    split
    · simp only [List.length_cons]; omega
    · exact ih
theorem first_map (hf : ∀ x y, S x → S y → f x = f y → x = y) : ∀ (xs ys : List Int), (∀ x ∈ xs, S x) → (∀ y ∈ ys, S y) → firstI (xs.map f) (ys.map f) = firstI xs ys
  | [], ys, _, _ => by rw [List.map_nil, firstI, firstI]
  | x :: xs, [], _, _ => by rw [List.map_cons, List.map_nil, firstI, firstI]
  | x :: xs, y :: ys, h1, h2 => by
    have ih := first_map hf xs ys (fun z hz => h1 z (List.mem_cons_of_mem _ hz)) (fun z hz => h2 z (List.mem_cons_of_mem _ hz))
    rw [List.map_cons, List.map_cons, firstI, firstI, ih]
    by_cases e : x = y
    · rw [if_pos e, if_pos (by rw [e])]
    · rw [if_neg e, if_neg fun z => e (hf x y (h1 x List.mem_cons_self) (h2 y List.mem_cons_self) z)]
theorem idxI_map (hf : ∀ x y, S x → S y → f x = f y → x = y) {h : Int} (hh : S h) : ∀ (l : List Int) (k : Nat), (∀ x ∈ l, S x) → idxI (f h) (l.map f) k = idxI h l k
  | [], k, _ => rfl
  | x :: l, k, hl => by
    rw [List.map_cons, idxI, idxI, idxI_map hf hh l (k + 1) fun z hz => hl z (List.mem_cons_of_mem _ hz)]
    by_cases e : x = h
    · rw [if_pos e, if_pos (by rw [e])]
    · rw [if_neg e, if_neg fun z => e (hf x h (hl x List.mem_cons_self) hh z)]
theorem common_map (hf : ∀ x y, S x → S y → f x = f y → x = y) : ∀ (xs ys : List Int) (c : Int), (∀ x ∈ xs, S x) → (∀ y ∈ ys, S y) → ((xs.map f).foldl stepC (ys.map f, c)).2 = (xs.foldl stepC (ys, c)).2
  | [], ys, c, _, _ => rfl
  | x :: xs, ys, c, h1, h2 => by
    rw [List.map_cons, List.foldl_cons, List.foldl_cons]
    have e := idxI_map hf (h1 x List.mem_cons_self) ys 0 h2
    have h1' := fun z hz => h1 z (List.mem_cons_of_mem _ hz)
    cases hi : idxI x ys 0 with
    | none =>
      rw [hi] at e
      have e1 : stepC (ys.map f, c) (f x) = (ys.map f, c) := by unfold stepC; simp only [e]
      have e2 : stepC (ys, c) x = (ys, c) := by unfold stepC; simp only [hi]
      rw [e1, e2]
      exact common_map hf xs ys c h1' h2
    | some i =>
      rw [hi] at e
      have e1 : stepC (ys.map f, c) (f x) = ((ys.take i ++ ys.drop (i + 1)).map f, c + 1) := by
        unfold stepC
        simp only [e]
        rw [List.map_append, List.map_take, List.map_drop]
      have e2 : stepC (ys, c) x = (ys.take i ++ ys.drop (i + 1), c + 1) := by unfold stepC; simp only [hi]
      rw [e1, e2]
      exact common_map hf xs _ _ h1' fun y hy => by
        rcases List.mem_append.mp hy with z | z
        · exact h2 y (List.mem_of_mem_take z)
        · exact h2 y (List.mem_of_mem_drop z)
end
theorem common_AB {b : Int × Int} (hb : b ∈ boards) {r q : List Int} (hr : RowOk b r) (hq : RowOk b q) : commonA r q = commonB r q := of_decide_eq_true (List.all_eq_true.mp (List.all_eq_true.mp (List.all_eq_true.mp common_tab b hb) r ((row_mem hb).mp hr)) q ((row_mem hb).mp hq))
def staysH : List PySem.Str := ["places", "both", "hues", "first"]
def staysP : List PySem.Str := ["places", "both", "hues", "apart", "more"]
theorem ans_hm {b : Int × Int} (hb : b ∈ boards) {o : List Nat} (O : Ord b.1.toNat o) {k : PySem.Str} (hk : k ∈ staysH) {r q : List Int} (hr : RowOk b r) (hq : RowOk b q) : ansR k (hmI o r) (hmI o q) = ansR k r q := by
  have f := bf hb
  have h1 := f.h1
  have inj : ∀ x y : Int, (0 ≤ x ∧ x < b.1) → (0 ≤ y ∧ y < b.1) → (((o.getD x.toNat 0 : Nat) : Int) = ((o.getD y.toNat 0 : Nat) : Int)) → x = y := fun x y hx hy e => by
    have e : o.getD x.toNat 0 = o.getD y.toNat 0 := by omega
    have e1 := idxOf_nd o x.toNat O.nd (by rw [O.len]; omega)
    have e2 := idxOf_nd o y.toNat O.nd (by rw [O.len]; omega)
    rw [e] at e1
    omega
  have c : commonA (hmI o r) (hmI o q) = commonA r q := by
    rw [common_AB hb (hm_row h1 O hr) (hm_row h1 O hq), common_AB hb hr hq]
    exact common_map (S := fun x => 0 ≤ x ∧ x < b.1) inj r q 0 hr.lt hq.lt
  have rt : rightI (hmI o r) (hmI o q) = rightI r q := right_map (S := fun x => 0 ≤ x ∧ x < b.1) inj r q hr.lt hq.lt
  have fi : firstI (hmI o r) (hmI o q) = firstI r q := first_map (S := fun x => 0 ≤ x ∧ x < b.1) inj r q hr.lt hq.lt
  unfold ansR
  rw [c]
  unfold staysH at hk
  simp only [List.mem_cons, List.not_mem_nil, or_false] at hk
  unfold ansA
  rw [rt, fi]
  rcases hk with rfl | rfl | rfl | rfl <;> rfl
theorem sum_perm {l m : List Int} (p : l.Perm m) : ∀ a : Int, l.foldl (· + ·) a = m.foldl (· + ·) a := by
  induction p with
  | nil => exact fun _ => rfl
  | cons x _ ih => exact fun a => ih _
  | swap x y l => intro a; rw [List.foldl_cons, List.foldl_cons, List.foldl_cons, List.foldl_cons]; congr 1; omega
  | trans _ _ i1 i2 => exact fun a => (i1 a).trans (i2 a)
theorem count_perm (h : Int) {l m : List Int} (p : l.Perm m) : countI h l = countI h m := by
  induction p with
  | nil => rfl
  | cons x _ ih => rw [countI, countI, ih]
  | swap x y l => rw [countI, countI, countI, countI]; omega
  | trans _ _ i1 i2 => exact i1.trans i2
theorem memI_iff {x : Int} : ∀ {l : List Int}, memI x l = true ↔ x ∈ l
  | [] => by simp [memI]
  | y :: l => by rw [memI, Bool.or_eq_true, memI_iff, List.mem_cons]; simp
theorem mem_dedupI {x : Int} : ∀ {l acc : List Int}, x ∈ dedupI l acc ↔ x ∈ l ∨ x ∈ acc
  | [], acc => by rw [dedupI, List.mem_reverse]; simp
  | y :: l, acc => by
    rw [dedupI]
    by_cases h : memI y acc = true
    · rw [if_pos h, mem_dedupI, List.mem_cons]
      have := memI_iff.mp h
      constructor
      · rintro (q | q)
        · exact .inl (.inr q)
        · exact .inr q
      · rintro ((q | q) | q)
        · exact .inr (q ▸ this)
        · exact .inl q
        · exact .inr q
    · rw [if_neg h, mem_dedupI, List.mem_cons, List.mem_cons]
      constructor
      · rintro (q | q | q)
        · exact .inl (.inr q)
        · exact .inl (.inl q)
        · exact .inr q
      · rintro ((q | q) | q)
        · exact .inr (.inl q)
        · exact .inl q
        · exact .inr (.inr q)
theorem nodup_dedupI : ∀ {l acc : List Int}, acc.Nodup → (dedupI l acc).Nodup
  | [], acc, h => by rw [dedupI]; exact (List.reverse_perm acc).nodup_iff.mpr h
  | y :: l, acc, h => by
    rw [dedupI]
    by_cases q : memI y acc = true
    · rw [if_pos q]; exact nodup_dedupI h
    · rw [if_neg q]; exact nodup_dedupI (List.nodup_cons.mpr ⟨fun z => q (memI_iff.mpr z), h⟩)
theorem sortI_perm_eq {l m : List Int} (p : l.Perm m) : sortI l = sortI m := perm_le _ _ ((sortI_perm l).trans (p.trans (sortI_perm m).symm)) (sortI_le l) (sortI_le m)
theorem hues_perm {l m : List Int} (p : l.Perm m) : sortI (dedupI l []) = sortI (dedupI m []) := by
  refine sortI_perm_eq ((List.perm_ext_iff_of_nodup (nodup_dedupI List.nodup_nil) (nodup_dedupI List.nodup_nil)).mpr fun x => ?_)
  rw [mem_dedupI, mem_dedupI, p.mem_iff]
theorem common_perm {xs xs' ys ys' : List Int} (p : xs.Perm xs') (q : ys.Perm ys') : commonA xs ys = commonA xs' ys' := by
  unfold commonA
  rw [hues_perm p]
  congr 1
  apply List.map_congr_left
  intro h _
  rw [count_perm h p, count_perm h q]
theorem pm_zip {n : Nat} {o : List Nat} (O : Ord n o) {r q : List Int} (hr : r.length = n) (hq : q.length = n) : ((pmI o r).zip (pmI o q)).Perm (r.zip q) := by
  have e1 : (pmI o r).zip (pmI o q) = (backO o).map fun j => (r.getD j 0, q.getD j 0) := by
    unfold pmI backO
    rw [List.zip_map', List.map_map]
    rfl
  have e2 : r.zip q = (List.range n).map fun j => (r.getD j 0, q.getD j 0) := by
    conv => lhs; rw [← list_getD 0 r, ← list_getD 0 q]
    rw [hr, hq, List.zip_map']
  rw [e1, e2]
  exact O.back.perm.map _
theorem pm_perm {n : Nat} {o : List Nat} (O : Ord n o) {r : List Int} (hr : r.length = n) : (pmI o r).Perm r := by
  have e1 : pmI o r = (backO o).map fun j => r.getD j 0 := by
    unfold pmI backO
    rw [List.map_map]
    rfl
  have e2 : r = (List.range n).map fun j => r.getD j 0 := by
    conv => lhs; rw [← list_getD 0 r]
    rw [hr]
  rw [e1]
  conv => rhs; rw [e2]
  exact O.back.perm.map _
theorem ans_pm {n : Nat} {o : List Nat} (O : Ord n o) {k : PySem.Str} (hk : k ∈ staysP) {r q : List Int} (hr : r.length = n) (hq : q.length = n) : ansR k (pmI o r) (pmI o q) = ansR k r q := by
  have z := pm_zip O hr hq
  have c : commonA (pmI o r) (pmI o q) = commonA r q := common_perm (pm_perm O hr) (pm_perm O hq)
  have rt : rightI (pmI o r) (pmI o q) = rightI r q := by
    unfold rightI
    rw [(z.filter _).length_eq]
  have mo : moreI (pmI o r) (pmI o q) = moreI r q := by
    unfold moreI
    rw [(z.filter _).length_eq]
  have ap : apartI (pmI o r) (pmI o q) = apartI r q := sum_perm (z.map _) 0
  unfold ansR
  rw [c]
  unfold staysP at hk
  simp only [List.mem_cons, List.not_mem_nil, or_false] at hk
  unfold ansA
  rw [rt, mo, ap]
  rcases hk with rfl | rfl | rfl | rfl | rfl <;> rfl
def codeR : PV → Int
  | .int i => i
  | .tup [.int i, .int j] => i * 4096 + j
  | _ => 0
theorem code_cmp {t : Bool} {v w : PV} (h : Shp t v) (h2 : Shp t w) : (cmpP v w = some .lt ∧ codeR v < codeR w) ∨ ((∃ o, cmpP v w = some o ∧ o ≠ .lt) ∧ ¬ codeR v < codeR w) := by
  cases h with
  | int i =>
    cases h2 with
    | int j =>
      rw [cmpP]
      show (_ ∧ i < j) ∨ (_ ∧ ¬ i < j)
      by_cases c : i < j
      · exact .inl ⟨by rw [if_pos c], c⟩
      · refine .inr ⟨?_, c⟩
        rw [if_neg c]
        by_cases d : i = j
        · exact ⟨.eq, by rw [if_pos d], by simp⟩
        · exact ⟨.gt, by rw [if_neg d], by simp⟩
  | two =>
    cases h2
    rename_i i j a1 a2 a3 a4 i2 j2 b1 b2 b3 b4
    show (_ ∧ i * 4096 + j < i2 * 4096 + j2) ∨ (_ ∧ ¬ i * 4096 + j < i2 * 4096 + j2)
    simp only [cmpP, cmpPs]
    by_cases a : i < i2
    · refine .inl ⟨?_, by omega⟩
      simp [a]
      by_cases c : j < j2 <;> simp [c]
      by_cases d : j = j2 <;> simp [d]
    · by_cases c : i = i2
      · subst c
        simp
        by_cases c : j < j2
        · exact .inl ⟨by simp [c], by omega⟩
        · refine .inr ⟨?_, by omega⟩
          by_cases d : j = j2 <;> simp [c, d]
      · refine .inr ⟨?_, by omega⟩
        simp [a, c]
        by_cases c : j < j2 <;> simp [c]
        by_cases d : j = j2 <;> simp [d]
theorem code_inj {t : Bool} {v w : PV} (h : Shp t v) (h2 : Shp t w) (e : codeR v = codeR w) : v = w := by
  cases h with
  | int i =>
    cases h2 with
    | int j =>
      have e : i = j := e
      rw [e]
  | two =>
    cases h2
    rename_i i j a1 a2 a3 a4 i2 j2 b1 b2 b3 b4
    have e : i * 4096 + j = i2 * 4096 + j2 := e
    have e1 : i = i2 := by omega
    have e2 : j = j2 := by omega
    rw [e1, e2]
theorem insF_code {t : Bool} {x : PV} (hx : Shp t x) : ∀ {ys : List PV}, (∀ y ∈ ys, Shp t y) → ∃ zs, sortP.insF x ys = some zs ∧ zs.map codeR = insI (codeR x) (ys.map codeR)
  | [], _ => ⟨[x], rfl, rfl⟩
  | y :: ys, h => by
    rw [sortP.insF]
    rcases code_cmp (h y List.mem_cons_self) hx with ⟨e, c⟩ | ⟨⟨o, e, ne⟩, c⟩
    · obtain ⟨zs, e1, e2⟩ := insF_code hx (ys := ys) fun z hz => h z (List.mem_cons_of_mem _ hz)
      rw [e]
      simp only [e1]
      refine ⟨y :: zs, rfl, ?_⟩
      rw [List.map_cons, List.map_cons, insI, if_pos c, e2]
    · rw [e]
      have : (match (some o : Option Ordering) with
        | some .lt => (sortP.insF x ys).map (y :: ·)
        | some _ => some (x :: y :: ys)
        | none => none) = some (x :: y :: ys) := by
        cases o with
        | lt => exact absurd rfl ne
        | eq => rfl
        | gt => rfl
      refine ⟨x :: y :: ys, this, ?_⟩
      rw [List.map_cons, List.map_cons, insI, if_neg c]
theorem sort_code {t : Bool} : ∀ {L : List PV}, (∀ v ∈ L, Shp t v) → ∃ ys, sortP L = some ys ∧ ys.map codeR = sortI (L.map codeR) ∧ ys.Perm L
  | [], _ => ⟨[], rfl, rfl, List.Perm.refl _⟩
  | x :: L, h => by
    have hL := fun v hv => h v (List.mem_cons_of_mem _ hv)
    obtain ⟨ys, h1, h2, h3⟩ := sort_code (L := L) hL
    obtain ⟨zs, h4, h5⟩ := insF_code (h x List.mem_cons_self) (ys := ys) fun y hy => hL y (h3.mem_iff.mp hy)
    obtain ⟨zs', h6, h7⟩ := insF_some (x := x) (ys := ys) fun y hy => (hL y (h3.mem_iff.mp hy)).cmp (h x List.mem_cons_self)
    have e : zs' = zs := Option.some.inj (h6.symm.trans h4)
    subst e
    exact ⟨zs', by rw [sortP, h1]; exact h4, by rw [h5, h2, List.map_cons, sortI], h7.trans (h3.cons x)⟩
theorem srtK_perm {t : Bool} {L M : List PV} (hL : ∀ v ∈ L, Shp t v) (hm : ∀ v, v ∈ L ↔ v ∈ M) : srtK L = srtK M := by
  have hM : ∀ v ∈ M, Shp t v := fun v hv => hL v ((hm v).mpr hv)
  obtain ⟨ys, h1, h2, h3⟩ := sort_code (L := keysP L) (t := t) fun v hv => hL v (mem_keys.mp hv)
  obtain ⟨zs, h4, h5, h6⟩ := sort_code (L := keysP M) (t := t) fun v hv => hM v (mem_keys.mp hv)
  have p : (keysP L).Perm (keysP M) := (List.perm_ext_iff_of_nodup (nodup_keys _) (nodup_keys _)).mpr fun v => by rw [mem_keys, mem_keys, hm]
  have e : ys.map codeR = zs.map codeR := by rw [h2, h5]; exact sortI_perm_eq (p.map _)
  unfold srtK
  rw [h1, h4]
  show ys = zs
  have inj : ∀ (A B : List PV), (∀ v ∈ A, Shp t v) → (∀ v ∈ B, Shp t v) → A.map codeR = B.map codeR → A = B := by
    intro A
    induction A with
    | nil => intro B _ _ e; cases B with
      | nil => rfl
      | cons _ _ => cases e
    | cons a A ih =>
      intro B hA hB e
      cases B with
      | nil => cases e
      | cons c B =>
        rw [List.map_cons, List.map_cons] at e
        injection e with e1 e2
        rw [code_inj (hA a List.mem_cons_self) (hB c List.mem_cons_self) e1, ih B (fun v hv => hA v (List.mem_cons_of_mem _ hv)) (fun v hv => hB v (List.mem_cons_of_mem _ hv)) e2]
  exact inj ys zs (fun v hv => hL v (mem_keys.mp (h3.mem_iff.mp hv))) (fun v hv => hM v (mem_keys.mp (h6.mem_iff.mp hv))) e
/-- the answers, each with how many rows give it -/
def lensL (rep : Nat → PV) (hs : List Nat) : List (PV × Nat) := (partsL rep hs).map fun p => (p.1, p.2.length)
theorem lens_perm {t : Bool} {rep rep' : Nat → PV} {hs hs' : List Nat} (h : ∀ i ∈ hs, Shp t (rep i)) (p : (hs.map rep).Perm (hs'.map rep')) : lensL rep hs = lensL rep' hs' := by
  unfold lensL partsL
  rw [List.map_map, List.map_map, srtK_perm (L := hs.map rep) (M := hs'.map rep') (t := t) (fun v hv => by
    obtain ⟨i, hi, rfl⟩ := List.mem_map.mp hv
    exact h i hi) fun v => p.mem_iff]
  apply List.map_congr_left
  intro v _
  show (v, (partL rep hs v).length) = (v, (partL rep' hs' v).length)
  have e : ∀ (rep : Nat → PV) (hs : List Nat), (partL rep hs v).length = ((hs.map rep).filter fun x => eqv x v).length := fun rep hs => by
    unfold partL
    rw [List.filter_map, List.length_map]
    rfl
  rw [e, e, (p.filter _).length_eq]
theorem great_lens (rep : Nat → PV) (hs : List Nat) : greatL rep hs = maxL (0 :: (lensL rep hs).map fun p => ((p.2 : Nat) : Int)) := by
  unfold greatL lensL
  rw [List.map_map]
  rfl
end Mi
end

section
set_option autoImplicit false
set_option maxRecDepth 100000
set_option maxHeartbeats 1000000
set_option linter.all false
namespace Mi
section
variable {N n : Nat} {m t u : MH} {a b : Int} {c : Nat}
theorem at3 (d : MO) (x : Nat) : (m ++ d :: (t ++ u))[m.length + (t.length + x + 1)]? = u[x]? := by
  rw [at_app, List.getElem?_cons_succ, at_app]
theorem set3 (d o : MO) (x : Nat) : (m ++ d :: (t ++ u)).set (m.length + (t.length + x + 1)) o = m ++ d :: (t ++ u.set x o) := by
  rw [set_app, List.set_cons_succ, set_app]
theorem len3 (d : MO) : (m ++ d :: (t ++ u)).length = m.length + (t.length + u.length + 1) := by
  simp only [List.length_append, List.length_cons]
theorem end3 (d o : MO) : (m ++ d :: (t ++ u)) ++ [o] = m ++ d :: (t ++ (u ++ [o])) := by simp
/-- what was made within is dropped -/
theorem drop3 {v : PV} {d d' : MO} (hd : pureO d' = true) (hv : pure v = true) : leave .drop (m ++ d :: t) v (m ++ d' :: (t ++ u)) = .ok v (m ++ d' :: t) := by
  have e : m ++ d' :: (t ++ u) = (m ++ d :: t).set m.length d' ++ u := by rw [set_app0]; simp
  show guard (pure v && oldOk (m ++ d :: t) (m ++ d' :: (t ++ u))) (Res.ok v ((m ++ d' :: (t ++ u)).take (m ++ d :: t).length)) = _
  rw [hv, e, oldOk_set _ _ _ _ hd]
  have e2 := List.take_left (l₁ := (m ++ d :: t).set m.length d') (l₂ := u)
  rw [List.length_set] at e2
  rw [e2, set_app0]
  rfl
theorem natV_take (L : List Nat) (i : Nat) : (natV L).take i = natV (L.take i) := by unfold natV; rw [List.map_take]
theorem natV_drop (L : List Nat) (i : Nat) : (natV L).drop i = natV (L.drop i) := by unfold natV; rw [List.map_drop]
theorem natV_len (L : List Nat) : (natV L).length = L.length := by unfold natV; rw [List.length_map]
theorem rem_perm : ∀ (L : List Nat) (r : Nat), r < L.length → (L.getD r 0 :: (L.take r ++ L.drop (r + 1))).Perm L := fun L r h => by
  have e : L = L.take r ++ L.getD r 0 :: L.drop (r + 1) := by
    conv => lhs; rw [← List.take_append_drop r L, List.drop_eq_getElem_cons h]
    rw [List.getD_eq_getElem?_getD, List.getElem?_eq_getElem h]
    rfl
  conv => rhs; rw [e]
  exact List.perm_middle.symm
theorem orderH (h : 2 ≤ N) (hn : n ≤ 50) (hc : c < 800000) : ∃ (o : List Nat) (a' b' : Int) (c' : Nat), Ord n o ∧ c' ≤ c + n ∧ ∀ T : Int, T = (n : Nat) → callD PP N 37 [.loc m.length, .int T] (m ++ d3 a b c :: t) = .ok (tN o) (m ++ d3 a' b' c' :: t) := by
  obtain ⟨N, rfl⟩ := sub_of h
  have body : ∀ (q : Nat) (L F : List Nat) (a b : Int) (c : Nat) (u : MH) (x : Nat) (s4 : Option PV) (fuel : Nat), L.length = q → q < fuel → c + q < 800100 → L.length + F.length ≤ 50 → x ≠ 1 → u[x]? = some (.lst (natV L)) → u[1]? = some (.lst (natV F)) →
      ∃ F' a' b' c' u' x' s4', (F ++ L).Perm F' ∧ c' ≤ c + q ∧ u'[1]? = some (.lst (natV F')) ∧
        whileLoop (fun e m => asB (ev PP (callD PP (N + 1)) (.cmp .gt (.bi .len [(.var 2)]) (.cst (.int 0))) e m)) (fun e m => execs PP (callD PP (N + 1)) [.set 4 (.call 19 [(.var 0), (.bi .len [(.var 2)])]), .exp (.mt .append (.var 3) [(.idx (.var 2) (.var 4))]), .set 2 (.lcat (.lslc (.var 2) none (some (.var 4))) (.lslc (.var 2) (some (.bin .add (.var 4) (.cst (.int 1)))) none))] e m) fuel
          [some (.loc m.length), some (.int (n : Nat)), some (.loc (m.length + (t.length + x + 1))), some (.loc (m.length + (t.length + 1 + 1))), s4] (m ++ d3 a b c :: (t ++ u)) = .ok (.next [some (.loc m.length), some (.int (n : Nat)), some (.loc (m.length + (t.length + x' + 1))), some (.loc (m.length + (t.length + 1 + 1))), s4']) (m ++ d3 a' b' (c' : Nat) :: (t ++ u')) := by
    intro q
    induction q with
    | zero =>
      intro L F a b c u x s4 fuel hq hf hc hl hx hL hF
      obtain ⟨fuel, rfl⟩ : ∃ z, fuel = z + 1 := ⟨fuel - 1, by omega⟩
      have e0 : L = [] := List.length_eq_zero_iff.mp hq
      subst e0
      refine ⟨F, a, b, c, u, x, s4, by rw [List.append_nil], by omega, hF, while_stop ?_⟩
      have ln := len_loc ((at3 (m := m) (t := t) (d3 a b c) x).trans hL)
      simp [ln, natV]
    | succ q ih =>
      intro L F a b c u x s4 fuel hq hf hc hl hx hL hF
      obtain ⟨fuel, rfl⟩ : ∃ z, fuel = z + 1 := ⟨fuel - 1, by omega⟩
      have ln := len_loc ((at3 (m := m) (t := t) (d3 a b c) x).trans hL)
      rw [natV_len] at ln
      obtain ⟨r, c2, a2, b2, hr, k1, x19⟩ := rollH (N := N + 1) (by omega) (m := m) (t := t ++ u) (a := a) (b := b) (c := c) (tot := L.length) (by omega) (by omega) (by omega)
      have hL2 : (m ++ d3 a2 b2 c2 :: (t ++ u))[m.length + (t.length + x + 1)]? = some (.lst (natV L)) := (at3 _ x).trans hL
      have hF2 : (m ++ d3 a2 b2 c2 :: (t ++ u))[m.length + (t.length + 1 + 1)]? = some (.lst (natV F)) := (at3 _ 1).trans hF
      have ix : idxV (.loc (m.length + (t.length + x + 1))) (.int (r : Nat)) (m ++ d3 a2 b2 c2 :: (t ++ u)) = some (.int (L.getD r 0 : Nat)) := by
        rw [idxl_list hL2, ix_nat _ _ (by rw [natV_len]; exact hr)]
        show (natV L)[r]? = _
        unfold natV
        rw [List.getElem?_map, List.getElem?_eq_getElem hr, List.getD_eq_getElem?_getD, List.getElem?_eq_getElem hr]
        rfl
      have rc : recvOk .append (.loc (m.length + (t.length + 1 + 1))) (m ++ d3 a2 b2 c2 :: (t ++ u)) = true := by
        show (listAt _ _).isSome = true
        rw [listAt_loc hF2]
        rfl
      have ap : mtV .append (.loc (m.length + (t.length + 1 + 1))) [.int (L.getD r 0 : Nat)] (m ++ d3 a2 b2 c2 :: (t ++ u)) = .ok .non (m ++ d3 a2 b2 c2 :: (t ++ u.set 1 (.lst (natV (F ++ [L.getD r 0]))))) := by
        have w : wlistAt (m ++ d3 a2 b2 c2 :: (t ++ u)) (m.length + (t.length + 1 + 1)) = some (natV F) := by unfold wlistAt; rw [hF2]
        simp only [mtV, appV, w]
        rw [guard_of (decide_eq_true (by rw [natV_len]; unfold lineP; omega)), set3, natV_app]
        rfl
      have hL3 : (m ++ d3 a2 b2 c2 :: (t ++ u.set 1 (.lst (natV (F ++ [L.getD r 0])))))[m.length + (t.length + x + 1)]? = some (.lst (natV L)) := by
        rw [at3, List.getElem?_set_ne (fun z => hx z.symm)]
        exact hL
      have tl := toLL_loc hL3
      have cat : evX PP (callD PP (N + 1)) (.lcat (.lslc (.var 2) none (some (.var 4))) (.lslc (.var 2) (some (.bin .add (.var 4) (.cst (.int 1)))) none)) [some (.loc m.length), some (.int (n : Nat)), some (.loc (m.length + (t.length + x + 1))), some (.loc (m.length + (t.length + 1 + 1))), some (.int (r : Nat))] (m ++ d3 a2 b2 c2 :: (t ++ u.set 1 (.lst (natV (F ++ [L.getD r 0]))))) = .ok (.tmp (natV (L.take r ++ L.drop (r + 1)))) (m ++ d3 a2 b2 c2 :: (t ++ u.set 1 (.lst (natV (F ++ [L.getD r 0]))))) := by
        have e1 : (r : Int) + 1 = ((r + 1 : Nat) : Int) := by omega
        have e2 : decide ((natV (L.take r)).length + (natV (L.drop (r + 1))).length ≤ lineP) = true := decide_eq_true (by rw [natV_len, natV_len, List.length_take, List.length_drop]; unfold lineP; omega)
        rw [natV_app (L.take r) (L.drop (r + 1))]
        simp only [x_lcat, x_lslc, x_var, List.getElem?_cons_zero, List.getElem?_cons_succ, Res.bind_ok, toV_val, o_none, o_some, x_bin, x_cst, bin_addI, e1, tl, cutT, cutD, natV_take, natV_drop, toM_tmp, e2, guard_true]
      generalize hy : L.getD r 0 = y at *
      have pm := rem_perm L r hr
      rw [hy] at pm
      have hu1 : 1 < u.length := (List.getElem?_eq_some_iff.mp hF).1
      obtain ⟨F', a', b', c', u', x', s4', y1, y2, y3, y4⟩ := ih (L.take r ++ L.drop (r + 1)) (F ++ [y]) a2 b2 c2 (u.set 1 (.lst (natV (F ++ [y]))) ++ [.lst (natV (L.take r ++ L.drop (r + 1)))]) u.length (some (.int (r : Nat))) fuel (by
          have := pm.length_eq
          rw [List.length_cons] at this
          omega) (by omega) (by omega) (by
          have := pm.length_eq
          simp only [List.length_cons, List.length_append, List.length_nil] at this ⊢
          omega) (by omega) (by rw [List.getElem?_append_right (by rw [List.length_set]; exact Nat.le_refl _), List.length_set, Nat.sub_self]; rfl) (by rw [List.getElem?_append_left (by rw [List.length_set]; exact hu1), List.getElem?_set_self hu1])
      refine ⟨F', a', b', c', u', x', s4', ?_, by omega, y3, (while_step (m1 := m ++ d3 a b c :: (t ++ u)) ?_ ?_).trans y4⟩
      · refine List.Perm.trans ?_ y1
        rw [List.append_assoc]
        exact List.Perm.append_left F pm.symm
      · have : (0 : Int) < (L.length : Nat) := by omega
        simp [ln]
        omega
      · rw [ss_next (e' := [some (.loc m.length), some (.int (n : Nat)), some (.loc (m.length + (t.length + x + 1))), some (.loc (m.length + (t.length + 1 + 1))), some (.int (r : Nat))]) (m' := m ++ d3 a2 b2 c2 :: (t ++ u)) (by simp [ln, x19 _ rfl])]
        rw [ss_next (e' := [some (.loc m.length), some (.int (n : Nat)), some (.loc (m.length + (t.length + x + 1))), some (.loc (m.length + (t.length + 1 + 1))), some (.int (r : Nat))]) (m' := m ++ d3 a2 b2 c2 :: (t ++ u.set 1 (.lst (natV (F ++ [y]))))) (by
          simp only [st_exp, x_mt, x_var, List.getElem?_cons_zero, List.getElem?_cons_succ, Res.bind_ok, toV_val, rc, guard_true, s_cons, s_nil, x_idx, ix, ofO_some, ap])]
        simp only [ss_cons, st_set, ev_def, cat, Res.bind_ok, toV_tmp, ss_nil, len3, end3, List.length_set, List.set_cons_zero, List.set_cons_succ]
  obtain ⟨F', a', b', c', u', x', s4', y1, y2, y3, y4⟩ := body n (List.range n) [] a b c [.lst (natV (List.range n)), .lst []] 0 none fuelW List.length_range (by unfold fuelW; omega) (by omega) (by rw [List.length_range]; simp; omega) (by omega) rfl rfl
  have pr : F'.Perm (List.range n) := by rw [List.nil_append] at y1; exact y1.symm
  refine ⟨F', a', b', c', ⟨by rw [pr.length_eq, List.length_range], fun x hx => List.mem_range.mp (pr.mem_iff.mp hx), pr.nodup_iff.mpr List.nodup_range⟩, y2, fun T hT => ?_⟩
  subst hT
  rw [call_raw (d := D.d37) rfl rfl rfl]
  unfold runB D.d37
  simp only [List.map, List.length, List.replicate, List.cons_append, List.nil_append]
  have p1 : exec PP (callD PP (N + 1)) (.par [2, 3] [(.lof (.rng1 (.var 1))), (.lst [])]) [some (.loc m.length), some (.int (n : Nat)), none, none, none] (m ++ d3 a b c :: t) = .ok (.next [some (.loc m.length), some (.int (n : Nat)), some (.loc (m.length + (t.length + 0 + 1))), some (.loc (m.length + (t.length + 1 + 1))), none]) (m ++ d3 a b c :: (t ++ [.lst (natV (List.range n)), .lst []])) := by
    have rg := rng1_nat (P := PP) (C := callD PP (N + 1)) (a := .var 1) (e := [some (.loc m.length), some (.int (n : Nat)), none, none, none]) (m := m ++ d3 a b c :: t) (m0 := m ++ d3 a b c :: t) (n := n) (by simp) (by omega)
    have tc : toC (.val (.rng 0 (n : Nat))) (m ++ d3 a b c :: t) = .ok (natV (List.range n)) (m ++ d3 a b c :: t) := toL_rng n (by omega) _
    simp only [st_par, s_cons, s_nil, x_lof, rg, Res.bind_ok, tc, toV_tmp, x_lst, unpack]
    simp
  rw [ss_next p1, ss_next (by rw [st_wle]; exact y4)]
  have hF2 : (m ++ d3 a' b' c' :: (t ++ u'))[m.length + (t.length + 1 + 1)]? = some (.lst (natV F')) := (at3 _ 1).trans y3
  simp only [ss_cons, st_ret, ev_def, x_tof, x_var, List.getElem?_cons_zero, List.getElem?_cons_succ, Res.bind_ok, toV_val, toC_loc hF2]
  exact drop3 (d3_pure ..) (pure_tN F')
end
end Mi
end

section
set_option autoImplicit false
set_option maxRecDepth 100000
set_option maxHeartbeats 1000000
set_option linter.all false
namespace Mi
abbrev RR (b : Int × Int) : MO := .lst ((rowsB b).map tt)
theorem len_rows {b : Int × Int} (hb : b ∈ boards) (m t : MH) (d : MO) : biV .len [.loc (m.length + 1)] (m ++ d :: RR b :: t) = some (.int (num b : Nat)) := by
  rw [len_at]
  show some (PV.int (((rowsB b).map tt).length : Nat)) = _
  rw [List.length_map, (bf hb).len]
theorem idx_rowsA {b : Int × Int} (hb : b ∈ boards) (m t : MH) (d : MO) {i : Nat} (hi : i < num b) : idxV (.loc (m.length + 1)) (.int (i : Nat)) (m ++ d :: RR b :: t) = some (tt (rwB b i)) := idx_rows hb (by rw [at_app]; rfl) hi
/-- a drawn part of the first n numbers -/
theorem subH {N n : Nat} {m t : MH} {a b : Int} {c : Nat} (h : 1 ≤ N) {own : List Nat} {i : Nat} {it : Ex} {d : Nat} {e : Env} (hn : n ≤ 1000) (hc : c + n < 800000) (hd : ∀ z : Nat, ((wipe own e).set i (some (.int (z : Nat))))[d]? = some (some (.loc m.length))) (hi : i < e.length)
    (hit : evX PP (callD PP N) it e (m ++ d3 a b c :: t) = .ok (.val (.rng 0 (n : Nat))) (m ++ d3 a b c :: t)) (hw : (wipe own e).length = e.length) :
    ∃ (L : List Nat) (a' b' : Int) (c' : Nat), L.Sublist (List.range n) ∧ c' ≤ c + n ∧ evX PP (callD PP N) (.lcm own (.one i) it [(.cmp .eq (.call 19 [(.var d), (.cst (.int 2))]) (.cst (.int 0)))] (.var i)) e (m ++ d3 a b c :: t) = .ok (.tmp (natV L)) (m ++ d3 a' b' c' :: t) := by
  obtain ⟨ys, m', h1, sub, a1, b1, c1, q1, q3, q4, q5⟩ := lcm_eff (P := PP) (C := callD PP N) (m := m ++ d3 a b c :: t) (m0 := m ++ d3 a b c :: t) (own := own) (tg := .one i) (it := it) (cs := [(.cmp .eq (.call 19 [(.var d), (.cst (.int 2))]) (.cst (.int 0)))]) (a := .var i) (e := e) (x := .val (.rng 0 (n : Nat)))
    (List.range n) (fun i => .int (i : Nat)) (fun z => (wipe own e).set i (some (.int (z : Nat))))
    (fun pre acc m' => ∃ (sub : List Nat) (a' b' : Int) (c' : Nat), m' = m ++ d3 a' b' c' :: t ∧ c' ≤ c + pre.length ∧ acc = natV sub ∧ sub.Sublist pre) hit (toL_rng n (by omega) _) (fun _ _ _ _ => rfl) ⟨[], a, b, c, rfl, by simp, rfl, List.nil_sublist _⟩ (fun i _ => rfl) (by
      intro pre z rest acc m' hL ⟨sub, a', b', c', e1, e3, e4, e5⟩
      subst e1
      have hpl : pre.length < n := by
        have := congrArg List.length hL
        rw [List.length_range, List.length_append, List.length_cons] at this
        omega
      obtain ⟨r, c2, a2, b2, r1, r3, r4⟩ := rollH (N := N) h (m := m) (t := t) (a := a') (b := b') (c := c') (tot := 2) (by omega) (by omega) (by omega)
      have r4 := r4 2 rfl
      have sl : acc.length ≤ pre.length := by rw [e4]; unfold natV; rw [List.length_map]; exact e5.length_le
      have vz : ((wipe own e).set i (some (.int (z : Nat))))[i]? = some (some (.int (z : Nat))) := List.getElem?_set_self (by rw [hw]; exact hi)
      by_cases y : r = 0
      · subst y
        refine .inl ⟨m ++ d3 a2 b2 c2 :: t, m ++ d3 a2 b2 c2 :: t, .int (z : Nat), ?_, ?_, by unfold lineP; omega, sub ++ [z], a2, b2, c2, rfl, ?_, ?_, ?_⟩
        · simp only [c_cons, x_cmp, x_call, s_cons, s_nil, x_var, hd z, x_cst, Res.bind_ok, toV_val, r4, cmp_eqI, ofB_some, asB_ok, c_nil]
          rfl
        · simp only [x_var, vz, Res.bind_ok, toV_val]
        · rw [List.length_append, List.length_singleton]; omega
        · rw [e4]; unfold natV; rw [List.map_append]; rfl
        · exact e5.append (List.Sublist.refl _)
      · refine .inr ⟨m ++ d3 a2 b2 c2 :: t, ?_, sub, a2, b2, c2, rfl, ?_, e4, e5.trans (List.sublist_append_left ..)⟩
        · have y' : ¬ ((r : Nat) : Int) = 0 := by omega
          simp only [c_cons, x_cmp, x_call, s_cons, s_nil, x_var, hd z, x_cst, Res.bind_ok, toV_val, r4, cmp_eqI, ofB_some, asB_ok, decide_eq_false y', Bool.false_eq_true, if_false]
        · rw [List.length_append, List.length_singleton]; omega)
  rw [List.length_range] at q3
  exact ⟨sub, a1, b1, c1, q5, q3, by rw [h1, q1, q4]⟩
theorem sub_HS {n : Nat} {L : List Nat} (h : L.Sublist (List.range n)) : HS n L := ⟨List.pairwise_lt_range.sublist h, fun i hi => List.mem_range.mp (h.subset hi)⟩
theorem rows_nd : (boards.all fun b => decide (rowsB b).Nodup) = true := by decide +kernel
/-- the number of a row -/
def numR (b : Int × Int) (r : List Int) : Nat := (rowsB b).idxOf r
theorem numR_at {b : Int × Int} (hb : b ∈ boards) {r : List Int} (R : RowOk b r) : (rowsB b)[numR b r]? = some r ∧ numR b r < num b ∧ rwB b (numR b r) = r := by
  have hm := (row_mem hb).mp R
  have hl : numR b r < (rowsB b).length := List.idxOf_lt_length_of_mem hm
  have e : (rowsB b)[numR b r]? = some r := by
    rw [List.getElem?_eq_getElem hl]
    congr 1
    exact List.getElem_idxOf hl
  refine ⟨e, by rw [← (bf hb).len]; exact hl, ?_⟩
  unfold rwB
  rw [List.getD_eq_getElem?_getD, e]
  rfl
theorem rwB_row {b : Int × Int} (hb : b ∈ boards) {i : Nat} (hi : i < num b) : RowOk b (rwB b i) := (row_mem hb).mpr (mem_rwB hb hi)
theorem numR_rw {b : Int × Int} (hb : b ∈ boards) {i : Nat} (hi : i < num b) : numR b (rwB b i) = i := by
  obtain ⟨e, h, _⟩ := numR_at hb (rwB_row hb hi)
  have nd : (rowsB b).Nodup := of_decide_eq_true (List.all_eq_true.mp rows_nd b hb)
  have e2 : (rowsB b)[i]? = some (rwB b i) := row_ex hb hi
  obtain ⟨p1, p2⟩ := List.getElem?_eq_some_iff.mp e
  obtain ⟨p3, p4⟩ := List.getElem?_eq_some_iff.mp e2
  exact (List.getElem_inj nd).mp (p2.trans p4.symm)
section
variable {N : Nat} {k : PySem.Str} {b : Int × Int}
theorem cl15R (h : 7 ≤ N) (hb : b ∈ boards) {k2 : PySem.Str} (hk : k2 ∈ kinds) {r q : List Int} (R : RowOk b r) (Q : RowOk b q) (m : MH) : callD PP N 15 [gm k2 b, tt r, tt q] m = .ok (ansR k2 r q) m := cl15 h hk hb (numR_at hb R).1 (numR_at hb Q).1 m
theorem cl12R (h : 7 ≤ N) (hk : k ∈ kinds) (hb : b ∈ boards) {r : List Int} (R : RowOk b r) (m : MH) : callD PP N 12 [gm k b, tt r] m = .ok (.int (numR b r : Nat)) m := cl12 h hk hb (numR_at hb R).1 m
theorem k_stays (n : Nat) : (kinds.map fun k => callD PP (n + 1) 39 [.str k, .bl true] []) = (kinds.map fun k => Res.ok (.bl (decide (k ∈ staysH))) []) ∧ (kinds.map fun k => callD PP (n + 1) 39 [.str k, .bl false] []) = (kinds.map fun k => Res.ok (.bl (decide (k ∈ staysP))) []) := ⟨by kernel_rfl, by kernel_rfl⟩
theorem cl39 (h : 1 ≤ N) {k2 : PySem.Str} (hk : k2 ∈ kinds) (m : MH) : callD PP N 39 [.str k2, .bl true] m = .ok (.bl (decide (k2 ∈ staysH))) m ∧ callD PP N 39 [.str k2, .bl false] m = .ok (.bl (decide (k2 ∈ staysP))) m := by
  obtain ⟨n, rfl⟩ := sub_of h
  have p : ∀ x : Bool, pures [.str k2, .bl x] = true := fun x => by rw [pures, pure_k hk]; rfl
  exact ⟨call_any (d := D.d39) rfl rfl (p _) (map_at (k_stays n).1 hk) m, call_any (d := D.d39) rfl rfl (p _) (map_at (k_stays n).2 hk) m⟩
theorem ne_ansR (k : PySem.Str) (xs ys : List Int) (m : MH) : cmpV .ne (ansR k xs ys) (ansR k xs ys) m = some false := ne_ans k xs ys m
theorem gm_tup (k : PySem.Str) (b : Int × Int) : PV.tup [.str k, .int b.1, .int b.2] = gm k b := rfl
end
/-- two lists of the same trees -/
theorem ne_lists {m : MH} {i j : Nat} {xs : List PV} (h1 : m[i]? = some (.lst xs)) (h2 : m[j]? = some (.lst xs)) (p : pures xs = true) (d : depths xs ≤ 60) (e : eqvs xs xs = true) : cmpV .ne (.loc i) (.loc j) m = some false := by
  have s : ∀ {i : Nat}, m[i]? = some (.lst xs) → sideOf (.loc i) m = some (true, .tup xs) := fun {i} h => by
    unfold sideOf
    simp only [listAt_loc h, p, decide_eq_true d, Bool.and_self, if_true]
  show (eqH m _ _).map _ = _
  unfold eqH
  rw [s h1, s h2]
  show some (!(if (true == true) = true then eqv (.tup xs) (.tup xs) else false)) = _
  rw [eqv, e]
  rfl
def lenP (p : PV × Nat) : PV := .tup [p.1, .int (p.2 : Nat)]
theorem lenP_list : ∀ L : List (PV × Nat), (∀ p ∈ L, isI p.1 = true) → pures (L.map lenP) = true ∧ depths (L.map lenP) ≤ 2 ∧ eqvs (L.map lenP) (L.map lenP) = true
  | [], _ => ⟨rfl, by simp [depths], rfl⟩
  | p :: L, h => by
    obtain ⟨i1, i2, i3⟩ := lenP_list L fun q hq => h q (List.mem_cons_of_mem _ hq)
    obtain ⟨j1, j2, j3⟩ := isI_eqv (h p List.mem_cons_self)
    have d : depth p.1 ≤ 1 := by
      have := h p List.mem_cons_self
      revert this
      unfold isI
      split
      · rename_i e; intro _; rw [e]; simp [depth]
      · rename_i e; intro _; rw [e]; simp [depth, depths]
      · intro z; cases z
    have e1 : pure (lenP p) = true := by
      show pures [p.1, .int (p.2 : Nat)] = true
      rw [pures, pures, j2]
      rfl
    have e2 : depth (lenP p) ≤ 2 := by
      unfold lenP
      rw [depth, depths, depths, depths]
      have : depth (PV.int (p.2 : Nat)) = 0 := rfl
      omega
    have e3 : eqv (lenP p) (lenP p) = true := by
      unfold lenP
      rw [eqv, eqvs, eqvs, eqvs, j1, eqv]
      simp
    rw [List.map_cons, pures, depths, eqvs, i1, i3, e1, e3]
    exact ⟨rfl, by omega, rfl⟩
section
variable {ns : List Int} {k : PySem.Str} {b : Int × Int} {hs : List Nat} {E : Env} {m : MH} {a b0 : Int} {c j : Nat} {one other : List Int} {ho po : List Nat}
theorem turn01d (hk : k ∈ kinds) (hb : b ∈ boards) (R2 : RowOk b other) (O1 : Ord b.1.toNat ho) (hc : c ≤ 390) (t : MH) (K : Kp 25 ns E) (g2 : E[2]? = some (some (.loc m.length))) (g3 : E[3]? = some (some (gm k b))) (g4 : E[4]? = some (some (.loc (m.length + 1)))) (g11 : E[11]? = some (some (tt other))) (g12 : E[12]? = some (some (tN ho))) :
    Gd 25 ns (execs PP (callD PP 9) ((turnOf D.d41).drop 12) E (m ++ d3 a b0 c :: RR b :: t)) := by
  have hl := K.len
  have h0 := K.at0
  have f := bf hb
  have f36 := f.le
  have ln := fun t d => len_rows hb m t d
  unfold turnOf D.d41
  simp only [List.drop]
  obtain ⟨hs, aA, bA, cA, sb, c1, xs⟩ := subH (N := 9) (by omega) (m := m) (t := RR b :: t) (a := a) (b := b0) (c := c) (own := [20]) (i := 20) (d := 2) (it := .rng1 (.bi .len [(.var 4)])) (e := E) (n := num b) (by omega) (by omega) (fun z => by simp [-getElem?_pos, List.getElem?_cons_zero, hl, permute, g2]) (by rw [hl]; omega) (rng1_nat (by simp [-getElem?_pos, List.getElem?_cons_zero, hl, permute, g4, ln]) (by omega)) (by simp)
  have H := sub_HS sb
  refine Gd.set (v := tN hs) (m' := m ++ d3 aA bA cA :: RR b :: t) (by rw [x_tof, xs]; rfl) ?_
  obtain ⟨n1, n2, n3⟩ := numR_at hb R2
  refine Gd.set (v := .int (numR b other : Nat)) (m' := m ++ d3 aA bA cA :: RR b :: t) (by simp [-getElem?_pos, List.getElem?_cons_zero, hl, permute, g3, g11, cl12R (N := 9) (by omega) hk hb R2]) ?_
  by_cases st : k ∈ staysH
  case neg =>
    have x39 := fun m => (cl39 (N := 9) (by omega) hk m).1
    refine Gd.chk (m' := m ++ d3 aA bA cA :: RR b :: t) (by simp [-getElem?_pos, List.getElem?_cons_zero, hl, permute, g3, x39, st]) ?_
    exact Gd.nil ⟨by simp [hl], by simp [-getElem?_pos, List.getElem?_cons_zero, hl, permute, h0]⟩
  have x39 := fun m => (cl39 (N := 9) (by omega) hk m).1
  -- rows that are moved
  have h1 := f.h1
  have ga : ∀ i, i < num b → numR b (hmI ho (rwB b i)) < num b ∧ rwB b (numR b (hmI ho (rwB b i))) = hmI ho (rwB b i) := fun i hi => by
    obtain ⟨_, q1, q2⟩ := numR_at hb (hm_row h1 O1 (rwB_row hb hi))
    exact ⟨q1, q2⟩
  have gi : ∀ i j, i < num b → j < num b → numR b (hmI ho (rwB b i)) = numR b (hmI ho (rwB b j)) → i = j := fun i j hi hj e => by
    have e1 : hmI ho (rwB b i) = hmI ho (rwB b j) := by rw [← (ga i hi).2, ← (ga j hj).2, e]
    have e2 : rwB b i = rwB b j := by
      rw [← hm_back O1 (r := rwB b i) (fun x hx => by have := (rwB_row hb hi).lt x hx; omega), ← hm_back O1 (r := rwB b j) (fun x hx => by have := (rwB_row hb hj).lt x hx; omega), e1]
    rw [← numR_rw hb hi, ← numR_rw hb hj, e2]
  have nd : (hs.map fun i => numR b (hmI ho (rwB b i))).Nodup := by
    rw [List.nodup_iff_pairwise_ne, List.pairwise_map]
    refine H.rise.imp_of_mem fun {x y} hx hy lt e => ?_
    have := gi x y (H.lt x hx) (H.lt y hy) e
    omega
  obtain ⟨hs', w1, w2, w3⟩ := sort_nats _ nd
  have H' : HS (num b) hs' := ⟨w2, fun i hi => by
    obtain ⟨j, hj, rfl⟩ := List.mem_map.mp (w3.mem_iff.mp hi)
    exact (ga j (H.lt j hj)).1⟩
  have hgoal : numR b (hmI ho other) < num b ∧ rwB b (numR b (hmI ho other)) = hmI ho other := by
    have := ga (numR b other) n2
    rw [n3] at this
    exact this
  have hrep : (hs.map fun i => An k b i (numR b other)).Perm (hs'.map fun i => An k b i (numR b (hmI ho other))) := by
    refine List.Perm.trans ?_ (w3.map _).symm
    rw [List.map_map]
    rw [List.map_congr_left (g := (fun i => An k b i (numR b (hmI ho other))) ∘ fun i => numR b (hmI ho (rwB b i))) fun i hi => ?_]
    show An k b i (numR b other) = ansR k (rwB b (numR b (hmI ho (rwB b i)))) (rwB b (numR b (hmI ho other)))
    rw [(ga i (H.lt i hi)).2, hgoal.2, ans_hm hb O1 st (rwB_row hb (H.lt i hi)) R2]
    show ansR k (rwB b i) (rwB b (numR b other)) = _
    rw [n3]
  have hS := shp_hs hk hb H n2
  have hS' := shp_hs hk hb H' hgoal.1
  have same := lens_perm hS hrep
  have gr : greatL (fun i => An k b i (numR b other)) hs = greatL (fun i => An k b i (numR b (hmI ho other))) hs' := by rw [great_lens, great_lens, same]
  have inner : Gd 25 ns (execs PP (callD PP 9) [.set 16 (.tof (.srt (.lcm [20] (.one 20) (.var 8) [] (.call 12 [(.var 3), (.call 30 [(.var 3), (.idx (.var 4) (.var 20)), (.var 12)])])))), .set 17 (.call 12 [(.var 3), (.call 30 [(.var 3), (.var 11), (.var 12)])]), .par [18, 19] [(.call 35 [(.var 3), (.var 8), (.var 9)]), (.call 35 [(.var 3), (.var 16), (.var 17)])], .ife (.cmp .ne (.lcm [23, 24] (.two 23 24) (.var 18) [] (.tup [(.var 23), (.bi .len [(.var 24)])])) (.lcm [23, 24] (.two 23 24) (.var 19) [] (.tup [(.var 23), (.bi .len [(.var 24)])]))) [.ret (.cst (.bl false))] [], .ife (.cmp .ne (.call 36 [(.var 3), (.var 8), (.var 9)]) (.call 36 [(.var 3), (.var 16), (.var 17)])) [.ret (.cst (.bl false))] []] ((E.set 8 (some (tN hs))).set 9 (some (.int (numR b other : Nat)))) (m ++ d3 aA bA cA :: RR b :: t)) := by
    have e16 : ∀ {E : Env} (hl : E.length = 25) (g3 : E[3]? = some (some (gm k b))) (g4 : E[4]? = some (some (.loc (m.length + 1)))) (g8 : E[8]? = some (some (tN hs))) (g12 : E[12]? = some (some (tN ho))), (evX PP (callD PP 9) (.tof (.srt (.lcm [20] (.one 20) (.var 8) [] (.call 12 [(.var 3), (.call 30 [(.var 3), (.idx (.var 4) (.var 20)), (.var 12)])])))) E (m ++ d3 aA bA cA :: RR b :: t)).bind toV = .ok (tN hs') (m ++ d3 aA bA cA :: RR b :: t) := by
      intro E hl g3 g4 g8 g12
      have e1 := lcM (P := PP) (C := callD PP 9) (own := [20]) (tg := .one 20) (it := .var 8) (a := .call 12 [(.var 3), (.call 30 [(.var 3), (.idx (.var 4) (.var 20)), (.var 12)])]) (e := E) (m := m ++ d3 aA bA cA :: RR b :: t) (m0 := m ++ d3 aA bA cA :: RR b :: t) hs (fun i => .int (i : Nat)) (fun i => .int (numR b (hmI ho (rwB b i)) : Nat)) (Wk.nats (by simp [-getElem?_pos, List.getElem?_cons_zero, hl, permute, g8])) (by have := H.len; omega) (fun i hi => ⟨_, rfl, by
        have hi := H.lt i hi
        simp [-getElem?_pos, List.getElem?_cons_zero, hl, permute, g3, g4, g12, idx_rowsA hb m _ _ hi, cl30 (N := 9) (by omega) hk hb (rwB_row hb hi) O1, cl12R (N := 9) (by omega) hk hb (hm_row h1 O1 (rwB_row hb hi))]⟩)
      have e2 : (hs.map fun i => PV.int (numR b (hmI ho (rwB b i)) : Nat)) = ((hs.map fun i => numR b (hmI ho (rwB b i))).map fun i => ((i : Nat) : Int)).map PV.int := by rw [List.map_map, List.map_map]; rfl
      rw [e2] at e1
      have so : sortP (((hs.map fun i => numR b (hmI ho (rwB b i))).map fun i => ((i : Nat) : Int)).map PV.int) = some (natV hs') := by
        rw [sort_ints, w1]
        unfold natV
        rw [List.map_map]
        rfl
      simp only [x_tof, x_srt, e1, Res.bind_ok, toLL_tmp, intsB_ints, guard_true, so, ofO_some, toC_tmp, toV_val]
      rfl
    refine Gd.set (e16 (by simp [hl]) (by simp [-getElem?_pos, List.getElem?_cons_zero, hl, permute, g3]) (by simp [-getElem?_pos, List.getElem?_cons_zero, hl, permute, g4]) (by simp [-getElem?_pos, List.getElem?_cons_zero, hl, permute]) (by simp [-getElem?_pos, List.getElem?_cons_zero, hl, permute, g12])) ?_
    refine Gd.set (v := .int (numR b (hmI ho other) : Nat)) (m' := m ++ d3 aA bA cA :: RR b :: t) (by simp [-getElem?_pos, List.getElem?_cons_zero, hl, permute, g3, g11, g12, cl30 (N := 9) (by omega) hk hb R2 O1, cl12R (N := 9) (by omega) hk hb (hm_row h1 O1 R2)]) ?_
    refine Gd.par (m' := m ++ d3 aA bA cA :: RR b :: t) (vs := [partsV (fun i => An k b i (numR b other)) hs, partsV (fun i => An k b i (numR b (hmI ho other))) hs']) (by simp [-getElem?_pos, List.getElem?_cons_zero, hl, permute, g3, cl35 (N := 9) (by omega) hk hb H n2, cl35 (N := 9) (by omega) hk hb H' hgoal.1]) rfl ?_
    refine Gd.chk (m' := m ++ d3 aA bA cA :: RR b :: (t ++ [.lst ((lensL (fun i => An k b i (numR b other)) hs).map lenP), .lst ((lensL (fun i => An k b i (numR b other)) hs).map lenP)])) (by
      have ls : ∀ {E : Env} {M : MH} {v : Nat} {rep : Nat → PV} {hs : List Nat} (hl : E.length = 25) (gv : E[v]? = some (some (partsV rep hs))) (hv : v < 20) (hp : (partsL rep hs).length ≤ 1000), evX PP (callD PP 9) (.lcm [23, 24] (.two 23 24) (.var v) [] (.tup [(.var 23), (.bi .len [(.var 24)])])) E M = .ok (.tmp ((lensL rep hs).map lenP)) M := by
        intro E M v rep hs hl gv hv hp
        rw [lcM (m0 := M) (partsL rep hs) partP (fun p => lenP (p.1, p.2.length)) (Wk.tup (by simp only [x_var, gv]; rfl)) (by omega) (fun p _ => ⟨_, rfl, by
          have e1 : (((wipe [23, 24] E).set 23 (some p.1)).set 24 (some (tN p.2)))[24]? = some (some (tN p.2)) := List.getElem?_set_self (by simp [hl])
          have e2 : (((wipe [23, 24] E).set 23 (some p.1)).set 24 (some (tN p.2)))[23]? = some (some p.1) := by rw [List.getElem?_set_ne (by omega)]; exact List.getElem?_set_self (by simp [hl])
          simp only [x_tup, x_bi, s_cons, s_nil, x_var, e1, e2, Res.bind_ok, toV_val, lenN, ofO_some]
          rfl⟩)]
        unfold lensL
        rw [List.map_map]
        rfl
      have z1 := (partsL_len hS).2
      have z2 := (partsL_len hS').2
      have z3 := H.len
      have z4 := H'.len
      have lI : ∀ p ∈ lensL (fun i => An k b i (numR b other)) hs, isI p.1 = true := fun p hp => by
        obtain ⟨q, hq, rfl⟩ := List.mem_map.mp hp
        exact (partsL_isI hS q hq).1
      obtain ⟨y1, y2, y3⟩ := lenP_list _ lI
      rw [x_cmp, ls (v := 18) (rep := fun i => An k b i (numR b other)) (hs := hs) (by simp [hl]) (by simp [-getElem?_pos, List.getElem?_cons_zero, hl, permute]) (by omega) (by omega)]
      simp only [Res.bind_ok, toV_tmp]
      rw [ls (v := 19) (rep := fun i => An k b i (numR b (hmI ho other))) (hs := hs') (by simp [hl]) (by simp [-getElem?_pos, List.getElem?_cons_zero, hl, permute]) (by omega) (by omega), ← same]
      generalize (lensL (fun i => An k b i (numR b other)) hs).map lenP = Z at y1 y2 y3
      have nl := ne_lists (m := m ++ d3 aA bA cA :: RR b :: (t ++ [.lst Z, .lst Z])) (i := m.length + (t.length + 2)) (j := m.length + (t.length + 3)) (xs := Z) (by rw [at_app]; simp) (by rw [at_app]; simp) y1 (by omega) y3
      simp only [Res.bind_ok, toV_tmp]
      have l1 : (m ++ d3 aA bA cA :: RR b :: t).length = m.length + (t.length + 2) := by simp
      have l2 : ((m ++ d3 aA bA cA :: RR b :: t) ++ [MO.lst Z]).length = m.length + (t.length + 3) := by simp
      have l3 : ((m ++ d3 aA bA cA :: RR b :: t) ++ [MO.lst Z]) ++ [MO.lst Z] = m ++ d3 aA bA cA :: RR b :: (t ++ [.lst Z, .lst Z]) := by simp
      rw [l1, l2, l3, nl]
      rfl) ?_
    refine Gd.chk (m' := m ++ d3 aA bA cA :: RR b :: (t ++ [.lst ((lensL (fun i => An k b i (numR b other)) hs).map lenP), .lst ((lensL (fun i => An k b i (numR b other)) hs).map lenP)])) (by
      have x1 := cl36 (N := 9) (by omega) hk hb H n2
      have x2 := cl36 (N := 9) (by omega) hk hb H' hgoal.1
      rw [gr] at x1
      simp [-getElem?_pos, List.getElem?_cons_zero, hl, permute, g3, x1, x2, ne_int]) ?_
    exact Gd.nil ⟨by simp [hl], by simp [-getElem?_pos, List.getElem?_cons_zero, hl, permute, h0]⟩
  obtain ⟨e2, m2, i1, i2⟩ := inner
  refine Gd.yes (m' := m ++ d3 aA bA cA :: RR b :: t) (by simp [-getElem?_pos, List.getElem?_cons_zero, hl, permute, g3, x39, st]) i1 (Gd.nil i2)
end
end Mi
end

section
set_option autoImplicit false
set_option maxRecDepth 100000
set_option maxHeartbeats 1000000
set_option linter.all false
namespace Mi
section
variable {ns : List Int} {k : PySem.Str} {b : Int × Int} {hs : List Nat} {E : Env} {m : MH} {a b0 : Int} {c j : Nat} {one other : List Int} {ho po : List Nat}
theorem turn01c (hk : k ∈ kinds) (hb : b ∈ boards) (R1 : RowOk b one) (R2 : RowOk b other) (O1 : Ord b.1.toNat ho) (O2 : Ord b.2.toNat po) (hc : c ≤ 390) (t : MH) (K : Kp 25 ns E) (g2 : E[2]? = some (some (.loc m.length))) (g3 : E[3]? = some (some (gm k b))) (g4 : E[4]? = some (some (.loc (m.length + 1)))) (g5 : E[5]? = some (some (tt (hmI ho one)))) (g6 : E[6]? = some (some (tt (pmI po one)))) (g10 : E[10]? = some (some (tt one))) (g11 : E[11]? = some (some (tt other))) (g12 : E[12]? = some (some (tN ho))) (g13 : E[13]? = some (some (tN po))) :
    Gd 25 ns (execs PP (callD PP 9) ((turnOf D.d41).drop 11) E (m ++ d3 a b0 c :: RR b :: t)) := by
  have hl := K.len
  have h0 := K.at0
  have f := bf hb
  have h1 := f.h1
  show Gd 25 ns (execs PP (callD PP 9) (.for (.one 7) (.tup [(.cst (.str "places")), (.cst (.str "both")), (.cst (.str "hues")), (.cst (.str "first")), (.cst (.str "apart")), (.cst (.str "more"))]) [.set 14 (.tup [(.var 7), (.idx (.var 3) (.cst (.int 1))), (.idx (.var 3) (.cst (.int 2)))]), .set 15 (.call 15 [(.var 14), (.var 10), (.var 11)]), .ife (.and (.call 39 [(.var 7), (.cst (.bl true))]) (.cmp .ne (.call 15 [(.var 14), (.var 5), (.call 30 [(.var 14), (.var 11), (.var 12)])]) (.var 15))) [.ret (.cst (.bl false))] [], .ife (.and (.call 39 [(.var 7), (.cst (.bl false))]) (.cmp .ne (.call 15 [(.var 14), (.var 6), (.call 31 [(.var 14), (.var 11), (.var 13)])]) (.var 15))) [.ret (.cst (.bl false))] []] :: (turnOf D.d41).drop 12) E (m ++ d3 a b0 c :: RR b :: t))
  obtain ⟨E', m', x1, ⟨hl', q0, q2, q3, q4, q5, q6, q10, q11, q12, q13⟩, rfl⟩ := forT (P := PP) (C := callD PP 9) (tg := .one 7) (it := .tup [(.cst (.str "places")), (.cst (.str "both")), (.cst (.str "hues")), (.cst (.str "first")), (.cst (.str "apart")), (.cst (.str "more"))]) (b := [.set 14 (.tup [(.var 7), (.idx (.var 3) (.cst (.int 1))), (.idx (.var 3) (.cst (.int 2)))]), .set 15 (.call 15 [(.var 14), (.var 10), (.var 11)]), .ife (.and (.call 39 [(.var 7), (.cst (.bl true))]) (.cmp .ne (.call 15 [(.var 14), (.var 5), (.call 30 [(.var 14), (.var 11), (.var 12)])]) (.var 15))) [.ret (.cst (.bl false))] [], .ife (.and (.call 39 [(.var 7), (.cst (.bl false))]) (.cmp .ne (.call 15 [(.var 14), (.var 6), (.call 31 [(.var 14), (.var 11), (.var 13)])]) (.var 15))) [.ret (.cst (.bl false))] []])
    (e := E) (m := m ++ d3 a b0 c :: RR b :: t) (m0 := m ++ d3 a b0 c :: RR b :: t) kinds PV.str
    (fun pre e m' => (e.length = 25 ∧ e[0]? = some (some (.seq ns)) ∧ e[2]? = some (some (.loc m.length)) ∧ e[3]? = some (some (gm k b)) ∧ e[4]? = some (some (.loc (m.length + 1))) ∧ e[5]? = some (some (tt (hmI ho one))) ∧ e[6]? = some (some (tt (pmI po one))) ∧ e[10]? = some (some (tt one)) ∧ e[11]? = some (some (tt other)) ∧ e[12]? = some (some (tN ho)) ∧ e[13]? = some (some (tN po))) ∧ m' = m ++ d3 a b0 c :: RR b :: t) (x := .val (.tup (kinds.map PV.str))) (by simp [kinds]) rfl rfl
    ⟨⟨hl, h0, g2, g3, g4, g5, g6, g10, g11, g12, g13⟩, rfl⟩ (by
      intro pre z rest hL E m' ⟨⟨hl, q0, q2, q3, q4, q5, q6, q10, q11, q12, q13⟩, hm'⟩
      subst hm'
      have hz : z ∈ kinds := by rw [hL]; simp
      have x39 := fun m => (cl39 (N := 9) (by omega) hz m).1
      have y39 := fun m => (cl39 (N := 9) (by omega) hz m).2
      have a1 := cl15R (N := 9) (by omega) hb hz R1 R2
      have a2 := cl15R (N := 9) (by omega) hb hz (hm_row h1 O1 R1) (hm_row h1 O1 R2)
      have a3 := cl15R (N := 9) (by omega) hb hz (pm_row O2 R1) (pm_row O2 R2)
      have x30 := cl30 (N := 9) (by omega) hz hb R2 O1
      have x31 := cl31 (N := 9) (by omega) hz hb R2 O2
      have e1 : ∀ M, asB ((evX PP (callD PP 9) (.and (.call 39 [(.var 7), (.cst (.bl true))]) (.cmp .ne (.call 15 [(.var 14), (.var 5), (.call 30 [(.var 14), (.var 11), (.var 12)])]) (.var 15))) (((E.set 7 (some (.str z))).set 14 (some (gm z b))).set 15 (some (ansR z one other))) M).bind toV) = .ok false M := fun M => by
        by_cases st : z ∈ staysH
        · have s := ans_hm hb O1 st R1 R2
          rw [s] at a2
          simp [-getElem?_pos, List.getElem?_cons_zero, hl, permute, q5, q11, q12, x39, st, a2, x30, ne_ansR]
        · simp [-getElem?_pos, List.getElem?_cons_zero, hl, permute, x39, st]
      have e2 : ∀ M, asB ((evX PP (callD PP 9) (.and (.call 39 [(.var 7), (.cst (.bl false))]) (.cmp .ne (.call 15 [(.var 14), (.var 6), (.call 31 [(.var 14), (.var 11), (.var 13)])]) (.var 15))) (((E.set 7 (some (.str z))).set 14 (some (gm z b))).set 15 (some (ansR z one other))) M).bind toV) = .ok false M := fun M => by
        by_cases st : z ∈ staysP
        · have s := ans_pm O2 st R1.len R2.len
          rw [s] at a3
          simp [-getElem?_pos, List.getElem?_cons_zero, hl, permute, q6, q11, q13, y39, st, a3, x31, ne_ansR]
        · simp [-getElem?_pos, List.getElem?_cons_zero, hl, permute, y39, st]
      refine ⟨_, ((E.set 7 (some (.str z))).set 14 (some (gm z b))).set 15 (some (ansR z one other)), m ++ d3 a b0 c :: RR b :: t, rfl, ?_, ⟨by simp [-getElem?_pos, List.getElem?_cons_zero, hl, permute], by simp [-getElem?_pos, List.getElem?_cons_zero, hl, permute, q0], by simp [-getElem?_pos, List.getElem?_cons_zero, hl, permute, q2], by simp [-getElem?_pos, List.getElem?_cons_zero, hl, permute, q3], by simp [-getElem?_pos, List.getElem?_cons_zero, hl, permute, q4], by simp [-getElem?_pos, List.getElem?_cons_zero, hl, permute, q5], by simp [-getElem?_pos, List.getElem?_cons_zero, hl, permute, q6], by simp [-getElem?_pos, List.getElem?_cons_zero, hl, permute, q10], by simp [-getElem?_pos, List.getElem?_cons_zero, hl, permute, q11], by simp [-getElem?_pos, List.getElem?_cons_zero, hl, permute, q12], by simp [-getElem?_pos, List.getElem?_cons_zero, hl, permute, q13]⟩, rfl⟩
      rw [ss_next (e' := (E.set 7 (some (.str z))).set 14 (some (gm z b))) (m' := m ++ d3 a b0 c :: RR b :: t) (by simp [-getElem?_pos, List.getElem?_cons_zero, hl, permute, q3]; rfl)]
      rw [ss_next (e' := ((E.set 7 (some (.str z))).set 14 (some (gm z b))).set 15 (some (ansR z one other))) (m' := m ++ d3 a b0 c :: RR b :: t) (by simp [-getElem?_pos, List.getElem?_cons_zero, hl, permute, q10, q11, a1])]
      rw [ss_next (e' := ((E.set 7 (some (.str z))).set 14 (some (gm z b))).set 15 (some (ansR z one other))) (m' := m ++ d3 a b0 c :: RR b :: t) (by rw [st_ife, ev_def, e1]; simp)]
      rw [ss_next (e' := ((E.set 7 (some (.str z))).set 14 (some (gm z b))).set 15 (some (ansR z one other))) (m' := m ++ d3 a b0 c :: RR b :: t) (by rw [st_ife, ev_def, e2]; simp), ss_nil])
  refine Gd.stp x1 ?_
  exact turn01d hk hb R2 O1 hc t ⟨hl', q0⟩ q2 q3 q4 q11 q12
theorem ne_row (r : List Int) (m : MH) : cmpV .ne (tt r) (tt r) m = some false := ne_tt r m
theorem turn01b (hk : k ∈ kinds) (hb : b ∈ boards) (R1 : RowOk b one) (R2 : RowOk b other) (O1 : Ord b.1.toNat ho) (O2 : Ord b.2.toNat po) (hc : c ≤ 390) (t : MH) (K : Kp 25 ns E) (g2 : E[2]? = some (some (.loc m.length))) (g3 : E[3]? = some (some (gm k b))) (g4 : E[4]? = some (some (.loc (m.length + 1)))) (g10 : E[10]? = some (some (tt one))) (g11 : E[11]? = some (some (tt other))) (g12 : E[12]? = some (some (tN ho))) (g13 : E[13]? = some (some (tN po))) :
    Gd 25 ns (execs PP (callD PP 9) ((turnOf D.d41).drop 5) E (m ++ d3 a b0 c :: RR b :: t)) := by
  have hl := K.len
  have h0 := K.at0
  have f := bf hb
  have h1 := f.h1
  have h6 := f.h6
  have p1 := f.p1
  have p4 := f.p4
  have l1 := R1.len
  have b1 : hmI (backO ho) (hmI ho one) = one := hm_back O1 fun x hx => by have := R1.lt x hx; omega
  have b2 : pmI (backO po) (pmI po one) = one := pm_back O2 R1.len
  have b3 : pmI po (hmI ho one) = hmI ho (pmI po one) := hm_pm O2 R1.len ho
  unfold turnOf D.d41
  simp only [List.drop]
  refine Gd.set (v := tt (hmI ho one)) (m' := m ++ d3 a b0 c :: RR b :: t) (by simp [-getElem?_pos, List.getElem?_cons_zero, hl, permute, g3, g10, g12, cl30 (N := 9) (by omega) hk hb R1 O1]) ?_
  refine Gd.chk (m' := m ++ d3 a b0 c :: RR b :: t) (by
    have e : ∀ {E : Env} (hl : E.length = 25) (g10 : E[10]? = some (some (tt one))) (g12 : E[12]? = some (some (tN ho))), evX PP (callD PP 9) (.lcm [22] (.one 22) (.var 10) [] (.idx (.var 12) (.var 22))) E (m ++ d3 a b0 c :: RR b :: t) = .ok (.tmp ((hmI ho one).map PV.int)) (m ++ d3 a b0 c :: RR b :: t) := by
      intro E hl g10 g12
      rw [lcM (m0 := m ++ d3 a b0 c :: RR b :: t) one PV.int (fun h => .int (ho.getD h.toNat 0 : Nat)) (Wk.tup (by simp [-getElem?_pos, List.getElem?_cons_zero, hl, permute, g10]; rfl)) (by omega) (fun z hz => ⟨_, rfl, by
        have hz := R1.lt z hz
        have e2 : z = (z.toNat : Nat) := by omega
        have ix := fun m => idx_tN (o := ho) (i := z.toNat) (by rw [O1.len]; omega) m
        simp only [← e2] at ix
        simp [-getElem?_pos, List.getElem?_cons_zero, hl, permute, g12, ix]⟩)]
      unfold hmI
      rw [List.map_map]
      rfl
    have e := e (E := E.set 5 (some (tt (hmI ho one)))) (by simp [hl]) (by simp [-getElem?_pos, List.getElem?_cons_zero, hl, permute, g10]) (by simp [-getElem?_pos, List.getElem?_cons_zero, hl, permute, g12])
    have nr : ∀ m, cmpV .ne (tt (hmI ho one)) (.tup ((hmI ho one).map PV.int)) m = some false := fun m => ne_tt _ m
    have x30 := cl30 (N := 9) (by omega) hk hb (hm_row h1 O1 R1) O1.back
    rw [b1] at x30
    simp [-getElem?_pos, List.getElem?_cons_zero, hl, permute, g3, g10, g12, e, nr, cl38 (N := 9) (by omega) O1 (by omega), x30, ne_row]) ?_
  refine Gd.set (v := tt (pmI po one)) (m' := m ++ d3 a b0 c :: RR b :: t) (by simp [-getElem?_pos, List.getElem?_cons_zero, hl, permute, g3, g10, g13, cl31 (N := 9) (by omega) hk hb R1 O2]) ?_
  refine Gd.chk (m' := m ++ d3 a b0 c :: RR b :: t) (by
    have e : ∀ {E : Env} (hl : E.length = 25) (g6 : E[6]? = some (some (tt (pmI po one)))) (g10 : E[10]? = some (some (tt one))) (g13 : E[13]? = some (some (tN po))), evX PP (callD PP 9) (.lcm [21, 22] (.two 21 22) (.enu (.var 10)) [] (.cmp .ne (.idx (.var 6) (.idx (.var 13) (.var 21))) (.var 22))) E (m ++ d3 a b0 c :: RR b :: t) = .ok (.tmp (one.zipIdx.map fun _ => PV.bl false)) (m ++ d3 a b0 c :: RR b :: t) := by
      intro E hl g6 g10 g13
      refine lcM one.zipIdx (fun p => PV.tup [.int (p.2 : Nat), .int p.1]) (fun _ => .bl false) (Wk.its (by
        have tl : ∀ M, toL (.val (tt one)) M = .ok (one.map PV.int) M := fun M => rfl
        have kd : ∀ M, kindX (.val (tt one)) M = some false := fun M => rfl
        have sr : ∀ M, srcOf (.val (tt one)) M = [] := fun M => rfl
        simp [-getElem?_pos, List.getElem?_cons_zero, hl, permute, g10, tl, kd, sr, enum_map])) (by rw [List.length_zipIdx]; omega) (fun p hp => ⟨_, rfl, ?_⟩)
      obtain ⟨h, q⟩ := p
      obtain ⟨_, q1, q2⟩ := List.mem_zipIdx hp
      have hq : q < b.2.toNat := by omega
      have i1 := idx_tN (o := po) (i := q) (by rw [O2.len]; exact hq) (m ++ d3 a b0 c :: RR b :: t)
      have hlt : po.getD q 0 < (pmI po one).length := by rw [pm_len, O2.len]; exact O2.at hq
      have i2 := idx_tt (l := pmI po one) (i := po.getD q 0) (a := h) (by
        rw [List.getElem?_eq_getElem hlt]
        have := pm_at (r := one) O2 hq
        rw [List.getD_eq_getElem?_getD, List.getElem?_eq_getElem hlt] at this
        rw [show (pmI po one)[po.getD q 0] = one.getD q 0 from this, List.getD_eq_getElem?_getD, List.getElem?_eq_getElem (by omega)]
        simp [q2]) (m ++ d3 a b0 c :: RR b :: t)
      clear hp q1 q2
      simp [-getElem?_pos, List.getElem?_cons_zero, hl, permute, -List.getD_eq_getElem?_getD, g6, g13, ne_int, i1, i2]
    have e := e (E := (E.set 5 (some (tt (hmI ho one)))).set 6 (some (tt (pmI po one)))) (by simp [hl]) (by simp [-getElem?_pos, List.getElem?_cons_zero, hl, permute]) (by simp [-getElem?_pos, List.getElem?_cons_zero, hl, permute, g10]) (by simp [-getElem?_pos, List.getElem?_cons_zero, hl, permute, g13])
    have an : ∀ L : List (Int × Nat), blV .any (L.map fun _ => PV.bl false) = some (.bl false) := fun L => by
      show (bools _).map _ = _
      rw [bools_map]
      show some (PV.bl ((L.map fun _ => false).any id)) = _
      have : (L.map fun _ => false).any id = false := by
        rw [List.any_map, List.any_eq_false]
        intro x _
        simp
      rw [this]
    simp only [x_bl, e, Res.bind_ok, toLL_tmp, an, ofO_some, toV_val]) ?_
  refine Gd.chk (m' := m ++ d3 a b0 c :: RR b :: t) (by
    have x31 := cl31 (N := 9) (by omega) hk hb (pm_row O2 R1) O2.back
    rw [b2] at x31
    simp [-getElem?_pos, List.getElem?_cons_zero, hl, permute, g3, g10, g13, cl38 (N := 9) (by omega) O2 (by omega), x31, ne_row]) ?_
  refine Gd.chk (m' := m ++ d3 a b0 c :: RR b :: t) (by
    have x31 := cl31 (N := 9) (by omega) hk hb (hm_row h1 O1 R1) O2
    rw [b3] at x31
    have x30 := cl30 (N := 9) (by omega) hk hb (pm_row O2 R1) O1
    simp [-getElem?_pos, List.getElem?_cons_zero, hl, permute, g3, g12, g13, x31, x30, ne_row]) ?_
  exact turn01c hk hb R1 R2 O1 O2 hc t ⟨by simp [hl], by simp [-getElem?_pos, List.getElem?_cons_zero, hl, permute, h0]⟩ (by simp [-getElem?_pos, List.getElem?_cons_zero, hl, permute, g2]) (by simp [-getElem?_pos, List.getElem?_cons_zero, hl, permute, g3]) (by simp [-getElem?_pos, List.getElem?_cons_zero, hl, permute, g4]) (by simp [-getElem?_pos, List.getElem?_cons_zero, hl, permute]) (by simp [-getElem?_pos, List.getElem?_cons_zero, hl, permute]) (by simp [-getElem?_pos, List.getElem?_cons_zero, hl, permute, g10]) (by simp [-getElem?_pos, List.getElem?_cons_zero, hl, permute, g11]) (by simp [-getElem?_pos, List.getElem?_cons_zero, hl, permute, g12]) (by simp [-getElem?_pos, List.getElem?_cons_zero, hl, permute, g13])
theorem turn01 (hns : ns.length ≤ 63) (i : Nat) (hi : i < 4) (e : Env) (m : MH) (K : Kp 25 ns e) (h1 : e[1]? = some (some (.int (i : Nat)))) : ∃ e2 m2, execs PP (callD PP 9) (turnOf D.d41) e m = .ok (.next e2) m2 ∧ Kp 25 ns e2 := by
  show Gd 25 ns (execs PP (callD PP 9) (turnOf D.d41) e m)
  have h0 := K.at0
  have hl := K.len
  unfold turnOf D.d41
  simp only []
  obtain ⟨a, b0, x18⟩ := cl18 (N := 9) (by omega) ns (by omega) i m (by omega)
  refine Gd.set (by simp [-getElem?_pos, List.getElem?_cons_zero, hl, permute, h0, h1, x18] <;> first | exact ⟨rfl, rfl⟩ | rfl) ?_
  obtain ⟨k, b, aA, bA, cA, hk, hb, h36, c1, x22⟩ := gameH (N := 9) (by omega) (m := m) (t := []) (a := a) (b := b0) (c := 0) (most := 36) (by omega) (by decide +kernel)
  have f := bf hb
  have fp := f.pos
  have p1 := f.p1
  have hh1 := f.h1
  have p4 := f.p4
  have h6 := f.h6
  refine Gd.set (by simp [-getElem?_pos, List.getElem?_cons_zero, hl, permute, x22 36 0 rfl rfl] <;> first | exact ⟨rfl, rfl⟩ | rfl) ?_
  refine Gd.set (by simp [-getElem?_pos, List.getElem?_cons_zero, hl, permute, cl23 (N := 9) (by omega) hk hb] <;> first | exact ⟨rfl, rfl⟩ | rfl) ?_
  have ln := fun t d => len_rows hb m t d
  have rl : 0 < ((rowsB b).map tt).length := by rw [List.length_map, f.len]; exact fp
  have rl2 : ((rowsB b).map tt).length < 1000000 := by rw [List.length_map, f.len]; omega
  obtain ⟨i1, x1, aB, bB, cB, g1, c2, x20⟩ := pickH (N := 9) (by omega) (m := m) (t := [RR b]) (j := 0) (a := aA) (b := bA) (c := cA) (xs := (rowsB b).map tt) rfl (by omega) rl rl2
  obtain ⟨i2, x2, aC, bC, cC, g2, c3, y20⟩ := pickH (N := 9) (by omega) (m := m) (t := [RR b]) (j := 0) (a := aB) (b := bB) (c := cB) (xs := (rowsB b).map tt) rfl (by omega) rl rl2
  rw [List.getElem?_map] at g1 g2
  obtain ⟨one, r1, rfl⟩ := Option.map_eq_some_iff.mp g1
  obtain ⟨other, r2, rfl⟩ := Option.map_eq_some_iff.mp g2
  have R1 : RowOk b one := (row_mem hb).mpr (List.mem_of_getElem? r1)
  have R2 : RowOk b other := (row_mem hb).mpr (List.mem_of_getElem? r2)
  have x20 : callD PP 9 20 [.loc m.length, .loc (m.length + 1)] (m ++ d3 aA bA cA :: RR b :: []) = .ok (tt one) (m ++ d3 aB bB cB :: RR b :: []) := x20
  have y20 : callD PP 9 20 [.loc m.length, .loc (m.length + 1)] (m ++ d3 aB bB cB :: RR b :: []) = .ok (tt other) (m ++ d3 aC bC cC :: RR b :: []) := y20
  refine Gd.par (m' := m ++ d3 aC bC cC :: RR b :: []) (vs := [tt one, tt other]) (by simp [-getElem?_pos, List.getElem?_cons_zero, hl, permute, x20, y20]) rfl ?_
  obtain ⟨ho, aD, bD, cD, O1, c4, x37⟩ := orderH (N := 9) (by omega) (m := m) (t := [RR b]) (n := b.1.toNat) (a := aC) (b := bC) (c := cC) (by omega) (by omega)
  obtain ⟨po, aE, bE, cE, O2, c5, y37⟩ := orderH (N := 9) (by omega) (m := m) (t := [RR b]) (n := b.2.toNat) (a := aD) (b := bD) (c := cD) (by omega) (by omega)
  have x37 := x37 b.1 (by omega)
  have y37 := y37 b.2 (by omega)
  refine Gd.par (m' := m ++ d3 aE bE cE :: RR b :: []) (vs := [tN ho, tN po]) (by simp [-getElem?_pos, List.getElem?_cons_zero, hl, permute, x37, y37]) rfl ?_
  exact turn01b hk hb R1 R2 O1 O2 (by omega) [] ⟨by simp [hl], by simp [-getElem?_pos, List.getElem?_cons_zero, hl, permute, h0]⟩ (by simp [-getElem?_pos, List.getElem?_cons_zero, hl, permute]) (by simp [-getElem?_pos, List.getElem?_cons_zero, hl, permute]) (by simp [-getElem?_pos, List.getElem?_cons_zero, hl, permute]) (by simp [-getElem?_pos, List.getElem?_cons_zero, hl, permute]) (by simp [-getElem?_pos, List.getElem?_cons_zero, hl, permute]) (by simp [-getElem?_pos, List.getElem?_cons_zero, hl, permute]) (by simp [-getElem?_pos, List.getElem?_cons_zero, hl, permute])
theorem last01 : callD PP 9 40 [] [] = .ok (.bl true) [] := by kernel_rfl
end
theorem plainLaw (ns : List Int) (hns : ns.length ≤ 63) : ∃ m', callD PP 10 41 [.seq ns] [] = .ok (.bl true) m' :=
  law_main 41 40 4 24 (d := D.d41) (dl := D.d40) rfl rfl rfl (by omega) rfl rfl rfl rfl last01 ns hns (by omega) fun i hi e m K h1 => turn01 hns i hi e m K h1
end Mi
end

section
set_option autoImplicit false
set_option Elab.async false
set_option linter.all false
set_option maxRecDepth 100000
namespace Mi
open PySem PySem.Spec PyProof.Rows L2

/-- what is fixed for a law: the written part, the module's names, the classes' and exceptions' addresses, the tables of code -/
structure Fx where
  prog : Program
  w : World
  K : PySem.W.Frag
  mg : Str → Option Value
  base : Heap
  P : Prog
  cls : Nat → Addr
  xc : Nat → Addr
  xf : Nat → Str
  T : List (Addr × Str)
  ca : List Addr

variable {S : Fx}

/-- the script stands so to the end -/
def ScrL (K : PySem.W.Frag) (H : Hp) (a : Addr) (xs : List V) : Prop :=
  (∃ o, H a = some (.frz o (.lst xs))) ∨
    (∃ (o : Obj) (its : Array Value) (n : Nat), K.lookup a = some o ∧ o.cls = .type "list" ∧ o.dict = none ∧ o.data = .seq its n ∧ its.size ≤ sizeLine ∧ Vals xs its.toList)
theorem ScrL.sql {K : PySem.W.Frag} {H : Hp} {a : Addr} {xs : List V} (h : ScrL K H a xs) : SqL K H a xs := by
  rcases h with ⟨o, h⟩ | h
  · exact .inl (.inr ⟨o, h⟩)
  · exact .inr h
/-- the object at a has no dict of its own -/
def NoD (K : PySem.W.Frag) (H : Hp) (a : Addr) : Prop := (∃ (o : Obj) (u : HO), H a = some (.frz o u) ∧ o.dict = none) ∨ ∃ o : Obj, K.lookup a = some o ∧ o.dict = none
mutual
/-- a tree as a value of the layer; r: where the locations stand -/
inductive RV (K : PySem.W.Frag) (r : List Addr) (H : Hp) : PV → V → Prop where
  | non : RV K r H .non .non
  | bl (b : Bool) : RV K r H (.bl b) (.bl b)
  | int (i : Int) : RV K r H (.int i) (.int i)
  | str (x : Str) : RV K r H (.str x) (.str x)
  | tup {xs : List PV} {a : Addr} {ys : List V} (h : SqT K H a ys) (d : NoD K H a) (t : RVs K r H xs ys) : RV K r H (.tup xs) (.ref a)
  | loc {l : Nat} {a : Addr} (h : r[l]? = some a) : RV K r H (.loc l) (.ref a)
  | rng {lo hi : Int} {a : Addr} (h : H a = some (.rng lo hi)) : RV K r H (.rng lo hi) (.ref a)
  | seq {ns : List Int} {a : Addr} (h : ScrL K H a (ns.map V.int)) : RV K r H (.seq ns) (.ref a)
inductive RVs (K : PySem.W.Frag) (r : List Addr) (H : Hp) : List PV → List V → Prop where
  | nil : RVs K r H [] []
  | cons {x : PV} {y : V} {xs : List PV} {ys : List V} (h : RV K r H x y) (t : RVs K r H xs ys) : RVs K r H (x :: xs) (y :: ys)
end

/-- what is never written -/
def Stab : HO → Prop
  | .tup _ => True
  | .frz _ _ => True
  | .rng _ _ => True
  | _ => False
def Keep (H H' : Hp) : Prop := ∀ b o, H b = some o → Stab o → H' b = some o
theorem Keep.refl (H : Hp) : Keep H H := fun _ _ h _ => h
theorem Keep.trans {H H1 H2 : Hp} (a : Keep H H1) (b : Keep H1 H2) : Keep H H2 := fun c o h s => b c o (a c o h s) s
theorem Keep.sqT {K : PySem.W.Frag} {H H' : Hp} {a : Addr} {ys : List V} (k : Keep H H') (h : SqT K H a ys) : SqT K H' a ys := by
  rcases h with (h | ⟨o, h⟩) | h
  · exact .inl (.inl (k _ _ h True.intro))
  · exact .inl (.inr ⟨o, k _ _ h True.intro⟩)
  · exact .inr h
theorem Keep.noD {K : PySem.W.Frag} {H H' : Hp} {a : Addr} (k : Keep H H') (h : NoD K H a) : NoD K H' a := by
  rcases h with ⟨o, u, h, d⟩ | h
  · exact .inl ⟨o, u, k _ _ h True.intro, d⟩
  · exact .inr h
theorem Keep.scr {K : PySem.W.Frag} {H H' : Hp} {a : Addr} {ys : List V} (k : Keep H H') (h : ScrL K H a ys) : ScrL K H' a ys := by
  rcases h with ⟨o, h⟩ | h
  · exact .inl ⟨o, k _ _ h True.intro⟩
  · exact .inr h
/-- nothing stands at b but perhaps a table -/
def Nt (H : Hp) (b : Addr) : Prop := ∀ o, H b = some o → ∃ ps, o = .tbl ps
theorem nt_none {H : Hp} {b : Addr} (h : H b = none) : Nt H b := fun o e => by
  rw [h] at e
  cases e
theorem Nt.lst {H : Hp} {b : Addr} {ys : List V} (n : Nt H b) : H b ≠ some (.lst ys) := fun e => by
  obtain ⟨ps, z⟩ := n _ e
  cases z
/-- the later state: more locations, new ones; what is no location stays, nothing fixed is lost (tables may grow) -/
def Ext (r r' : List Addr) (H H' : Hp) : Prop := (∃ t, r' = r ++ t ∧ ∀ b ∈ t, Nt H b ∧ b ∉ r) ∧ (∀ b o, b ∉ r → H b = some o → (∀ ps, o ≠ .tbl ps) → H' b = some o) ∧ Keep H H'
theorem Ext.refl (r : List Addr) (H : Hp) : Ext r r H H := ⟨⟨[], by simp, fun b hb => by simp at hb⟩, fun _ _ _ h _ => h, Keep.refl H⟩
theorem Ext.out {r r' : List Addr} {H H' : Hp} (x : Ext r r' H H') {b : Addr} {ys : List V} (hb : b ∉ r) (h : H b = some (.lst ys)) : H' b = some (.lst ys) := x.2.1 b _ hb h fun ps z => by cases z
theorem Ext.mem {r r' : List Addr} {H H' : Hp} (x : Ext r r' H H') {b : Addr} (hb : b ∈ r) : b ∈ r' := by
  obtain ⟨⟨t, rfl, _⟩, _⟩ := x
  exact List.mem_append_left _ hb
/-- what was there and no location is no location later -/
theorem Ext.notin {r r' : List Addr} {H H' : Hp} (x : Ext r r' H H') {b : Addr} {o : HO} (hb : b ∉ r) (h : H b = some o) (n : ∀ ps, o ≠ .tbl ps := by intro ps z; cases z) : b ∉ r' := by
  obtain ⟨⟨t, rfl, ht⟩, _⟩ := x
  intro hm
  rcases List.mem_append.mp hm with hm | hm
  · exact hb hm
  · obtain ⟨ps, z⟩ := (ht b hm).1 _ h
    exact n ps z
/-- what is new later, and no location, was new before -/
theorem Ext.fresh {r r' : List Addr} {H H' : Hp} (x : Ext r r' H H') {b : Addr} (hb : b ∉ r') (h : Nt H' b) : Nt H b := by
  intro o e
  apply Classical.byContradiction
  intro n
  have n : ∀ ps, o ≠ .tbl ps := fun ps z => n ⟨ps, z⟩
  obtain ⟨ps, z⟩ := h o (x.2.1 b o (fun q => hb (x.mem q)) e n)
  exact n ps z
theorem Ext.trans {r r1 r2 : List Addr} {H H1 H2 : Hp} (a : Ext r r1 H H1) (b : Ext r1 r2 H1 H2) : Ext r r2 H H2 := by
  have ha := a
  obtain ⟨⟨t, ht, nt⟩, o1, k⟩ := a
  obtain ⟨⟨u, hu, nu⟩, o2, k2⟩ := b
  refine ⟨⟨t ++ u, by rw [hu, ht, List.append_assoc], fun c hc => ?_⟩, fun c o hc e n => ?_, k.trans k2⟩
  · rcases List.mem_append.mp hc with hc | hc
    · exact nt c hc
    · obtain ⟨n1, n2⟩ := nu c hc
      exact ⟨ha.fresh n2 n1, fun q => n2 (ha.mem q)⟩
  · exact o2 c o (ha.notin hc e n) (o1 c o hc e n) n
theorem Ext.at_ {r r' : List Addr} {H H' : Hp} (x : Ext r r' H H') {l : Nat} {a : Addr} (h : r[l]? = some a) : r'[l]? = some a := by
  obtain ⟨⟨t, rfl, _⟩, _⟩ := x
  rw [List.getElem?_append_left (List.getElem?_eq_some_iff.mp h).1]
  exact h

mutual
theorem RV.ext {K : PySem.W.Frag} {r r' : List Addr} {H H' : Hp} (x : Ext r r' H H') : ∀ {v : PV} {y : V}, RV K r H v y → RV K r' H' v y
  | _, _, .non => .non
  | _, _, .bl b => .bl b
  | _, _, .int i => .int i
  | _, _, .str s => .str s
  | _, _, .tup h d t => .tup (x.2.2.sqT h) (x.2.2.noD d) (RVs.ext x t)
  | _, _, .loc h => .loc (x.at_ h)
  | _, _, .rng h => .rng (x.2.2 _ _ h True.intro)
  | _, _, .seq h => .seq (x.2.2.scr h)
theorem RVs.ext {K : PySem.W.Frag} {r r' : List Addr} {H H' : Hp} (x : Ext r r' H H') : ∀ {vs : List PV} {ys : List V}, RVs K r H vs ys → RVs K r' H' vs ys
  | _, _, .nil => .nil
  | _, _, .cons h t => .cons (RV.ext x h) (RVs.ext x t)
end
mutual
/-- the same locations, nothing fixed lost -/
theorem RV.kept {K : PySem.W.Frag} {r : List Addr} {H H' : Hp} (k : Keep H H') : ∀ {v : PV} {y : V}, RV K r H v y → RV K r H' v y
  | _, _, .non => .non
  | _, _, .bl b => .bl b
  | _, _, .int i => .int i
  | _, _, .str s => .str s
  | _, _, .tup h d q => .tup (k.sqT h) (k.noD d) (RVs.kept k q)
  | _, _, .loc h => .loc h
  | _, _, .rng h => .rng (k _ _ h True.intro)
  | _, _, .seq h => .seq (k.scr h)
theorem RVs.kept {K : PySem.W.Frag} {r : List Addr} {H H' : Hp} (k : Keep H H') : ∀ {vs : List PV} {ys : List V}, RVs K r H vs ys → RVs K r H' vs ys
  | _, _, .nil => .nil
  | _, _, .cons h q => .cons (RV.kept k h) (RVs.kept k q)
end
mutual
theorem RV.more {K : PySem.W.Frag} {r : List Addr} {H : Hp} (t : List Addr) : ∀ {v : PV} {y : V}, RV K r H v y → RV K (r ++ t) H v y
  | _, _, .non => .non
  | _, _, .bl b => .bl b
  | _, _, .int i => .int i
  | _, _, .str s => .str s
  | _, _, .tup h d q => .tup h d (RVs.more t q)
  | _, _, .loc h => .loc (by rw [List.getElem?_append_left (List.getElem?_eq_some_iff.mp h).1]; exact h)
  | _, _, .rng h => .rng h
  | _, _, .seq h => .seq h
theorem RVs.more {K : PySem.W.Frag} {r : List Addr} {H : Hp} (t : List Addr) : ∀ {vs : List PV} {ys : List V}, RVs K r H vs ys → RVs K (r ++ t) H vs ys
  | _, _, .nil => .nil
  | _, _, .cons h q => .cons (RV.more t h) (RVs.more t q)
end
section
variable {K : PySem.W.Frag} {r : List Addr} {H : Hp}
theorem RVs.length : ∀ {vs : List PV} {ys : List V}, RVs K r H vs ys → vs.length = ys.length
  | _, _, .nil => rfl
  | _, _, .cons _ t => by rw [List.length_cons, List.length_cons, RVs.length t]
theorem RVs.get : ∀ {vs : List PV} {ys : List V} {i : Nat} {v : PV}, RVs K r H vs ys → vs[i]? = some v → ∃ y, ys[i]? = some y ∧ RV K r H v y
  | _, _, i, v, .nil, e => by simp at e
  | _, _, 0, v, .cons h _, e => by simp at e; subst e; exact ⟨_, rfl, h⟩
  | _, _, i + 1, v, .cons _ t, e => by
    obtain ⟨y, h1, h2⟩ := RVs.get (i := i) t (by simpa using e)
    exact ⟨y, by simpa using h1, h2⟩
theorem RVs.get' : ∀ {vs : List PV} {ys : List V} {i : Nat} {y : V}, RVs K r H vs ys → ys[i]? = some y → ∃ v, vs[i]? = some v ∧ RV K r H v y
  | _, _, i, v, .nil, e => by simp at e
  | _, _, 0, v, .cons h _, e => by simp at e; subst e; exact ⟨_, rfl, h⟩
  | _, _, i + 1, v, .cons _ t, e => by
    obtain ⟨y, h1, h2⟩ := RVs.get' (i := i) t (by simpa using e)
    exact ⟨y, by simpa using h1, h2⟩
theorem RVs.append : ∀ {xs us : List PV} {ys ws : List V}, RVs K r H xs ys → RVs K r H us ws → RVs K r H (xs ++ us) (ys ++ ws)
  | _, _, _, _, .nil, s => s
  | _, _, _, _, .cons h t, s => .cons h (RVs.append t s)
theorem RVs.take : ∀ {xs : List PV} {ys : List V} (n : Nat), RVs K r H xs ys → RVs K r H (xs.take n) (ys.take n)
  | _, _, 0, _ => .nil
  | _, _, _ + 1, .nil => .nil
  | _, _, n + 1, .cons h t => .cons h (RVs.take n t)
theorem RVs.drop : ∀ {xs : List PV} {ys : List V} (n : Nat), RVs K r H xs ys → RVs K r H (xs.drop n) (ys.drop n)
  | _, _, 0, h => h
  | _, _, _ + 1, .nil => .nil
  | _, _, n + 1, .cons _ t => RVs.drop n t
theorem RVs.one {v : PV} {y : V} (h : RV K r H v y) : RVs K r H [v] [y] := .cons h .nil
theorem RVs.reverse {xs : List PV} {ys : List V} (h : RVs K r H xs ys) : RVs K r H xs.reverse ys.reverse := by
  induction xs generalizing ys with
  | nil => cases h; exact .nil
  | cons x xs ih =>
    cases h with
    | cons h t =>
      rw [List.reverse_cons, List.reverse_cons]
      exact (ih t).append (.one h)
theorem RVs.set : ∀ {xs : List PV} {ys : List V} (n : Nat) {v : PV} {y : V}, RVs K r H xs ys → RV K r H v y → RVs K r H (xs.set n v) (ys.set n y)
  | _, _, _, _, _, .nil, _ => .nil
  | _, _, 0, _, _, .cons _ t, h => .cons h t
  | _, _, n + 1, _, _, .cons k t, h => .cons k (RVs.set n t h)
theorem RVs.dropLast {xs : List PV} {ys : List V} (h : RVs K r H xs ys) : RVs K r H xs.dropLast ys.dropLast := by
  rw [List.dropLast_eq_take, List.dropLast_eq_take, h.length]
  exact h.take _
theorem RVs.ints : ∀ ns : List Int, RVs K r H (ns.map PV.int) (ns.map V.int)
  | [] => .nil
  | n :: ns => .cons (.int n) (RVs.ints ns)
end

/-- fields -/
inductive RFs (K : PySem.W.Frag) (r : List Addr) (H : Hp) : List (Str × PV) → List (Str × V) → Prop where
  | nil : RFs K r H [] []
  | cons {f : Str} {x : PV} {y : V} {xs : List (Str × PV)} {ys : List (Str × V)} (h : RV K r H x y) (t : RFs K r H xs ys) : RFs K r H ((f, x) :: xs) ((f, y) :: ys)
theorem RFs.ext {K : PySem.W.Frag} {r r' : List Addr} {H H' : Hp} (x : Ext r r' H H') : ∀ {fs : List (Str × PV)} {gs : List (Str × V)}, RFs K r H fs gs → RFs K r' H' fs gs
  | _, _, .nil => .nil
  | _, _, .cons h t => .cons (h.ext x) (RFs.ext x t)
mutual
/-- a tree as a key -/
def nkey : PV → Option NestedKey
  | .int i => some (.num i)
  | .str x => some (.text x)
  | .tup xs => (nkeys xs).map NestedKey.tup
  | _ => none
def nkeys : List PV → Option (List NestedKey)
  | [] => some []
  | x :: xs => match nkey x, nkeys xs with
    | some k, some ks => some (k :: ks)
    | _, _ => none
end
/-- an atom as a key -/
def keyP : Key → PV
  | .inl i => .int i
  | .inr x => .str x
/-- the object at a is a dict, its keys tuples: the keys with their places, the values -/
def DN (P : Program) (w : World) (h : Heap) (a : Addr) (xs : List (NestedKey × Addr × Value)) : Prop :=
  ∃ (o : Obj) (es : Array DictEntry) (ep : Nat), h.get? a = some o ∧ o.ExactDict ∧ o.data = .dict es ep ∧ es.toList = xs.map (entryOfKey (nestedKind P w)) ∧ (xs.map (·.1)).Nodup
def DNO (P : Program) (w : World) (a : Addr) (xs : List (NestedKey × Addr × Value)) : HO := .ext fun h => DN P w h a xs
theorem dno_ne {P : Program} {w : World} {a : Addr} {xs : List (NestedKey × Addr × Value)} (c : Addr) (q : Str) : DNO P w a xs ≠ LamX.CodeO c q := fun e => by
  have e2 : (fun h => DN P w h a xs) = fun h : Heap => ∃ (oc : Obj) (vs : Array Value) (t : Tok), h.get? c = some oc ∧ oc.data = .fields vs ∧ vs[1]? = some (.str q t) := HO.ext.inj e
  let oc : Obj := { cls := .none, data := .fields #[.none, .str q 0] }
  let dead : Obj := { cls := .none, data := .freed }
  let h : Heap := ⟨(List.replicate c dead ++ [oc]).toArray, {}⟩
  have hc : h.get? c = some oc := by
    show (match (List.replicate c dead ++ [oc]).toArray[c]? with | some ⟨_, _, .freed, _⟩ => none | o => o) = _
    have : (List.replicate c dead ++ [oc]).toArray[c]? = some oc := by simp
    rw [this]
  have hd : DN P w h a xs := by
    have z := congrFun e2 h
    rw [z]
    exact ⟨oc, _, 0, hc, rfl, rfl⟩
  obtain ⟨o, es, ep, h1, _, h2, _⟩ := hd
  rcases Nat.lt_trichotomy a c with z | z | z
  · have : h.get? a = none := by
      show (match (List.replicate c dead ++ [oc]).toArray[a]? with | some ⟨_, _, .freed, _⟩ => none | o => o) = _
      have : (List.replicate c dead ++ [oc]).toArray[a]? = some dead := by
        rw [List.getElem?_toArray, List.getElem?_append_left (by simpa using z), List.getElem?_replicate, if_pos z]
      rw [this]
    rw [this] at h1
    cases h1
  · subst z
    rw [hc] at h1
    cases h1
    cases h2
  · have : h.get? a = none := by
      show (match (List.replicate c dead ++ [oc]).toArray[a]? with | some ⟨_, _, .freed, _⟩ => none | o => o) = _
      have : (List.replicate c dead ++ [oc]).toArray[a]? = none := by simp; omega
      rw [this]
    rw [this] at h1
    cases h1
/-- a dict by its pairs: atoms as keys; tuples as keys -/
abbrev DKs (K : PySem.W.Frag) (r : List Addr) (H : Hp) : List (PV × PV) → List (Key × V) → Prop := Paired fun p q => p.1 = keyP q.1 ∧ RV K r H p.2 q.2
abbrev DTs (K : PySem.W.Frag) (r : List Addr) (H : Hp) : List (PV × PV) → List (NestedKey × Addr × Value) → Prop := Paired fun p q => (nkey p.1 = some q.1 ∧ q.1.depth ≤ 8) ∧ RV K r H p.1 (.ref q.2.1) ∧ ∃ y, RelV y q.2.2 ∧ RV K r H p.2 y
def DctR (S : Fx) (r : List Addr) (H : Hp) (a : Addr) (kvs : List (PV × PV)) : Prop :=
  (∃ ks, H a = some (.dK ks) ∧ (ks.map (·.1)).Nodup ∧ DKs S.K r H kvs ks) ∨ ∃ xs, H a = some (DNO S.prog S.w a xs) ∧ (a == sysModules) = false ∧ xs.length ≤ sizeLine ∧ DTs S.K r H kvs xs
theorem DctR.to {S : Fx} {r r' : List Addr} {H H' : Hp} {a : Addr} {kvs : List (PV × PV)} (h : DctR S r H a kvs) (ha : H' a = H a) (f : ∀ v y, RV S.K r H v y → RV S.K r' H' v y) : DctR S r' H' a kvs := by
  rcases h with ⟨ks, h1, h2, h3⟩ | ⟨xs, h1, h2, h3, h4⟩
  · exact .inl ⟨ks, ha.trans h1, h2, Paired.mapP h3 fun p q z => ⟨z.1, f _ _ z.2⟩⟩
  · exact .inr ⟨xs, ha.trans h1, h2, h3, Paired.mapP h4 fun p q ⟨z1, z2, y, z3, z4⟩ => ⟨z1, f _ _ z2, y, z3, f _ _ z4⟩⟩
/-- the object of a location -/
def RO (S : Fx) (r : List Addr) (H : Hp) (a : Addr) : MO → Prop
  | .lst xs => ∃ ys, H a = some (.lst ys) ∧ RVs S.K r H xs ys
  | .dct kvs => DctR S r H a kvs
  | .ins c fs => ∃ dx gs, H a = some (.ins (S.cls c) dx gs) ∧ RFs S.K r H fs gs
structure RH (S : Fx) (r : List Addr) (m : MH) (H : Hp) : Prop where
  len : r.length = m.length
  nd : r.Nodup
  obj : ∀ (l : Nat) (a : Addr) (o : MO), r[l]? = some a → m[l]? = some o → RO S r H a o
  tabs : LamX.Tabs S.T H
/-- the slots -/
structure RE (S : Fx) (r : List Addr) (H : Hp) (e : Env) (σ : L2.St) : Prop where
  len : e.length = σ.length
  get : ∀ (i : Nat) (v : PV), e[i]? = some (some v) → ∃ y, σ[i]? = some (some y) ∧ RV S.K r H v y
theorem RE.ext {r r' : List Addr} {H H' : Hp} {e : Env} {σ : L2.St} (R : RE S r H e σ) (x : Ext r r' H H') : RE S r' H' e σ :=
  ⟨R.len, fun i v h => let ⟨y, h1, h2⟩ := R.get i v h; ⟨y, h1, h2.ext x⟩⟩
theorem RE.set {r : List Addr} {H : Hp} {e : Env} {σ : L2.St} (R : RE S r H e σ) (i : Nat) {v : PV} {y : V} (h : RV S.K r H v y) : RE S r H (e.set i (some v)) (σ.set i (some y)) := by
  refine ⟨by rw [List.length_set, List.length_set, R.len], fun j u hj => ?_⟩
  by_cases hij : i = j
  · subst hij
    by_cases hl : i < e.length
    · rw [List.getElem?_set_self hl] at hj
      cases hj
      exact ⟨y, List.getElem?_set_self (by rw [← R.len]; exact hl), h⟩
    · rw [List.getElem?_eq_none (by rw [List.length_set]; omega)] at hj
      cases hj
  · rw [List.getElem?_set_ne hij] at hj
    obtain ⟨z, h1, h2⟩ := R.get j u hj
    exact ⟨z, by rw [List.getElem?_set_ne hij]; exact h1, h2⟩
theorem RE.drop {r : List Addr} {H : Hp} {e : Env} {σ : L2.St} (R : RE S r H e σ) (i : Nat) : RE S r H (e.set i none) (σ.set i none) := by
  refine ⟨by rw [List.length_set, List.length_set, R.len], fun j u hj => ?_⟩
  by_cases hij : i = j
  · subst hij
    by_cases hl : i < e.length
    · rw [List.getElem?_set_self hl] at hj
      cases hj
    · rw [List.getElem?_eq_none (by rw [List.length_set]; omega)] at hj
      cases hj
  · rw [List.getElem?_set_ne hij] at hj
    obtain ⟨z, h1, h2⟩ := R.get j u hj
    exact ⟨z, by rw [List.getElem?_set_ne hij]; exact h1, h2⟩

theorem keep_new {H : Hp} {p : Addr} {o : HO} (h : H p = none) : Keep H (upd H p o) := fun b u e _ => by
  rw [upd_ne (ne_of_none e h)]
  exact e
theorem same_new {H : Hp} {p : Addr} {o : HO} (h : H p = none) : ∀ b u, H b = some u → upd H p o b = some u := fun b u e => by
  rw [upd_ne (ne_of_none e h)]
  exact e
theorem keep_write {H : Hp} {a : Addr} {o u : HO} (h : H a = some u) (n : ¬ Stab u) : Keep H (upd H a o) := fun b v e s => by
  by_cases hb : b = a
  · rw [hb, h] at e
    cases e
    exact absurd s n
  · rw [upd_ne hb]
    exact e
theorem ext_new {r : List Addr} {H : Hp} {p : Addr} {o : HO} (h : H p = none) : Ext r r H (upd H p o) := ⟨⟨[], by simp, fun b hb => by simp at hb⟩, fun b u _ e _ => same_new h b u e, keep_new h⟩
theorem ext_push {r : List Addr} {H : Hp} {p : Addr} {o : HO} (h : H p = none) (hr : p ∉ r) : Ext r (r ++ [p]) H (upd H p o) := ⟨⟨[p], rfl, fun b hb => by
  have e : b = p := by simpa using hb
  subst e
  exact ⟨nt_none h, hr⟩⟩, fun b u _ e _ => same_new h b u e, keep_new h⟩
theorem ext_write {r : List Addr} {H : Hp} {a : Addr} {o u : HO} {l : Nat} (hl : r[l]? = some a) (h : H a = some u) (n : ¬ Stab u) : Ext r r H (upd H a o) := ⟨⟨[], by simp, fun b hb => by simp at hb⟩, fun b v hb e _ => by
  rw [upd_ne (fun q => hb (by rw [q]; exact List.mem_of_getElem? hl))]
  exact e, keep_write h n⟩
theorem RO.there {r : List Addr} {H : Hp} {a : Addr} {o : MO} (h : RO S r H a o) : ∃ u, H a = some u ∧ ¬ Stab u := by
  cases o with
  | lst xs => obtain ⟨ys, h, _⟩ := h; exact ⟨_, h, fun z => z⟩
  | dct kvs =>
    rcases (show DctR S r H a kvs from h) with ⟨_, h, _⟩ | ⟨_, h, _⟩
    · exact ⟨_, h, fun z => z⟩
    · exact ⟨_, h, fun z => z⟩
  | ins c fs => obtain ⟨dx, gs, h, _⟩ := h; exact ⟨_, h, fun z => z⟩
/-- the object stays where the state grows and its own place is as it was -/
theorem RO.keep {r r' : List Addr} {H H' : Hp} {a : Addr} {o : MO} (h : RO S r H a o) (x : Ext r r' H H') (ha : H' a = H a) : RO S r' H' a o := by
  cases o with
  | lst xs => obtain ⟨ys, h1, h2⟩ := h; exact ⟨ys, ha.trans h1, h2.ext x⟩
  | dct kvs => exact DctR.to h ha fun v y z => z.ext x
  | ins c fs => obtain ⟨dx, gs, h1, h2⟩ := h; exact ⟨dx, gs, ha.trans h1, h2.ext x⟩
theorem RFs.kept {K : PySem.W.Frag} {r : List Addr} {H H' : Hp} (k : Keep H H') : ∀ {fs : List (Str × PV)} {gs : List (Str × V)}, RFs K r H fs gs → RFs K r H' fs gs
  | _, _, .nil => .nil
  | _, _, .cons h q => .cons (h.kept k) (RFs.kept k q)
theorem RO.kept {r : List Addr} {H H' : Hp} {a : Addr} {o : MO} (h : RO S r H a o) (k : Keep H H') (ha : H' a = H a) : RO S r H' a o := by
  cases o with
  | lst xs => obtain ⟨ys, h1, h2⟩ := h; exact ⟨ys, ha.trans h1, h2.kept k⟩
  | dct kvs => exact DctR.to h ha fun v y z => z.kept k
  | ins c fs => obtain ⟨dx, gs, h1, h2⟩ := h; exact ⟨dx, gs, ha.trans h1, h2.kept k⟩
theorem RFs.more {K : PySem.W.Frag} {r : List Addr} {H : Hp} (t : List Addr) : ∀ {fs : List (Str × PV)} {gs : List (Str × V)}, RFs K r H fs gs → RFs K (r ++ t) H fs gs
  | _, _, .nil => .nil
  | _, _, .cons h q => .cons (h.more t) (RFs.more t q)
theorem RO.more {r : List Addr} {H : Hp} {a : Addr} {o : MO} (t : List Addr) (h : RO S r H a o) : RO S (r ++ t) H a o := by
  cases o with
  | lst xs => obtain ⟨ys, h1, h2⟩ := h; exact ⟨ys, h1, h2.more t⟩
  | dct kvs => exact DctR.to h rfl fun v y z => z.more t
  | ins c fs => obtain ⟨dx, gs, h1, h2⟩ := h; exact ⟨dx, gs, h1, h2.more t⟩
theorem tabs_keep {T : List (Addr × Str)} {H H' : Hp} (t : LamX.Tabs T H) (k : ∀ b o, H b = some o → (∃ ps, o = .tbl ps) ∨ (∃ c q, o = LamX.CodeO c q) → H' b = some o) : LamX.Tabs T H' := fun p hp => by
  obtain ⟨ps, h1, h2, h3⟩ := t p hp
  refine ⟨ps, k _ _ h1 (.inl ⟨ps, rfl⟩), h2, fun pos cv hc => ?_⟩
  obtain ⟨c, e1, e2⟩ := h3 pos cv hc
  exact ⟨c, e1, k _ _ e2 (.inr ⟨_, _, rfl⟩)⟩
section
variable {r : List Addr} {m : MH} {H : Hp} {p : Addr} {u : HO}
theorem RH.out (R : RH S r m H) (hp : H p = none) : p ∉ r := fun hr => by
  obtain ⟨l, hl, e⟩ := List.mem_iff_getElem.mp hr
  obtain ⟨w, h1, _⟩ := (R.obj l p (m[l]'(by rw [← R.len]; exact hl)) (by rw [List.getElem?_eq_getElem hl, e]) (List.getElem?_eq_getElem _)).there
  rw [hp] at h1
  cases h1
/-- a new object beside the locations -/
theorem RH.beside (R : RH S r m H) (hp : H p = none) : RH S r m (upd H p u) := by
  have hr := R.out hp
  refine ⟨R.len, R.nd, fun l a o h1 h2 => ?_, R.tabs.ext (same_new hp)⟩
  refine (R.obj l a o h1 h2).keep (ext_new hp) (upd_ne fun e => hr ?_)
  rw [← e]
  exact List.mem_of_getElem? h1
/-- a new location -/
theorem RH.push (R : RH S r m H) (hp : H p = none) {o : MO} (ho : RO S (r ++ [p]) (upd H p u) p o) : RH S (r ++ [p]) (m ++ [o]) (upd H p u) := by
  have hr := R.out hp
  have x : Ext r (r ++ [p]) H (upd H p u) := ext_push hp hr
  refine ⟨by rw [List.length_append, List.length_append, R.len]; rfl, ?_, fun l a o' h1 h2 => ?_, R.tabs.ext (same_new hp)⟩
  · rw [List.nodup_append]
    refine ⟨R.nd, by simp, fun b hb c hc e => ?_⟩
    have hc' : c = p := by simpa using hc
    exact hr (by rw [← hc', ← e]; exact hb)
  · by_cases hl : l < r.length
    · rw [List.getElem?_append_left hl] at h1
      rw [List.getElem?_append_left (by rw [← R.len]; exact hl)] at h2
      refine (R.obj l a o' h1 h2).keep x (upd_ne fun e => hr ?_)
      rw [← e]
      exact List.mem_of_getElem? h1
    · have h1' := h1
      rw [List.getElem?_append_right (by omega)] at h1
      rw [List.getElem?_append_right (by rw [← R.len]; omega)] at h2
      have e1 : l - r.length = 0 := by
        have := (List.getElem?_eq_some_iff.mp h1).1
        simp at this
        omega
      rw [e1] at h1
      have e2 : l - m.length = 0 := by rw [← R.len]; exact e1
      rw [e2] at h2
      simp at h1 h2
      subst h1 h2
      exact ho
/-- a location written -/
theorem RH.writeX (R : RH S r m H) {l : Nat} {a : Addr} {o : MO} {v : HO} (hl : r[l]? = some a) (ha : H a = some v) (nv : ¬ Stab v) (nt : ∀ ps, v ≠ .tbl ps) (ne : ∀ c q, v ≠ LamX.CodeO c q) (ho : RO S r (upd H a u) a o) : RH S r (m.set l o) (upd H a u) := by
  have x : Ext r r H (upd H a u) := ext_write hl ha nv
  refine ⟨by rw [List.length_set, R.len], R.nd, fun j b o' h1 h2 => ?_, tabs_keep R.tabs fun b w e hw => ?_⟩
  · by_cases hj : l = j
    · subst hj
      rw [hl] at h1
      cases h1
      rw [List.getElem?_set_self (by rw [← R.len]; exact (List.getElem?_eq_some_iff.mp hl).1)] at h2
      cases h2
      exact ho
    · rw [List.getElem?_set_ne hj] at h2
      refine (R.obj j b o' h1 h2).keep x (upd_ne fun e => hj ?_)
      subst e
      obtain ⟨i1, e1⟩ := List.getElem?_eq_some_iff.mp hl
      obtain ⟨i2, e2⟩ := List.getElem?_eq_some_iff.mp h1
      exact (List.getElem_inj R.nd).mp (e1.trans e2.symm)
  · by_cases hb : b = a
    · rw [hb, ha] at e
      cases e
      rcases hw with ⟨ps, e⟩ | ⟨c, q, e⟩
      · exact absurd e (nt ps)
      · exact absurd e (ne c q)
    · rw [upd_ne hb]
      exact e
theorem RH.write (R : RH S r m H) {l : Nat} {a : Addr} {o : MO} {v : HO} (hl : r[l]? = some a) (ha : H a = some v) (nv : ¬ Stab v) (nt : ∀ ps, v ≠ .tbl ps) (ne : ∀ φ, v ≠ .ext φ) (ho : RO S r (upd H a u) a o) : RH S r (m.set l o) (upd H a u) := R.writeX hl ha nv nt (fun c q e => ne _ e) ho
theorem RH.list (R : RH S r m H) {l : Nat} {a : Addr} {xs : List PV} (hl : r[l]? = some a) (h : listAt m l = some xs) : ∃ ys, SqL S.K H a ys ∧ RVs S.K r H xs ys := by
  unfold listAt at h
  split at h
  · rename_i e
    cases h
    obtain ⟨ys, h1, h2⟩ := R.obj l a _ hl e
    exact ⟨ys, .inl (.inl h1), h2⟩
  · cases h
theorem RH.wlist (R : RH S r m H) {l : Nat} {a : Addr} {xs : List PV} (hl : r[l]? = some a) (h : wlistAt m l = some xs) : ∃ ys, H a = some (.lst ys) ∧ RVs S.K r H xs ys := by
  unfold wlistAt at h
  split at h
  · rename_i e
    cases h
    exact R.obj l a _ hl e
  · cases h
theorem RH.at_ (R : RH S r m H) {l : Nat} {o : MO} (h : m[l]? = some o) : ∃ a, r[l]? = some a := by
  have := (List.getElem?_eq_some_iff.mp h).1
  exact ⟨r[l]'(by rw [R.len]; exact this), List.getElem?_eq_getElem _⟩
end
/-- a list that is no location is written -/
theorem RH.temp {r : List Addr} {m : MH} {H : Hp} {D : Addr} {ys zs : List V} (R : RH S r m H) (hD : D ∉ r) (h : H D = some (.lst ys)) : RH S r m (upd H D (.lst zs)) := by
  have k : Keep H (upd H D (.lst zs)) := keep_write h fun z => z
  refine ⟨R.len, R.nd, fun l a o h1 h2 => ?_, tabs_keep R.tabs fun b w e hw => ?_⟩
  · refine (R.obj l a o h1 h2).kept k (upd_ne fun e => hD ?_)
    rw [← e]
    exact List.mem_of_getElem? h1
  · by_cases hb : b = D
    · rw [hb, h] at e
      cases e
      rcases hw with ⟨ps, e⟩ | ⟨c, q, e⟩
      · cases e
      · exact HO.noConfusion e
    · rw [upd_ne hb]
      exact e
theorem Ext.temp {r r' : List Addr} {H H' : Hp} {D : Addr} {o : HO} (x : Ext r r' H H') (hD : Nt H D) : Ext r r' H (upd H' D o) := by
  obtain ⟨h1, h2, h3⟩ := x
  refine ⟨h1, fun b u hb e n => ?_, fun b u e s => ?_⟩
  · have ne : b ≠ D := fun z => by
      rw [z] at e
      obtain ⟨ps, z⟩ := hD _ e
      exact n ps z
    rw [upd_ne ne]
    exact h2 b u hb e n
  · have ne : b ≠ D := fun z => by
      rw [z] at e
      obtain ⟨ps, z⟩ := hD _ e
      rw [z] at s
      exact s
    rw [upd_ne ne]
    exact h3 b u e s
end Mi
end

section
set_option autoImplicit false
set_option Elab.async false
set_option linter.all false
set_option maxRecDepth 100000
namespace Mi
open PySem PySem.Spec PyProof.Rows L2
variable {S : Fx}
mutual
theorem beq_is : ∀ v w : PV, beqP v w = true → v = w
  | .non, w, h => by cases w <;> simp [beqP] at h; rfl
  | .bl a, w, h => by cases w <;> simp [beqP] at h; rw [h]
  | .int a, w, h => by cases w <;> simp [beqP] at h; rw [h]
  | .str a, w, h => by cases w <;> simp [beqP] at h; rw [h]
  | .tup xs, w, h => by
    cases w <;> simp [beqP] at h
    rw [beqs_is _ _ h]
  | .loc a, w, h => by cases w <;> simp [beqP] at h; rw [h]
  | .rng a b, w, h => by cases w <;> simp [beqP] at h; rw [h.1, h.2]
  | .seq a, w, h => by cases w <;> simp [beqP] at h; rw [h]
theorem beqs_is : ∀ vs ws : List PV, beqPs vs ws = true → vs = ws
  | [], [], _ => rfl
  | [], _ :: _, h => by simp [beqPs] at h
  | _ :: _, [], h => by simp [beqPs] at h
  | v :: vs, w :: ws, h => by
    rw [beqPs, Bool.and_eq_true] at h
    rw [beq_is v w h.1, beqs_is vs ws h.2]
end
mutual
theorem beq_self : ∀ v : PV, beqP v v = true
  | .non => rfl
  | .bl b => by simp [beqP]
  | .int i => by simp [beqP]
  | .str x => by simp [beqP]
  | .tup xs => by rw [beqP]; exact beqs_self xs
  | .loc l => by simp [beqP]
  | .rng a b => by simp [beqP]
  | .seq ns => by simp [beqP]
theorem beqs_self : ∀ vs : List PV, beqPs vs vs = true
  | [] => rfl
  | v :: vs => by rw [beqPs, beq_self v, beqs_self vs]; rfl
end
theorem keyP_inj {a b : Key} (h : keyP a = keyP b) : a = b := by
  cases a <;> cases b <;> first | (cases h; rfl) | (cases h; done)
mutual
theorem nkey_some : ∀ v : PV, keyTr v = true → ∃ k, nkey v = some k ∧ k.depth ≤ depth v
  | .int i, _ => ⟨.num i, rfl, by simp [NestedKey.depth]⟩
  | .str x, _ => ⟨.text x, rfl, by simp [NestedKey.depth]⟩
  | .tup xs, h => by
    obtain ⟨ks, h1, h2⟩ := nkeys_some xs (by rw [keyTr] at h; exact h)
    exact ⟨.tup ks, by rw [nkey, h1]; rfl, by rw [NestedKey.depth, depth]; omega⟩
  | .non, h => by cases h
  | .bl _, h => by cases h
  | .loc _, h => by cases h
  | .rng _ _, h => by cases h
  | .seq _, h => by cases h
theorem nkeys_some : ∀ vs : List PV, keyTrs vs = true → ∃ ks, nkeys vs = some ks ∧ NestedKey.depthAll ks ≤ depths vs
  | [], _ => ⟨[], rfl, by simp [NestedKey.depthAll]⟩
  | v :: vs, h => by
    rw [keyTrs, Bool.and_eq_true] at h
    obtain ⟨k, h1, h2⟩ := nkey_some v h.1
    obtain ⟨ks, h3, h4⟩ := nkeys_some vs h.2
    refine ⟨k :: ks, by rw [nkeys, h1, h3], ?_⟩
    rw [NestedKey.depthAll, depths]
    omega
end
mutual
theorem nkey_inj : ∀ (v w : PV) (k : NestedKey), nkey v = some k → nkey w = some k → v = w
  | .int i, w, k, h, h2 => by
    cases h
    cases w with
    | int j => cases h2; rfl
    | str x => cases h2
    | tup xs =>
      rw [nkey] at h2
      cases e : nkeys xs with
      | none => rw [e] at h2; cases h2
      | some ks => rw [e] at h2; cases h2
    | _ => cases h2
  | .str x, w, k, h, h2 => by
    cases h
    cases w with
    | int j => cases h2
    | str x => cases h2; rfl
    | tup xs =>
      rw [nkey] at h2
      cases e : nkeys xs with
      | none => rw [e] at h2; cases h2
      | some ks => rw [e] at h2; cases h2
    | _ => cases h2
  | .tup xs, w, k, h, h2 => by
    rw [nkey] at h
    cases e : nkeys xs with
    | none => rw [e] at h; cases h
    | some ks =>
      rw [e] at h
      cases h
      cases w with
      | int j => cases h2
      | str x => cases h2
      | tup ys =>
        rw [nkey] at h2
        cases e2 : nkeys ys with
        | none => rw [e2] at h2; cases h2
        | some ls =>
          rw [e2] at h2
          cases h2
          rw [nkeys_inj xs ys ks e e2]
      | _ => cases h2
  | .non, _, _, h, _ => by cases h
  | .bl _, _, _, h, _ => by cases h
  | .loc _, _, _, h, _ => by cases h
  | .rng _ _, _, _, h, _ => by cases h
  | .seq _, _, _, h, _ => by cases h
theorem nkeys_inj : ∀ (vs ws : List PV) (ks : List NestedKey), nkeys vs = some ks → nkeys ws = some ks → vs = ws
  | [], ws, ks, h, h2 => by
    cases h
    cases ws with
    | nil => rfl
    | cons w ws =>
      rw [nkeys] at h2
      cases e : nkey w with
      | none => rw [e] at h2; cases h2
      | some k =>
        cases e2 : nkeys ws with
        | none => rw [e, e2] at h2; cases h2
        | some ls => rw [e, e2] at h2; cases h2
  | v :: vs, ws, ks, h, h2 => by
    rw [nkeys] at h
    cases e : nkey v with
    | none => rw [e] at h; cases h
    | some k =>
      cases e2 : nkeys vs with
      | none => rw [e, e2] at h; cases h
      | some ls =>
        rw [e, e2] at h
        cases h
        cases ws with
        | nil => cases h2
        | cons w ws =>
          rw [nkeys] at h2
          cases e3 : nkey w with
          | none => rw [e3] at h2; cases h2
          | some k2 =>
            cases e4 : nkeys ws with
            | none => rw [e3, e4] at h2; cases h2
            | some ls2 =>
              rw [e3, e4] at h2
              cases h2
              rw [nkey_inj v w k e e3, nkeys_inj vs ws ls e2 e4]
end
mutual
/-- a tree that is a key, as the model's heap holds it -/
theorem nested_of {X : Cx} {pins : List (Addr × Obj)} {σ : L2.St} {s : Shared} {r : List Addr} {H : Hp} (I : Inv X pins σ H s) : ∀ {v : PV} {y : V} {u : Value} {k : NestedKey}, RV X.K r H v y → RelV y u → nkey v = some k → NestedIs s.heap k u
  | _, _, u, k, .int i, ry, e => by
    obtain ⟨t, rfl⟩ := ry
    cases e
    exact .int i t
  | _, _, u, k, .str x, ry, e => by
    obtain ⟨t, rfl⟩ := ry
    cases e
    exact .text x t
  | .tup xs, _, u, k, .tup h d t, ry, e => by
    rw [nkey] at e
    cases q : nkeys xs with
    | none => rw [q] at e; cases e
    | some ks =>
      rw [q] at e
      cases e
      cases ry
      obtain ⟨its, rv, ⟨o, h1, h2, n, h3⟩, _⟩ := I.tuple h
      exact .tup h1 h2 h3 (by simpa using nesteds_of I t rv q)
  | _, _, _, _, .non, _, e => by cases e
  | _, _, _, _, .bl _, _, e => by cases e
  | _, _, _, _, .loc _, _, e => by cases e
  | _, _, _, _, .rng _, _, e => by cases e
  | _, _, _, _, .seq _, _, e => by cases e
theorem nesteds_of {X : Cx} {pins : List (Addr × Obj)} {σ : L2.St} {s : Shared} {r : List Addr} {H : Hp} (I : Inv X pins σ H s) : ∀ {vs : List PV} {ys : List V} {us : List Value} {ks : List NestedKey}, RVs X.K r H vs ys → Vals ys us → nkeys vs = some ks → NestedAll s.heap ks us
  | _, _, _, _, .nil, .nil, e => by cases e; exact .nil
  | x :: xs, _, _, ks, .cons h t, .cons ry rys, e => by
    rw [nkeys] at e
    cases q : nkey x with
    | none => rw [q] at e; cases e
    | some k =>
      cases q2 : nkeys xs with
      | none => rw [q, q2] at e; cases e
      | some ls =>
        rw [q, q2] at e
        cases e
        exact .cons (nested_of I h ry q) (nesteds_of I t rys q2)
end
section
variable {K : PySem.W.Frag} {r : List Addr} {H : Hp}
theorem look_K (k : Key) : ∀ {kvs : List (PV × PV)} {ks : List (Key × V)}, DKs K r H kvs ks → (∀ v, look (keyP k) kvs = some v → ∃ y, valV ks k = some y ∧ RV K r H v y) ∧ (look (keyP k) kvs = none → valV ks k = none)
  | _, _, .nil => ⟨fun v h => by (cases h), fun _ => rfl⟩
  | (j, v) :: kvs, (k2, y) :: ks, .cons ⟨h1, h2⟩ t => by
    obtain ⟨i1, i2⟩ := look_K k t
    have h1 : j = keyP k2 := h1
    rw [look]
    by_cases e : k2 = k
    · have b : beqP j (keyP k) = true := by rw [h1, e]; exact beq_self _
      rw [if_pos b, valV_pos (p := (k2, y)) e]
      exact ⟨fun v' h => ⟨y, rfl, by cases h; exact h2⟩, fun h => by cases h⟩
    · have b : ¬ beqP j (keyP k) = true := fun z => e (keyP_inj (h1 ▸ beq_is _ _ z))
      rw [if_neg b, valV_neg (p := (k2, y)) e]
      exact ⟨i1, i2⟩
theorem look_T {w : PV} {k : NestedKey} (hk : nkey w = some k) : ∀ {kvs : List (PV × PV)} {xs : List (NestedKey × Addr × Value)}, DTs K r H kvs xs → (∀ v, look w kvs = some v → ∃ p y, atKey xs k = some p ∧ RelV y p.2 ∧ RV K r H v y) ∧ (look w kvs = none → atKey xs k = none)
  | _, _, .nil => ⟨fun v h => by (cases h), fun _ => rfl⟩
  | (j, v) :: kvs, (k2, p) :: xs, .cons ⟨⟨h1, _⟩, h2, y, h3, h4⟩ t => by
    obtain ⟨i1, i2⟩ := look_T hk t
    have h1 : nkey j = some k2 := h1
    rw [look]
    by_cases e : k2 = k
    · have b : beqP j w = true := by rw [nkey_inj j w k (e ▸ h1) hk]; exact beq_self _
      have a : atKey ((k2, p) :: xs) k = some p := by unfold atKey; rw [List.find?_cons_of_pos (by simpa using e)]; rfl
      rw [if_pos b, a]
      exact ⟨fun v' h => ⟨p, y, rfl, h3, by cases h; exact h4⟩, fun h => by cases h⟩
    · have b : ¬ beqP j w = true := fun z => by
        have := beq_is _ _ z
        subst this
        rw [hk] at h1
        exact e (Option.some.inj h1).symm
      have a : atKey ((k2, p) :: xs) k = atKey xs k := by unfold atKey; rw [List.find?_cons_of_neg (by simpa using e)]
      rw [if_neg b, a]
      exact ⟨i1, i2⟩
end
theorem putAt_map {k : NestedKey} {v : Value} : ∀ (xs : List (NestedKey × Addr × Value)), (∀ x ∈ xs, x.1 ≠ k) → xs.map (putAt k v) = xs
  | [], _ => rfl
  | x :: xs, h => by
    rw [List.map_cons, putAt_map xs fun y hy => h y (List.mem_cons_of_mem _ hy)]
    unfold putAt
    rw [if_neg (h x List.mem_cons_self)]
theorem storedH_len (xs : List (NestedKey × Addr × Value)) (k : NestedKey) (a : Addr) (v : Value) : (storedH xs k a v).length ≤ xs.length + 1 := by
  unfold storedH
  split
  · rw [List.length_map]; omega
  · rw [List.length_append]; exact Nat.le_refl _
section
variable {K : PySem.W.Frag} {r : List Addr} {H : Hp}
theorem put_K (k : Key) {w : PV} {y : V} (hw : RV K r H w y) : ∀ {kvs : List (PV × PV)} {ks : List (Key × V)}, DKs K r H kvs ks → (ks.map (·.1)).Nodup → DKs K r H (put (keyP k) w kvs) (putK ks k y)
  | _, _, .nil, _ => .cons ⟨rfl, hw⟩ .nil
  | (j, v) :: kvs, (k2, z) :: ks, .cons ⟨h1, h2⟩ t, nd => by
    have h1 : j = keyP k2 := h1
    rw [List.map_cons, List.nodup_cons] at nd
    rw [put]
    by_cases e : k2 = k
    · have b : beqP j (keyP k) = true := by rw [h1, e]; exact beq_self _
      rw [if_pos b]
      unfold putK
      rw [if_pos (by rw [List.any_cons]; simp [e]), List.map_cons, if_pos e]
      refine .cons ⟨h1, hw⟩ ?_
      have same : ks.map (fun kv => if kv.1 = k then (kv.1, y) else kv) = ks := by
        apply List.ext_getElem?
        intro i
        rw [List.getElem?_map]
        cases q : ks[i]? with
        | none => rfl
        | some p =>
          have : p.1 ≠ k := fun z => nd.1 (by rw [e, ← z]; exact List.mem_map.mpr ⟨p, List.mem_of_getElem? q, rfl⟩)
          show some (if p.1 = k then (p.1, y) else p) = some p
          rw [if_neg this]
      rw [same]
      exact t
    · have b : ¬ beqP j (keyP k) = true := fun z => e (keyP_inj (h1 ▸ beq_is _ _ z))
      rw [if_neg b]
      have ih := put_K k hw t nd.2
      unfold putK at ih ⊢
      rw [List.any_cons, decide_eq_false e, Bool.false_or]
      by_cases q : (ks.any fun kv => decide (kv.1 = k)) = true
      · rw [if_pos q] at ih ⊢
        rw [List.map_cons, if_neg e]
        exact .cons ⟨h1, h2⟩ ih
      · rw [if_neg q] at ih ⊢
        exact .cons ⟨h1, h2⟩ ih
theorem put_T {w v : PV} {k : NestedKey} {a : Addr} {y : V} {u : Value} (hk : nkey w = some k) (h8 : k.depth ≤ 8) (hwr : RV K r H w (.ref a)) (hv : RV K r H v y) (ru : RelV y u) : ∀ {kvs : List (PV × PV)} {xs : List (NestedKey × Addr × Value)}, DTs K r H kvs xs → (xs.map (·.1)).Nodup → DTs K r H (put w v kvs) (storedH xs k a u)
  | _, _, .nil, _ => .cons ⟨⟨hk, h8⟩, hwr, y, ru, hv⟩ .nil
  | (j, v2) :: kvs, (k2, p) :: xs, .cons ⟨⟨h1, d1⟩, h2, z, h3, h4⟩ t, nd => by
    have h1 : nkey j = some k2 := h1
    rw [List.map_cons, List.nodup_cons] at nd
    rw [put]
    by_cases e : k2 = k
    · have b : beqP j w = true := by rw [nkey_inj j w k (e ▸ h1) hk]; exact beq_self _
      have q : (atKey ((k2, p) :: xs) k).isSome = true := by unfold atKey; rw [List.find?_cons_of_pos (by simpa using e)]; rfl
      rw [if_pos b]
      unfold storedH
      rw [if_pos q, List.map_cons, putAt_map xs fun x hx z => nd.1 (by rw [e, ← z]; exact List.mem_map.mpr ⟨x, hx, rfl⟩)]
      unfold putAt
      rw [if_pos e]
      exact .cons ⟨⟨h1, d1⟩, h2, y, ru, hv⟩ t
    · have b : ¬ beqP j w = true := fun z => by
        have := beq_is _ _ z
        subst this
        rw [hk] at h1
        exact e (Option.some.inj h1).symm
      have q : atKey ((k2, p) :: xs) k = atKey xs k := by unfold atKey; rw [List.find?_cons_of_neg (by simpa using e)]
      have ih := put_T hk h8 hwr hv ru t nd.2
      rw [if_neg b]
      unfold storedH at ih ⊢
      rw [q]
      cases c : (atKey xs k).isSome with
      | true =>
        rw [c] at ih
        simp only [if_true] at ih ⊢
        rw [List.map_cons]
        have : putAt k u (k2, p) = (k2, p) := by unfold putAt; rw [if_neg e]
        rw [this]
        exact .cons ⟨⟨h1, d1⟩, h2, z, h3, h4⟩ ih
      | false =>
        rw [c] at ih
        simp only [Bool.false_eq_true, if_false] at ih ⊢
        exact .cons ⟨⟨h1, d1⟩, h2, z, h3, h4⟩ ih
end
section
variable {X : Cx} {pins : List (Addr × Obj)} {σ : L2.St} {s : Shared} {r : List Addr} {H : Hp} {a : Addr} {kvs : List (PV × PV)} {k : PV}
theorem tup_of_ref {v : PV} {b : Addr} {c : NestedKey} {K : PySem.W.Frag} (h : RV K r H v (.ref b)) (e : nkey v = some c) : isTupP v = true := by
  cases h with
  | tup h d t => rfl
  | loc h => cases e
  | rng h => cases e
  | seq h => cases e
theorem kOk_parts (h : kOk k kvs = true) : keyTr k = true ∧ depth k ≤ 7 ∧ ∀ p ∈ kvs, isTupP p.1 = isTupP k := by
  unfold kOk at h
  rw [Bool.and_eq_true, Bool.and_eq_true, decide_eq_true_eq, List.all_eq_true] at h
  exact ⟨h.1.1, h.1.2, fun p hp => by simpa using h.2 p hp⟩
theorem entry_same {P Q : Program} {w : World} : entryOfKey (nestedKind P w) = entryOfKey (nestedKind Q w) := rfl
/-- tuples as keys -/
theorem dct_T (hK : X.K = S.K) (hw : X.w = S.w) (I : Inv X pins σ H s) (d : DctR S r H a kvs) (hk : ∀ p ∈ kvs, isTupP p.1 = true) : ∃ xs, s.heap.DictOfH (nestedKind X.prog X.w) a xs ∧ (a == sysModules) = false ∧ xs.length ≤ sizeLine ∧ DTs S.K r H kvs xs := by
  rcases d with ⟨ks, h1, h2, h3⟩ | ⟨xs, h1, h2, h3, h4⟩
  · cases h3 with
    | nil =>
      obtain ⟨_, hd, vs, rel, dd⟩ := dk_of I.hok h1
      cases rel
      obtain ⟨o, es, ep, g1, g2, g3, _, g5, _⟩ := dd
      have e : es.toList = [] := by
        generalize es.toList = l at g5
        cases g5
        rfl
      exact ⟨[], ⟨o, es, ep, g1, g2, g3, by simpa using e, (fun x hx => by cases hx), List.nodup_nil⟩, hd, Nat.zero_le _, .nil⟩
    | @cons p q ps qs h t =>
      have := hk _ List.mem_cons_self
      rw [h.1] at this
      cases hq : q.1 with
      | inl i => rw [hq] at this; cases this
      | inr x => rw [hq] at this; cases this
  · obtain ⟨⟨o, es, ep, g1, g2, g3, g4, g5⟩, _⟩ := (show ObjOk X.prog X.w H s.heap a (DNO S.prog S.w a xs) from I.hok a _ h1)
    refine ⟨xs, ⟨o, es, ep, g1, g2, g3, by rw [hw]; exact g4, ?_, g5⟩, h2, h3, h4⟩
    clear g4 g5 g3 h3 hk
    have go : ∀ {kvs : List (PV × PV)} {xs : List (NestedKey × Addr × Value)}, DTs S.K r H kvs xs → ∀ x ∈ xs, NestedIs s.heap x.1 (.ref x.2.1) ∧ x.1.depth ≤ 8 := by
      intro kvs xs d
      induction d with
      | nil => intro x hx; cases hx
      | cons h t ih =>
        intro x hx
        rcases List.mem_cons.mp hx with z | z
        · subst z
          obtain ⟨⟨j1, j2⟩, j3, _⟩ := h
          rw [← hK] at j3
          exact ⟨nested_of I j3 (show RelV (.ref x.2.1) (Value.ref x.2.1) from rfl) j1, j2⟩
        · exact ih x z
    exact go h4
/-- atoms as keys -/
theorem dct_K (hK : X.K = S.K) (hw : X.w = S.w) (I : Inv X pins σ H s) (d : DctR S r H a kvs) (hk : ∀ p ∈ kvs, isTupP p.1 = false) : ∃ ks vs, KV ks vs ∧ s.heap.DictOf (mixKind X.prog X.w) a vs ∧ (a == sysModules) = false ∧ ks.length ≤ sizeLine ∧ (ks.map (·.1)).Nodup ∧ DKs S.K r H kvs ks := by
  rcases d with ⟨ks, h1, h2, h3⟩ | ⟨xs, h1, h2, h3, h4⟩
  · obtain ⟨z, hd, vs, rel, dd⟩ := dk_of I.hok h1
    exact ⟨ks, vs, rel, dd, hd, z, h2, h3⟩
  · cases h4 with
    | nil =>
      obtain ⟨⟨o, es, ep, g1, g2, g3, g4, g5⟩, _⟩ := (show ObjOk X.prog X.w H s.heap a (DNO S.prog S.w a []) from I.hok a _ h1)
      have e : es = #[] := by simpa using g4
      subst e
      exact ⟨[], [], .nil, ⟨o, #[], ep, g1, g2, g3, (fun x hx => by simp at hx), .nil, List.nodup_nil⟩, h2, Nat.zero_le _, List.nodup_nil, .nil⟩
    | @cons p q ps qs h t =>
      have := hk _ List.mem_cons_self
      obtain ⟨⟨j1, _⟩, j3, _⟩ := h
      rw [tup_of_ref j3 j1] at this
      cases this
theorem atom_of {v : PV} (h : keyTr v = true) (n : isTupP v = false) : ∃ k : Key, v = keyP k := by
  cases v with
  | int i => exact ⟨.inl i, rfl⟩
  | str x => exact ⟨.inr x, rfl⟩
  | tup xs => cases n
  | _ => cases h
theorem atom_rel {k : Key} {y : V} {K : PySem.W.Frag} (h : RV K r H (keyP k) y) : y = kV k := by
  cases k with
  | inl i => cases h; rfl
  | inr x => cases h; rfl
theorem tup_rel {v : PV} {y : V} {K : PySem.W.Frag} (h : RV K r H v y) (n : isTupP v = true) : ∃ b, y = .ref b := by
  cases h with
  | tup h d t => exact ⟨_, rfl⟩
  | _ => cases n
theorem room_n (hu : X.A.units + 65 < cLine) : (nestedKind X.prog X.w).room X.A.in1 := by
  show X.A.units + 1 + 8 < cLine
  omega
theorem dct_type (I : Inv X pins σ H s) (d : DctR S r H a kvs) : s.TypeIs (.ref a) "dict" := by
  rcases d with ⟨ks, h1, h2, h3⟩ | ⟨xs, h1, h2, h3, h4⟩
  · obtain ⟨z, hd, vs, rel, dd⟩ := dk_of I.hok h1
    exact dd.typeIs
  · obtain ⟨⟨o, es, ep, g1, g2, g3, g4, g5⟩, _⟩ := (show ObjOk X.prog X.w H s.heap a (DNO S.prog S.w a xs) from I.hok a _ h1)
    exact ⟨o, g1, g2.1⟩
/-- k in d, k not in d -/
theorem dct_in (hK : X.K = S.K) (hw : X.w = S.w) (hu : X.A.units + 65 < cLine) (neg : Bool) {x : V} {u1 : Value} {Q : VK} (I : Inv X pins σ H s) (d : DctR S r H a kvs) (hv : RV S.K r H k x) (rx : RelV x u1) (hk : kOk k kvs = true) (q : Q (.bl (if neg then !(look k kvs).isSome else (look k kvs).isSome)) H) :
    wpAny (model X.prog X.w) X.A (compareOp (if neg then .NotIn else .In) u1 (.ref a)) (EP X pins σ Q) X.xe s := by
  obtain ⟨k1, k2, k3⟩ := kOk_parts hk
  cases n : isTupP k with
  | true =>
    obtain ⟨b, rfl⟩ := tup_rel hv n
    cases (show u1 = Value.ref b from rx)
    obtain ⟨nk, e1, e2⟩ := nkey_some k k1
    obtain ⟨xs, dd, hd, hz, dt⟩ := dct_T hK hw I d (fun p hp => (k3 p hp).trans n)
    have is : (nestedKind X.prog X.w).is s.heap nk b := ⟨nested_of I (y := .ref b) (by rw [hK]; exact hv) (show RelV (.ref b) (Value.ref b) from rfl) e1, by omega⟩
    have lk : (atKey xs nk).isSome = (look k kvs).isSome := by
      obtain ⟨i1, i2⟩ := look_T e1 dt
      cases c : look k kvs with
      | none => rw [i2 c]; rfl
      | some v => obtain ⟨p, y, j, _⟩ := i1 v c; rw [j]; rfl
    cases neg with
    | false => exact wpAny_in_heap (room_n hu) is hd dd ⟨.bl _, H, I.tok _, rfl, by rw [lk]; exact q⟩
    | true => exact wpAny_notIn_heap (room_n hu) is hd dd ⟨.bl _, H, I.tok _, rfl, by rw [lk]; exact q⟩
  | false =>
    obtain ⟨c, rfl⟩ := atom_of k1 n
    cases atom_rel hv
    obtain ⟨ks, vs, rel, dd, hd, hz, nd, dk⟩ := dct_K hK hw I d (fun p hp => (k3 p hp).trans n)
    have lk : (valueAt vs c).isSome = (look (keyP c) kvs).isSome := by
      rw [← (rel.val c).isSome_eq]
      obtain ⟨i1, i2⟩ := look_K c dk
      cases j : look (keyP c) kvs with
      | none => rw [i2 j]; rfl
      | some v => obtain ⟨y, j, _⟩ := i1 v j; rw [j]; rfl
    cases neg with
    | false => exact wpAny_in_of (kV_is rx) hd dd.mapOf ⟨.bl _, H, I.tok _, rfl, by rw [lk]; exact q⟩
    | true => exact wpAny_notIn_of (kV_is rx) hd dd.mapOf ⟨.bl _, H, I.tok _, rfl, by rw [lk]; exact q⟩
/-- d[k] -/
theorem dct_item (hK : X.K = S.K) (hw : X.w = S.w) (hu : X.A.units + 65 < cLine) {x : V} {u1 : Value} {v : PV} {Q : VK} (I : Inv X pins σ H s) (d : DctR S r H a kvs) (hv : RV S.K r H k x) (rx : RelV x u1) (hk : kOk k kvs = true) (hl : look k kvs = some v) (q : ∀ y, RV S.K r H v y → Q y H) :
    wpAny (model X.prog X.w) X.A (getItem (.ref a) u1) (EP X pins σ Q) X.xe s := by
  obtain ⟨k1, k2, k3⟩ := kOk_parts hk
  cases n : isTupP k with
  | true =>
    obtain ⟨b, rfl⟩ := tup_rel hv n
    cases (show u1 = Value.ref b from rx)
    obtain ⟨nk, e1, e2⟩ := nkey_some k k1
    obtain ⟨xs, dd, hd, hz, dt⟩ := dct_T hK hw I d (fun p hp => (k3 p hp).trans n)
    have is : (nestedKind X.prog X.w).is s.heap nk b := ⟨nested_of I (y := .ref b) (by rw [hK]; exact hv) (show RelV (.ref b) (Value.ref b) from rfl) e1, by omega⟩
    obtain ⟨p, y, j1, j2, j3⟩ := (look_T e1 dt).1 v hl
    exact wpAny_getItem_heap (room_n hu) is dd j1 ⟨y, H, I.tok _, j2, q y j3⟩
  | false =>
    obtain ⟨c, rfl⟩ := atom_of k1 n
    cases atom_rel hv
    obtain ⟨ks, vs, rel, dd, hd, hz, nd, dk⟩ := dct_K hK hw I d (fun p hp => (k3 p hp).trans n)
    obtain ⟨y, j1, j2⟩ := (look_K c dk).1 v hl
    obtain ⟨w', hw', rw'⟩ := RelO.some_of (v := y) (o := valueAt vs c) (by rw [← j1]; exact rel.val c)
    exact wpAny_getItem_of (kV_is rx) dd.mapOf hw' ⟨y, H, I.tok _, rw', q y j2⟩
/-- what stands where a dict stands -/
def DctO (S : Fx) (r : List Addr) (H : Hp) (a : Addr) (kvs : List (PV × PV)) (o : HO) : Prop :=
  (∃ ks, o = .dK ks ∧ (ks.map (·.1)).Nodup ∧ DKs S.K r H kvs ks) ∨ ∃ xs, o = DNO S.prog S.w a xs ∧ (a == sysModules) = false ∧ xs.length ≤ sizeLine ∧ DTs S.K r H kvs xs
theorem DctR.o (d : DctR S r H a kvs) : ∃ o, H a = some o ∧ DctO S r H a kvs o ∧ ¬ Stab o ∧ (∀ ps, o ≠ .tbl ps) ∧ ∀ c q, o ≠ LamX.CodeO c q := by
  rcases d with ⟨ks, h1, h2, h3⟩ | ⟨xs, h1, h2, h3, h4⟩
  · exact ⟨_, h1, .inl ⟨ks, rfl, h2, h3⟩, fun z => z, (fun _ z => by cases z), fun _ _ z => HO.noConfusion z⟩
  · exact ⟨_, h1, .inr ⟨xs, rfl, h2, h3, h4⟩, fun z => z, fun _ z => HO.noConfusion z, fun c q => dno_ne c q⟩
theorem DctO.at_ {o : HO} {r' : List Addr} {H' : Hp} (d : DctO S r H a kvs o) (ha : H' a = some o) (f : ∀ v y, RV S.K r H v y → RV S.K r' H' v y) : DctR S r' H' a kvs := by
  rcases d with ⟨ks, rfl, h2, h3⟩ | ⟨xs, rfl, h2, h3, h4⟩
  · exact .inl ⟨ks, ha, h2, Paired.mapP h3 fun p q z => ⟨z.1, f _ _ z.2⟩⟩
  · exact .inr ⟨xs, ha, h2, h3, Paired.mapP h4 fun p q ⟨z1, z2, y, z3, z4⟩ => ⟨z1, f _ _ z2, y, z3, f _ _ z4⟩⟩
theorem dno_ok {P : Program} {w : World} {H' : Hp} {h : Heap} {xs : List (NestedKey × Addr × Value)} {P' : Program} (dd : h.DictOfH (nestedKind P' w) a xs) : ObjOk P w H' h a (DNO S.prog w a xs) := by
  obtain ⟨o, es, ep, g1, g2, g3, g4, _, g5⟩ := dd
  refine ⟨⟨o, es, ep, g1, g2, g3, g4, g5⟩, ⟨o, g1⟩, fun h1 h2 ⟨o, es, ep, g1, g2, g3, g4, g5⟩ k => ⟨o, es, ep, k o g1, g2, g3, g4, g5⟩⟩
theorem nd_put (k : Key) (y : V) : ∀ {ks : List (Key × V)}, (ks.map (·.1)).Nodup → ((putK ks k y).map (·.1)).Nodup := fun {ks} h => by
  unfold putK
  split
  · rw [List.map_map]
    have : (Prod.fst ∘ fun kv : Key × V => if kv.1 = k then (kv.1, y) else kv) = Prod.fst := by
      funext kv
      show (if kv.1 = k then (kv.1, y) else kv).1 = kv.1
      split <;> rfl
    rw [this]
    exact h
  · rename_i q
    rw [List.map_append, List.nodup_append]
    refine ⟨h, by simp, fun b hb c hc z => ?_⟩
    have hc : c = k := by simpa using hc
    subst hc
    obtain ⟨p, hp, e⟩ := List.mem_map.mp hb
    exact q (List.any_eq_true.mpr ⟨p, hp, by simp [e, z]⟩)
/-- d[k] = v -/
theorem dct_set (hK : X.K = S.K) (hw : X.w = S.w) (hu : X.A.units + 65 < cLine) {x y : V} {u1 u2 : Value} {v : PV} {Q : Unit → Shared → Prop} (I : Inv X pins σ H s) (d : DctR S r H a kvs) (hv : RV S.K r H k x) (rx : RelV x u1) (hy : RV S.K r H v y) (ry : RelV y u2) (hk : kOk k kvs = true) (hlen : kvs.length < sizeLine)
    (q : ∀ o s', DctO S r H a (put k v kvs) o → Inv X pins σ (upd H a o) s' → Q () s') : wpAny (model X.prog X.w) X.A (setItem (.ref a) u1 u2) Q X.xe s := by
  obtain ⟨k1, k2, k3⟩ := kOk_parts hk
  obtain ⟨o0, h0, _, ns, _, _⟩ := d.o
  have mu : Mut (H a) := by
    rcases d with ⟨ks, h1, _⟩ | ⟨xs, h1, _⟩
    · rw [h1]; exact True.intro
    · rw [h1]; exact True.intro
  cases n : isTupP k with
  | true =>
    obtain ⟨b, rfl⟩ := tup_rel hv n
    cases (show u1 = Value.ref b from rx)
    obtain ⟨nk, e1, e2⟩ := nkey_some k k1
    obtain ⟨xs, dd, hd, hz, dt⟩ := dct_T hK hw I d (fun p hp => (k3 p hp).trans n)
    have is : (nestedKind X.prog X.w).is s.heap nk b := ⟨nested_of I (y := .ref b) (by rw [hK]; exact hv) (show RelV (.ref b) (Value.ref b) from rfl) e1, by omega⟩
    have nd : (xs.map (·.1)).Nodup := by obtain ⟨_, _, _, _, _, _, _, _, nd⟩ := dd; exact nd
    have hl : (storedH xs nk b u2).length ≤ sizeLine := by
      have := storedH_len xs nk b u2
      have := Paired.length dt
      omega
    refine wpAny_setItem_heap (hsz := hz) (room_n hu) is dd fun h' dd' hs => q (DNO S.prog S.w a (storedH xs nk b u2)) _ (.inr ⟨_, rfl, hd, hl, put_T e1 (by omega) hv hy ry dt nd⟩) ?_
    have he : ∃ z, h'.get? a = some z := let ⟨z, _, _, hq, _⟩ := dd'; ⟨z, hq⟩
    exact d_write I mu hs he (by rw [← hw]; exact dno_ok dd')
  | false =>
    obtain ⟨c, rfl⟩ := atom_of k1 n
    cases atom_rel hv
    obtain ⟨ks, vs, rel, dd, hd, hz, nd, dk⟩ := dct_K hK hw I d (fun p hp => (k3 p hp).trans n)
    have hzv : vs.length ≤ sizeLine := by rw [← rel.length]; exact hz
    have hl : (putK ks c y).length ≤ sizeLine := by
      have := length_putK ks c y
      have := Paired.length dk
      omega
    refine wpAny_setItem_pairs (hsz := hzv) (kV_is rx) dd fun h' dd' hs => q (.dK (putK ks c y)) _ (.inl ⟨_, rfl, nd_put c y nd, put_K c hy dk nd⟩) ?_
    have he : ∃ z, h'.get? a = some z := let ⟨z, _, _, hq, _⟩ := dd'; ⟨z, hq⟩
    exact d_write I mu hs he (dk_new hl hd (rel.put c ry) dd')
end
end Mi
end

section
set_option autoImplicit false
set_option Elab.async false
set_option linter.all false
set_option maxRecDepth 100000
namespace Mi
open PySem PySem.Spec PyProof.Rows L2
variable {S : Fx}

abbrev Rel (α β : Type) := Hp → List Addr → Hp → α → β → Prop
def GE {α β : Type} (S : Fx) (R : Rel α β) (r : List Addr) (H : Hp) (Q : β → Hp → Prop) (E : XK) : Res α → Prop
  | .ok a m => ∀ (r' : List Addr) (H' : Hp) (b : β), Ext r r' H H' → RH S r' m H' → R H r' H' a b → Q b H'
  | .exc c v m => ∀ (r' : List Addr) (H' : Hp) (d : Addr) (y : V), Ext r r' H H' → RH S r' m H' → H' d = some (.xd [(S.xf c, y)]) → RV S.K r' H' v y → E (.ref (S.xc c)) (some d) H'
  | .stuck => False
/-- what is so seen from a later start is so from an earlier one -/
def Anti {α β : Type} (R : Rel α β) : Prop := ∀ r r1 r' H H1 H' a b, Ext r r1 H H1 → Ext r1 r' H1 H' → R H1 r' H' a b → R H r' H' a b
abbrev Rv (S : Fx) : Rel PV V := fun _ r H v y => RV S.K r H v y
abbrev Rvs (S : Fx) : Rel (List PV) (List V) := fun _ r H v y => RVs S.K r H v y
abbrev Rb : Rel Bool Bool := fun _ _ _ b c => c = b
abbrev Ro : Rel (Option Int) (Option Int) := fun _ _ _ b c => c = b
/-- a value, or a list that only this expression knows -/
def Rx (S : Fx) : Rel XV V := fun H0 r H x y => match x with
  | .val v => RV S.K r H v y
  | .tmp xs => ∃ a ys, y = .ref a ∧ H a = some (.lst ys) ∧ RVs S.K r H xs ys ∧ a ∉ r ∧ Nt H0 a
  | .its _ _ => False
theorem anti_v : Anti (Rv S) := fun _ _ _ _ _ _ _ _ _ _ h => h
theorem anti_vs : Anti (Rvs S) := fun _ _ _ _ _ _ _ _ _ _ h => h
theorem anti_b : Anti Rb := fun _ _ _ _ _ _ _ _ _ _ h => h
theorem anti_o : Anti Ro := fun _ _ _ _ _ _ _ _ _ _ h => h
theorem anti_x : Anti (Rx S) := fun r r1 r' H H1 H' x y e1 e2 h => by
  cases x with
  | val v => exact h
  | tmp xs =>
    obtain ⟨a, ys, rfl, h1, h2, h3, h4⟩ := h
    exact ⟨a, ys, rfl, h1, h2, h3, e1.fresh (fun q => h3 (e2.mem q)) h4⟩
  | its s xs => exact h
section
variable {α β γ δ : Type} {R : Rel α β} {R2 : Rel γ δ} {r r1 : List Addr} {H H1 : Hp} {E : XK} {Q : β → Hp → Prop} {Q2 : δ → Hp → Prop}
theorem GE.ext {x : Res α} (an : Anti R) (g : GE S R r H Q E x) (e : Ext r r1 H H1) : GE S R r1 H1 Q E x := by
  cases x with
  | ok a m => exact fun r' H' b e' h q => g r' H' b (e.trans e') h (an _ _ _ _ _ _ _ _ e e' q)
  | exc c v m => exact fun r' H' d y e' h1 h2 h3 => g r' H' d y (e.trans e') h1 h2 h3
  | stuck => exact g
theorem GE.imp {x : Res α} {Q' : β → Hp → Prop} (g : GE S R r H Q E x) (h : ∀ b H', Q b H' → Q' b H') : GE S R r H Q' E x := by
  cases x with
  | ok a m => exact fun r' H' b e' h1 q => h _ _ (g r' H' b e' h1 q)
  | exc c v m => exact g
  | stuck => exact g
/-- a step, then the rest -/
theorem GE.bind {x : Res α} {k : α → MH → Res γ} (g : GE S R2 r H Q2 E (x.bind k))
    (h : ∀ a m r' H' b, x = .ok a m → Ext r r' H H' → RH S r' m H' → R H r' H' a b → GE S R2 r' H' Q2 E (k a m) → Q b H') (an : Anti R2 := by first | exact anti_v | exact anti_x | exact anti_vs | exact anti_b | exact anti_o | assumption) : GE S R r H Q E x := by
  cases x with
  | ok a m => exact fun r' H' b e' h1 q => h a m r' H' b rfl e' h1 q (g.ext an e')
  | exc c v m => exact g
  | stuck => exact g
end
/-- a list that may be read: one that only this expression knows, or what stands -/
def Rl (S : Fx) (r : List Addr) (H : Hp) (xs : List PV) (y : V) : Prop :=
  ∃ a ys, y = .ref a ∧ RVs S.K r H xs ys ∧ (SqL S.K H a ys ∨ SqT S.K H a ys)

def tX (S : Fx) (C : Nat → List PV → MH → Res PV) (E : XK) (a : Ex) : TE := fun σ H Q => ∃ r e m, RE S r H e σ ∧ RH S r m H ∧ GE S (Rx S) r H Q E (evX S.P C a e m)
def tV (S : Fx) (C : Nat → List PV → MH → Res PV) (E : XK) (a : Ex) : TE := fun σ H Q => ∃ r e m, RE S r H e σ ∧ RH S r m H ∧ GE S (Rv S) r H Q E ((evX S.P C a e m).bind toV)
def tB2 (S : Fx) (C : Nat → List PV → MH → Res PV) (E : XK) (a : Ex) : TT := fun σ H Q => ∃ r e m, RE S r H e σ ∧ RH S r m H ∧ GE S Rb r H Q E (asB ((evX S.P C a e m).bind toV))
def tVs (S : Fx) (C : Nat → List PV → MH → Res PV) (E : XK) (es : List Ex) : TA := fun σ H Q => ∃ r e m, RE S r H e σ ∧ RH S r m H ∧ GE S (Rvs S) r H Q E (evs S.P C es e m)
theorem pe_mono {X : Cx} {e : Expr} {t t' : TE} (h : PE X e t) (i : ∀ σ H Q, t' σ H Q → t σ H Q) : PE X e t' := ⟨fun pins s σ H Q I q => h.run pins s σ H Q I (i σ H Q q)⟩
theorem pt_mono {X : Cx} {e : Expr} {t t' : TT} (h : PT X e t) (i : ∀ σ H Q, t' σ H Q → t σ H Q) : PT X e t' := ⟨fun pins s σ H Q I q => h.run pins s σ H Q I (i σ H Q q)⟩
theorem pa_mono {X : Cx} {es : List Expr} {t t' : TA} (h : PA X es t) (i : ∀ σ H Q, t' σ H Q → t σ H Q) : PA X es t' := ⟨fun pos pins s σ H Q I q => h.run pos pins s σ H Q I (i σ H Q q)⟩
/-- the object at a, known to nobody else, becomes a location -/
theorem RH.adopt {r : List Addr} {m : MH} {H : Hp} {a : Addr} {xs : List PV} {ys : List V} (R : RH S r m H) (ha : H a = some (.lst ys)) (hx : RVs S.K r H xs ys) (hr : a ∉ r) : RH S (r ++ [a]) (m ++ [.lst xs]) H := by
  have x : ∀ {v : PV} {y : V}, RV S.K r H v y → RV S.K (r ++ [a]) H v y := fun h => RV.more [a] h
  refine ⟨by rw [List.length_append, List.length_append, R.len]; rfl, ?_, fun l b o h1 h2 => ?_, R.tabs⟩
  · rw [List.nodup_append]
    refine ⟨R.nd, by simp, fun b hb c hc e => ?_⟩
    have hc' : c = a := by simpa using hc
    exact hr (by rw [← hc', ← e]; exact hb)
  · by_cases hl : l < r.length
    · rw [List.getElem?_append_left hl] at h1
      rw [List.getElem?_append_left (by rw [← R.len]; exact hl)] at h2
      exact RO.more [a] (R.obj l b o h1 h2)
    · rw [List.getElem?_append_right (by omega)] at h1
      rw [List.getElem?_append_right (by rw [← R.len]; omega)] at h2
      have e1 : l - r.length = 0 := by
        have := (List.getElem?_eq_some_iff.mp h1).1
        simp at this
        omega
      rw [e1] at h1
      have e2 : l - m.length = 0 := by rw [← R.len]; exact e1
      rw [e2] at h2
      simp at h1 h2
      subst h1 h2
      exact ⟨ys, ha, RVs.more [a] hx⟩
theorem tV_tX {C : Nat → List PV → MH → Res PV} {E : XK} {a : Ex} {σ : L2.St} {H : Hp} {Q : VK} (h : tV S C E a σ H Q) : tX S C E a σ H Q := by
  obtain ⟨r, e, m, h1, h2, g⟩ := h
  refine ⟨r, e, m, h1, h2, ?_⟩
  generalize evX S.P C a e m = x at g ⊢
  cases x with
  | ok x m1 =>
    intro r1 H1 b e1 h3 q
    cases x with
    | val v => exact g r1 H1 b e1 h3 q
    | tmp xs =>
      obtain ⟨p, ys, rfl, hp, hx, hn, h0⟩ := q
      refine g (r1 ++ [p]) H1 _ ?_ (h3.adopt hp hx hn) (.loc ?_)
      · obtain ⟨⟨t, ht, nt⟩, o, k⟩ := e1
        refine ⟨⟨t ++ [p], by rw [ht, List.append_assoc], fun b hb => ?_⟩, o, k⟩
        rcases List.mem_append.mp hb with hb | hb
        · exact nt b hb
        · have e : b = p := by simpa using hb
          subst e
          exact ⟨h0, fun q => hn (by rw [ht]; exact List.mem_append_left _ q)⟩
      · rw [← h3.len]
        simp
    | its s xs => exact False.elim q
  | exc c v m1 => exact g
  | stuck => exact g
theorem pe_val {X : Cx} {C : Nat → List PV → MH → Res PV} {E : XK} {e : Expr} {a : Ex} (h : PE X e (tX S C E a)) : PE X e (tV S C E a) := pe_mono h fun _ _ _ => tV_tX
/-- a value's reading is enough where the term gives a value -/
theorem pe_ofV {X : Cx} {C : Nat → List PV → MH → Res PV} {E : XK} {e : Expr} {a : Ex} (hv : ∀ n m x m', evX S.P C a n m = .ok x m' → ∃ v, x = .val v) (h : PE X e (tV S C E a)) : PE X e (tX S C E a) := pe_mono h fun σ H Q ⟨r, n, m, h1, h2, g⟩ => by
  refine ⟨r, n, m, h1, h2, ?_⟩
  cases q : evX S.P C a n m with
  | ok x m1 =>
    rw [q] at g
    obtain ⟨v, rfl⟩ := hv _ _ _ _ q
    exact g
  | exc c v m1 =>
    rw [q] at g
    exact g
  | stuck =>
    rw [q] at g
    exact g
/-- an operator's wish by values -/
def rOp2 (S : Fx) (E : XK) (f : PV → PV → MH → Res PV) : R2 := fun x y H Q => ∃ r m v w, RH S r m H ∧ RV S.K r H v x ∧ RV S.K r H w y ∧ GE S (Rv S) r H Q E (f v w m)
theorem t_two {C : Nat → List PV → MH → Res PV} {E : XK} {a b : Ex} {f : PV → PV → MH → Res PV} {σ : L2.St} {H : Hp} {Q : VK} {t : Ex}
    (ht : ∀ e m, evX S.P C t e m = ((evX S.P C a e m).bind toV).bind fun v m => ((evX S.P C b e m).bind toV).bind fun w m => (f v w m).bind fun u m => .ok (.val u) m)
    (h : tX S C E t σ H Q) : tOp (rOp2 S E f) (tV S C E a) (tV S C E b) σ H Q := by
  obtain ⟨r, e, m, h1, h2, g⟩ := h
  rw [ht] at g
  refine ⟨r, e, m, h1, h2, g.bind fun v m1 r1 H1 x _ e1 h3 q1 g1 => ?_⟩
  refine ⟨r1, e, m1, h1.ext e1, h3, g1.bind fun w m2 r2 H2 y _ e2 h4 q2 g2 => ?_⟩
  exact ⟨r2, m2, v, w, h4, q1.ext e2, q2, g2.bind fun u m3 r3 H3 z _ e3 h5 q3 g3 => g3 r3 H3 z (Ext.refl _ _) h5 q3⟩
theorem RV.int_inv {K : PySem.W.Frag} {r : List Addr} {H : Hp} {i : Int} {x : V} (h : RV K r H (.int i) x) : x = .int i := by cases h; rfl
theorem RV.str_inv {K : PySem.W.Frag} {r : List Addr} {H : Hp} {i : Str} {x : V} (h : RV K r H (.str i) x) : x = .str i := by cases h; rfl
theorem RV.bl_inv {K : PySem.W.Frag} {r : List Addr} {H : Hp} {i : Bool} {x : V} (h : RV K r H (.bl i) x) : x = .bl i := by cases h; rfl
theorem RV.non_inv {K : PySem.W.Frag} {r : List Addr} {H : Hp} {x : V} (h : RV K r H .non x) : x = .non := by cases h; rfl
theorem RV.tup_inv {K : PySem.W.Frag} {r : List Addr} {H : Hp} {xs : List PV} {x : V} (h : RV K r H (.tup xs) x) : ∃ a ys, x = .ref a ∧ SqT K H a ys ∧ RVs K r H xs ys := by cases h with | tup h d t => exact ⟨_, _, rfl, h, t⟩
theorem RV.noD {K : PySem.W.Frag} {r : List Addr} {H : Hp} {xs : List PV} {a : Addr} (h : RV K r H (.tup xs) (.ref a)) : NoD K H a := by cases h with | tup h d t => exact d
theorem RV.loc_inv {K : PySem.W.Frag} {r : List Addr} {H : Hp} {l : Nat} {x : V} (h : RV K r H (.loc l) x) : ∃ a, x = .ref a ∧ r[l]? = some a := by cases h with | loc h => exact ⟨_, rfl, h⟩
theorem RV.rng_inv {K : PySem.W.Frag} {r : List Addr} {H : Hp} {lo hi : Int} {x : V} (h : RV K r H (.rng lo hi) x) : ∃ a, x = .ref a ∧ H a = some (.rng lo hi) := by cases h with | rng h => exact ⟨_, rfl, h⟩
theorem RV.seq_inv {K : PySem.W.Frag} {r : List Addr} {H : Hp} {ns : List Int} {x : V} (h : RV K r H (.seq ns) x) : ∃ a, x = .ref a ∧ ScrL K H a (ns.map V.int) := by cases h with | seq h => exact ⟨_, rfl, h⟩
/-- a tuple just made -/
def tupO (us : List Value) : Obj := { cls := .type "tuple", data := .seq us.toArray }
/-- what the steps below lay for a tuple: an object without a dict, known as a tuple -/
def NewT (Q : VK) (H : Hp) (ys : List V) : Prop := ∀ (p : Addr) (o : Obj), H p = none → o.dict = none → Q (.ref p) (upd H p (.frz o (.tup ys)))
theorem Inv.ltup {X : Cx} {pins : List (Addr × Obj)} {σ : L2.St} {H : Hp} {s : Shared} {ys : List V} {us : List Value} {t' : Nat} {Q : VK} (I : Inv X pins σ H s) (rv : Vals ys us) (hz : ys.length ≤ sizeLine) (q : NewT Q H ys) :
    EP X pins σ Q (.ref s.heap.objs.size) { s with heap := s.heap.push (tupO us), toks := t' } := by
  have hp : H s.heap.objs.size = none := I.hok.fresh (Nat.le_refl _)
  refine ⟨.ref s.heap.objs.size, _, I.laid (t' := t') (o := .frz (tupO us) (.tup ys)) (fun b o e => Heap.get?_push_of_some _ e) (Nat.le_refl _) ⟨Heap.get?_push_size _ rfl, hz, us, rv, IsTup.new _ _⟩, rfl, q _ _ hp rfl⟩
/-- a new tuple of these -/
theorem ge_tup {r : List Addr} {m : MH} {H : Hp} {E : XK} {Q : VK} {xs : List PV} {ys : List V} (R : RH S r m H) (hx : RVs S.K r H xs ys) (g : GE S (Rv S) r H Q E (.ok (.tup xs) m)) : NewT Q H ys := fun p o hp hd => by
  have e : Ext r r H (upd H p (.frz o (.tup ys))) := ext_new hp
  exact g r _ _ e (R.beside hp) (.tup (.inl (.inr ⟨o, upd_same⟩)) (.inl ⟨o, _, upd_same, hd⟩) (hx.ext e))
theorem GE.here {r : List Addr} {m : MH} {H : Hp} {E : XK} {Q : VK} {v : PV} {y : V} (g : GE S (Rv S) r H Q E (.ok v m)) (R : RH S r m H) (h : RV S.K r H v y) : Q y H := g r H y (Ext.refl _ _) R h
theorem GE.guard {α β : Type} {R : Rel α β} {r : List Addr} {H : Hp} {E : XK} {Q : β → Hp → Prop} {b : Bool} {x : Res α} (g : GE S R r H Q E (guard b x)) : b = true ∧ GE S R r H Q E x := by
  unfold Mi.guard at g
  cases b with
  | true => exact ⟨rfl, g⟩
  | false => exact (show False from g).elim
theorem fits_bound {i : Int} (h : fitsI i = true) : -(2 ^ 64) < i ∧ i < 2 ^ 64 := by
  unfold fitsI at h
  have := of_decide_eq_true h
  omega
def opOf : Bop → Operator
  | .add => .Add
  | .sub => .Sub
  | .mul => .Mult
  | .fdiv => .FloorDiv
  | .mod => .Mod
  | .pow => .Pow
theorem line_eq : lineP = sizeLine := rfl
theorem rep_vals {K : PySem.W.Frag} {r : List Addr} {H : Hp} {xs : List PV} {ys : List V} (h : RVs K r H xs ys) : ∀ n : Nat, RVs K r H (List.replicate n xs).flatten (List.replicate n ys).flatten
  | 0 => .nil
  | n + 1 => by
    rw [List.replicate_succ, List.replicate_succ, List.flatten_cons, List.flatten_cons]
    exact h.append (rep_vals h n)
theorem cut_log {j : Int} (h : 0 < j) (h2 : j < 9223372036854775808) : CDivW 0 j := wide_div h (b := 64) (by omega) (by decide) (by decide)
theorem rep_arr (x : Array Nat) : ∀ (m : Nat) (acc : Array Nat), (List.foldl (fun x1 x2 => x1 ++ x2) acc (List.replicate m x)) = acc ++ (List.replicate m x.toList).flatten.toArray
  | 0, acc => by simp
  | k + 1, acc => by
    rw [List.replicate_succ, List.foldl_cons, rep_arr x k, List.replicate_succ, List.flatten_cons, Array.append_assoc]
    congr 1
    apply Array.ext'
    simp
theorem repT_run {X : Cx} {pins : List (Addr × Obj)} {s : Shared} {σ : L2.St} {H : Hp} {a : Addr} {k : Int} {ys : List V} {u1 u2 : Value} {Q : VK} (I : Inv X pins σ H s) (rx : RelV (V.ref a) u1) (ry : RelV (V.int k) u2) (hT : SqT X.K H a ys) (hne : ys ≠ [])
    (k1 : 2 ≤ k) (k2 : k ≤ 100) (hz : ys.length ≤ 100) (q : NewT Q H (List.replicate k.toNat ys).flatten) : wpAny (model X.prog X.w) X.A (binaryOp .Mult u1 u2) (EP X pins σ Q) X.xe s := by
  cases rx
  obtain ⟨tk, rfl⟩ := ry
  obtain ⟨us, rv, ht, _⟩ := I.tuple hT
  obtain ⟨⟨oc, od, oda, osl⟩, ho, hoc, n, hod⟩ := id ht
  simp only at hoc hod
  subst hoc hod
  have ln : us.length = ys.length := rv.length.symm
  have ne : us ≠ [] := fun e => by
    rw [e] at ln
    exact hne (List.eq_nil_of_length_eq_zero ln.symm)
  have emp : us.toArray.isEmpty = false := by
    cases us with
    | nil => exact absurd rfl ne
    | cons x xs => rfl
  have sz : us.toArray.size = ys.length := by rw [List.size_toArray, ln]
  have few : ((us.toArray.size : Nat) : Int) * k ≤ 10000 := by
    rw [sz]
    have := Int.mul_le_mul_of_nonneg_right (show ((ys.length : Nat) : Int) ≤ 100 by omega) (show (0 : Int) ≤ k by omega)
    omega
  have flat : (List.replicate k.toNat us).flatten.length ≤ sizeLine := by
    rw [PyProof.Rows.lm_len_rep_flat, ln, sizeLine_eq]
    have := Nat.mul_le_mul (show k.toNat ≤ 100 by omega) hz
    omega
  have c0 : (decide (k < -(2 ^ 63)) || decide (k ≥ 2 ^ 63)) = false := by
    rw [Bool.or_eq_false_iff]
    exact ⟨decide_eq_false (by omega), decide_eq_false (by omega)⟩
  have c1 : (us.toArray.isEmpty || k == 1) = false := by
    rw [Bool.or_eq_false_iff]
    exact ⟨emp, beq_eq_false_iff_ne.mpr (by omega)⟩
  have c2 : (decide (k ≤ 0) || us.toArray.isEmpty) = false := by
    rw [Bool.or_eq_false_iff]
    exact ⟨decide_eq_false (by omega), emp⟩
  have c4 : Builtin.Tuple.tupleTooMany (((us.toArray.size : Nat) : Int) * k) = false := by
    refine decide_eq_false ?_
    rw [sizeLine_eq]
    omega
  refine wpAny_binaryOp_repeat_ref (T := "tuple") (U := "int") (by decide) ⟨_, ho, rfl⟩ (fun s2 => typeIs_int s2 k tk) noFill_tuple_mul PySem.F.fills_int_mul PySem.F.slot_int_rmul repeat_tuple PySem.F.slot_int_index.lookup ?_
  refine PySem.call_meets PySem.F.slot_int_rmul (typeIs_int s k tk) PySem.F.entry_int_rmul (PySem.F.args_int_rmul_2 _ _) (int_rmul_tuple k tk a us.toArray n od osl) ⟨ho, rfl, ⟨_, ho, rfl⟩, ?_⟩
  refine PySem.call_meets PySem.F.slot_tuple_mul ⟨_, ho, rfl⟩ PySem.F.entry_tuple_mul (PySem.F.args_tuple_mul_2 _ _) (tuple_mulW a us.toArray n od osl k tk c0 c1 c2 (by omega) c4 (by rw [size_rep, List.size_toArray]; exact flat)) ⟨ho, ?_⟩
  rw [size_rep]
  exact Inv.ltup I (rv.rep k.toNat) (by rw [PyProof.Rows.lm_len_rep_flat, sizeLine_eq]; have := Nat.mul_le_mul (show k.toNat ≤ 100 by omega) hz; omega) q
theorem op_bin {X : Cx} {E : XK} (hK : X.K = S.K) (op : Bop) : OpR X (binaryOp (opOf op)) (rOp2 S E (binV op)) := by
  intro pins s σ H x y u1 u2 Q I rx ry h
  obtain ⟨r, m, v, w, R, hv, hw, g⟩ := h
  cases op with
  | add =>
    cases v with
    | int i =>
      cases w with
      | int j =>
        cases hv.int_inv; cases hw.int_inv
        exact op_add pins s σ H _ _ u1 u2 Q I rx ry ⟨i, j, rfl, rfl, g.here R (.int _)⟩
      | _ => exact (show False from g).elim
    | str i =>
      cases w with
      | str j =>
        cases hv.str_inv; cases hw.str_inv
        obtain ⟨b, g⟩ := GE.guard g
        exact op_add_str pins s σ H _ _ u1 u2 Q I rx ry ⟨i, j, rfl, rfl, of_decide_eq_true b, g.here R (.str _)⟩
      | _ => exact (show False from g).elim
    | tup xs =>
      cases w with
      | tup zs =>
        obtain ⟨a, ys, rfl, h1, h2⟩ := hv.tup_inv
        obtain ⟨b, ws, rfl, h3, h4⟩ := hw.tup_inv
        obtain ⟨bb, g⟩ := GE.guard g
        have hl : ys.length + ws.length ≤ sizeLine := by
          have := of_decide_eq_true bb
          rw [h2.length, h4.length] at this
          exact this
        have h1' := h1
        have h3' := h3
        rw [← hK] at h1 h3
        cases rx
        cases ry
        obtain ⟨is1, v1, p1, _⟩ := I.tuple h1
        obtain ⟨is2, v2, p2, _⟩ := I.tuple h3
        by_cases hx : ys = []
        · subst hx
          cases h2
          cases v1
          exact cat_tup0 p1 p2 ⟨.ref b, H, I, rfl, g.here R hw⟩
        · refine HT.cat_tup p1 p2 (fun z => hx (v1.nil_iff.mp z)) (fun z => ⟨.ref a, H, I, rfl, ?_⟩) (fun z => ?_) (by rw [← v1.length, ← v2.length]; exact hl)
          · have e2 := v2.nil_iff.mp z
            subst e2
            cases h4
            rw [List.append_nil] at g
            exact g.here R hv
          · exact Inv.ltup I (v1.append v2) (by rw [List.length_append]; exact hl) (ge_tup R (h2.append h4) g)
      | _ => exact (show False from g).elim
    | _ => cases w <;> exact (show False from g).elim
  | sub =>
    cases v with
    | int i =>
      cases w with
      | int j =>
        cases hv.int_inv; cases hw.int_inv
        exact op_sub pins s σ H _ _ u1 u2 Q I rx ry ⟨i, j, rfl, rfl, g.here R (.int _)⟩
      | _ => exact (show False from g).elim
    | _ => cases w <;> exact (show False from g).elim
  | mul =>
    cases v with
    | int i =>
      cases w with
      | int j =>
        cases hv.int_inv; cases hw.int_inv
        obtain ⟨b, g⟩ := GE.guard g
        refine op_mul pins s σ H _ _ u1 u2 Q I rx ry ⟨i, j, rfl, rfl, ?_, g.here R (.int _)⟩
        rcases Bool.or_eq_true_iff.mp b with b | b
        · exact .inl (fits_bound b)
        · exact .inr (fits_bound b)
      | _ => exact (show False from g).elim
    | tup xs =>
      cases w with
      | int k =>
        cases hw.int_inv
        obtain ⟨b, g⟩ := GE.guard g
        simp only [Bool.and_eq_true, decide_eq_true_eq] at b
        obtain ⟨⟨⟨b1, b2⟩, b3⟩, b4⟩ := b
        obtain ⟨a, ys, rfl, h1, h2⟩ := hv.tup_inv
        rw [← hK] at h1
        exact repT_run I rx ry h1 (fun e => by subst e; cases h2; exact absurd b3 (by decide)) b1 b2 (by rw [← h2.length]; omega) (ge_tup R (rep_vals h2 _) g)
      | _ => exact (show False from g).elim
    | str i =>
      cases w with
      | int k =>
        cases hv.str_inv
        cases hw.int_inv
        obtain ⟨b, g⟩ := GE.guard g
        simp only [Bool.and_eq_true, decide_eq_true_eq] at b
        obtain ⟨⟨⟨b1, b2⟩, b3⟩, b4⟩ := b
        obtain ⟨t, rfl⟩ := rx
        obtain ⟨t2, rfl⟩ := ry
        have n0 : ¬ k < 1 := by omega
        have n1 : ¬ (k == 1 || i.length == 0) = true := by
          intro q
          rcases Bool.or_eq_true_iff.mp q with q | q
          · have := eq_of_beq q
            omega
          · have := eq_of_beq q
            omega
        refine PySem.P.mul_str (by rw [decide_eq_false (by omega), decide_eq_false (by omega)] <;> rfl) (fun _ _ q => ?_) (fun _ _ => ?_) ?_
        · have h1 : (9223372036854775807 : Int) / 1000 ≤ 9223372036854775807 / k := by
            apply Int.le_ediv_of_mul_le (by omega)
            omega
          have h2 : ((2 : Int) ^ 63 - 1) = 9223372036854775807 := by decide
          rw [h2] at q
          omega
        · refine decide_eq_false ?_
          have h1 : i.length * k.toNat ≤ 100 * 1000 := Nat.mul_le_mul b4 (by omega)
          rw [sizeLine_eq]
          omega
        · rw [if_neg n0, if_neg n1, rep_arr]
          simp only [Array.empty_append]
          refine ⟨?_, .str _, H, I.tok _, ⟨_, rfl⟩, g.here R (.str _)⟩
          show (List.replicate k.toNat i.cps.toList).flatten.toArray.size ≤ sizeLine
          rw [List.size_toArray, PyProof.Rows.lm_len_rep_flat, sizeLine_eq, Array.length_toList]
          have h1 : k.toNat * i.cps.size ≤ 1000 * 100 := Nat.mul_le_mul (by omega) b4
          omega
      | _ => exact (show False from g).elim
    | _ => cases w <;> exact (show False from g).elim
  | fdiv =>
    cases v with
    | int i =>
      cases w with
      | int j =>
        cases hv.int_inv; cases hw.int_inv
        obtain ⟨b, g⟩ := GE.guard g
        simp only [Bool.and_eq_true, decide_eq_true_eq] at b
        exact op_fdivW pins s σ H _ _ u1 u2 Q I rx ry ⟨i, j, rfl, rfl, cut_log b.1 b.2, g.here R (.int _)⟩
      | _ => exact (show False from g).elim
    | _ => cases w <;> exact (show False from g).elim
  | mod =>
    cases v with
    | int i =>
      cases w with
      | int j =>
        cases hv.int_inv; cases hw.int_inv
        obtain ⟨b, g⟩ := GE.guard g
        exact op_mod pins s σ H _ _ u1 u2 Q I rx ry ⟨i, j, rfl, rfl, of_decide_eq_true b, g.here R (.int _)⟩
      | _ => exact (show False from g).elim
    | _ => cases w <;> exact (show False from g).elim
  | pow =>
    cases v with
    | int i =>
      cases w with
      | int j =>
        cases hv.int_inv; cases hw.int_inv
        obtain ⟨b, g⟩ := GE.guard g
        simp only [Bool.and_eq_true, decide_eq_true_eq] at b
        have := fits_bound b.2
        exact op_pow pins s σ H _ _ u1 u2 Q I rx ry ⟨i, j, rfl, rfl, ⟨b.1.1, by omega, by omega⟩, g.here R (.int _)⟩
      | _ => exact (show False from g).elim
    | _ => cases w <;> exact (show False from g).elim
end Mi
end

section
set_option autoImplicit false
set_option Elab.async false
set_option linter.all false
set_option maxRecDepth 100000
namespace Mi
open PySem PySem.Spec PyProof.Rows L2
variable {S : Fx}
mutual
def toD : PV → PyData
  | .bl b => .bool b
  | .int i => .int i
  | .str x => .str x
  | .tup xs => .tuple (toDs xs)
  | _ => .none
def toDs : List PV → List PyData
  | [] => []
  | x :: xs => toD x :: toDs xs
end
section
variable {K : PySem.W.Frag} {r : List Addr} {H : Hp}
mutual
theorem dp_of : ∀ {v : PV} {x : V}, RV K r H v x → pure v = true → Dp K H x (toD v)
  | _, _, .non, _ => .non
  | _, _, .bl b, _ => .bl b
  | _, _, .int i, _ => .int i
  | _, _, .str s, _ => .str s
  | _, _, .tup h d t, p => .tup h (dps_of t p)
  | _, _, .loc _, p => absurd p (by simp [pure])
  | _, _, .rng _, p => absurd p (by simp [pure])
  | _, _, .seq _, p => absurd p (by simp [pure])
theorem dps_of : ∀ {vs : List PV} {xs : List V}, RVs K r H vs xs → pures vs = true → DpAll K H xs (toDs vs)
  | _, _, .nil, _ => .nil
  | _, _, .cons h t, p => by
    rw [pures, Bool.and_eq_true] at p
    exact .cons (dp_of h p.1) (dps_of t p.2)
end
end
mutual
theorem lay_of : ∀ v : PV, pure v = true → (toD v).canLay0 = true
  | .non, _ => by simp [toD, PyData.canLay0]
  | .bl _, _ => by rw [toD, PyData.canLay0]
  | .int _, _ => by rw [toD, PyData.canLay0]
  | .str x, p => by
    rw [toD, PyData.canLay0]
    show x.cps.all (· < 0x110000) = true
    rw [← Array.all_toList]
    exact p
  | .tup xs, p => by
    rw [toD, PyData.canLay0]
    exact lays_of xs p
  | .loc _, p => absurd p (by simp [pure])
  | .rng _ _, p => absurd p (by simp [pure])
  | .seq _, p => absurd p (by simp [pure])
theorem lays_of : ∀ vs : List PV, pures vs = true → PyData.canLayAll0 (toDs vs) = true
  | [], _ => by rw [toDs, PyData.canLayAll0]
  | v :: vs, p => by
    rw [pures, Bool.and_eq_true] at p
    rw [toDs, PyData.canLayAll0, lay_of v p.1, lays_of vs p.2] <;> rfl
end
mutual
theorem deep_of : ∀ v : PV, (toD v).depth = depth v
  | .non => by simp [toD, PyData.depth, depth]
  | .bl _ => by simp [toD, PyData.depth, depth]
  | .int _ => by simp [toD, PyData.depth, depth]
  | .str x => by simp [toD, PyData.depth, depth]
  | .tup xs => by rw [toD, PyData.depth, depth, deeps_of xs]
  | .loc _ => by simp [toD, PyData.depth, depth]
  | .rng _ _ => by simp [toD, PyData.depth, depth]
  | .seq _ => by simp [toD, PyData.depth, depth]
theorem deeps_of : ∀ vs : List PV, PyData.depthAll (toDs vs) = depths vs
  | [] => by rw [toDs, PyData.depthAll, depths]
  | v :: vs => by rw [toDs, PyData.depthAll, depths, deep_of v, deeps_of vs]
end
mutual
theorem eqv_of : ∀ v w : PV, pure v = true → pure w = true → PyData.eqv (toD v) (toD w) = eqv v w
  | .tup xs, .tup ys, p, q => by
    rw [toD, toD, PyData.eqv, eqv]
    exact eqvs_of xs ys p q
  | .str x, .str y, _, _ => by
    rw [toD, toD, PyData.eqv, eqv]
    by_cases h : x = y
    · rw [h]; simp
    · rw [decide_eq_false h]; exact beq_eq_false_iff_ne.mpr h
  | .non, .non, _, _ => by simp [toD, PyData.eqv, eqv]
  | .non, .bl _, _, _ => by simp [toD, PyData.eqv, eqv]
  | .non, .int _, _, _ => by simp [toD, PyData.eqv, eqv]
  | .non, .str _, _, _ => by simp [toD, PyData.eqv, eqv]
  | .non, .tup _, _, _ => by simp [toD, PyData.eqv, eqv]
  | .bl _, .non, _, _ => by simp [toD, PyData.eqv, eqv]
  | .bl _, .bl _, _, _ => by simp [toD, PyData.eqv, eqv]
  | .bl _, .int _, _, _ => by simp [toD, PyData.eqv, eqv]
  | .bl _, .str _, _, _ => by simp [toD, PyData.eqv, eqv]
  | .bl _, .tup _, _, _ => by simp [toD, PyData.eqv, eqv]
  | .int _, .non, _, _ => by simp [toD, PyData.eqv, eqv]
  | .int _, .bl _, _, _ => by simp [toD, PyData.eqv, eqv]
  | .int _, .int _, _, _ => by simp [toD, PyData.eqv, eqv]
  | .int _, .str _, _, _ => by simp [toD, PyData.eqv, eqv]
  | .int _, .tup _, _, _ => by simp [toD, PyData.eqv, eqv]
  | .str _, .non, _, _ => by simp [toD, PyData.eqv, eqv]
  | .str _, .bl _, _, _ => by simp [toD, PyData.eqv, eqv]
  | .str _, .int _, _, _ => by simp [toD, PyData.eqv, eqv]
  | .str _, .tup _, _, _ => by simp [toD, PyData.eqv, eqv]
  | .tup _, .non, _, _ => by simp [toD, PyData.eqv, eqv]
  | .tup _, .bl _, _, _ => by simp [toD, PyData.eqv, eqv]
  | .tup _, .int _, _, _ => by simp [toD, PyData.eqv, eqv]
  | .tup _, .str _, _, _ => by simp [toD, PyData.eqv, eqv]
  | .loc _, _, p, _ => absurd p (by simp [pure])
  | .rng _ _, _, p, _ => absurd p (by simp [pure])
  | .seq _, _, p, _ => absurd p (by simp [pure])
  | _, .loc _, _, p => absurd p (by simp [pure])
  | _, .rng _ _, _, p => absurd p (by simp [pure])
  | _, .seq _, _, p => absurd p (by simp [pure])
theorem eqvs_of : ∀ vs ws : List PV, pures vs = true → pures ws = true → PyData.eqvAll (toDs vs) (toDs ws) = eqvs vs ws
  | [], [], _, _ => by simp [toDs, PyData.eqvAll, eqvs]
  | [], _ :: _, _, _ => by simp [toDs, PyData.eqvAll, eqvs]
  | _ :: _, [], _, _ => by simp [toDs, PyData.eqvAll, eqvs]
  | v :: vs, w :: ws, p, q => by
    rw [pures, Bool.and_eq_true] at p q
    rw [toDs, toDs, PyData.eqvAll, eqvs, eqv_of v w p.1 q.1, eqvs_of vs ws p.2 q.2]
end

theorem shaped_of {v : PV} (p : pure v = true) (d : depth v ≤ 61) : SeqAt.shaped (toD v) = true := by
  show ((toD v).canLay0 && decide ((toD v).depth ≤ 64)) = true
  rw [lay_of v p, deep_of, decide_eq_true (by omega)] <;> rfl
theorem shaped_ofL {vs : List PV} (p : pures vs = true) (d : depths vs ≤ 60) : SeqAt.shaped (.list (toDs vs)) = true := by
  show (PyData.canLay0 (.list (toDs vs)) && decide (PyData.depth (.list (toDs vs)) ≤ 64)) = true
  rw [PyData.canLay0, lays_of vs p, PyData.depth, deeps_of, decide_eq_true (by omega)] <;> rfl
theorem side_dp {r : List Addr} {m : MH} {H : Hp} {v : PV} {x : V} {b : Bool} {t : PV} (R : RH S r m H) (hv : RV S.K r H v x) (h : sideOf v m = some (b, t)) :
    ∃ d, Dp S.K H x d ∧ SeqAt.shaped d = true ∧ pure t = true ∧ ((b = true ∧ ∃ xs, t = .tup xs ∧ d = .list (toDs xs)) ∨ (b = false ∧ t = v ∧ d = toD t)) := by
  have tree : ∀ v2 : PV, RV S.K r H v2 x → (if pure v2 && decide (depth v2 ≤ 60) then some (false, v2) else none) = some (b, t) →
      ∃ d, Dp S.K H x d ∧ SeqAt.shaped d = true ∧ pure t = true ∧ ((b = true ∧ ∃ xs, t = .tup xs ∧ d = .list (toDs xs)) ∨ (b = false ∧ t = v2 ∧ d = toD t)) := by
    intro v2 hv2 h2
    split at h2
    · rename_i c
      rw [Bool.and_eq_true, decide_eq_true_eq] at c
      injection h2 with h2
      injection h2 with e1 e2
      subst e1 e2
      exact ⟨toD v2, dp_of hv2 c.1, shaped_of c.1 (by omega), c.1, .inr ⟨rfl, rfl, rfl⟩⟩
    · cases h2
  cases v with
  | loc l =>
    obtain ⟨a, rfl, ha⟩ := hv.loc_inv
    cases e : listAt m l with
    | none => simp [sideOf, e] at h
    | some xs =>
      simp only [sideOf, e] at h
      split at h
      · rename_i c
        rw [Bool.and_eq_true, decide_eq_true_eq] at c
        cases h
        obtain ⟨ys, h1, h2⟩ := R.list ha e
        exact ⟨.list (toDs xs), .lst h1 (dps_of h2 c.1), shaped_ofL c.1 c.2, c.1, .inl ⟨rfl, xs, rfl, rfl⟩⟩
      · cases h
  | _ => exact tree _ hv h
theorem eqH_data {r : List Addr} {m : MH} {H : Hp} {v w : PV} {x y : V} {c : Bool} (R : RH S r m H) (hv : RV S.K r H v x) (hw : RV S.K r H w y) (h : eqH m v w = some c) :
    ∃ d e, Dp S.K H x d ∧ Dp S.K H y e ∧ SeqAt.shaped d = true ∧ SeqAt.shaped e = true ∧ PyData.eqv d e = c := by
  unfold eqH at h
  split at h
  · rename_i b t b' t' h1 h2
    obtain ⟨d, k1, k2, p, k⟩ := side_dp R hv h1
    obtain ⟨e, j1, j2, q, j⟩ := side_dp R hw h2
    refine ⟨d, e, k1, j1, k2, j2, ?_⟩
    cases h
    rcases k with ⟨rfl, xs, rfl, rfl⟩ | ⟨rfl, rfl, rfl⟩ <;> rcases j with ⟨rfl, ys, rfl, rfl⟩ | ⟨rfl, rfl, rfl⟩
    · have := eqvs_of xs ys p q
      simp [PyData.eqv, eqv, this]
    · cases t' <;> simp [toD, PyData.eqv] <;> simp [pure] at q
    · cases t <;> simp [toD, PyData.eqv] <;> simp [pure] at p
    · simp [eqv_of t t' p q]
  · cases h
theorem GE.ofB {r : List Addr} {m : MH} {H : Hp} {E : XK} {Q : VK} {o : Option Bool} (g : GE S (Rv S) r H Q E (ofB o m)) (R : RH S r m H) : ∃ c, o = some c ∧ Q (.bl c) H := by
  cases o with
  | none => exact (show False from g).elim
  | some c => exact ⟨c, rfl, GE.here (v := .bl c) g R (.bl c)⟩
def copOf : Cop → CmpOp
  | .eq => .Eq
  | .ne => .NotEq
  | .lt => .Lt
  | .le => .LtE
  | .gt => .Gt
  | .ge => .GtE
  | .isn => .Is
  | .ison => .IsNot
  | .inn => .In
  | .nin => .NotIn
theorem opC_eq {X : Cx} {E : XK} (hK : X.K = S.K) (hu : X.A.units + 65 < cLine) : OpR X (compareOp .Eq) (rOp2 S E fun v w m => ofB (cmpV .eq v w m) m) := by
  intro pins s σ H x y u1 u2 Q I rx ry h
  obtain ⟨r, m, v, w, R, hv, hw, g⟩ := h
  obtain ⟨c, hc, q⟩ := g.ofB R
  obtain ⟨d, e, k1, k2, k3, k4, k5⟩ := eqH_data R hv hw hc
  rw [← hK] at k1 k2
  exact op_eqD (by omega) pins s σ H x y u1 u2 Q I rx ry ⟨d, e, k1, k2, k3, k4, by rw [k5]; exact q⟩
theorem opC_ne {X : Cx} {E : XK} (hK : X.K = S.K) (hu : X.A.units + 65 < cLine) : OpR X (compareOp .NotEq) (rOp2 S E fun v w m => ofB (cmpV .ne v w m) m) := by
  intro pins s σ H x y u1 u2 Q I rx ry h
  obtain ⟨r, m, v, w, R, hv, hw, g⟩ := h
  obtain ⟨c, hc, q⟩ := g.ofB R
  cases e : eqH m v w with
  | none => simp [cmpV, e] at hc
  | some c' =>
    simp [cmpV, e] at hc
    subst hc
    obtain ⟨d, e, k1, k2, k3, k4, k5⟩ := eqH_data R hv hw e
    rw [← hK] at k1 k2
    exact op_neD (by omega) pins s σ H x y u1 u2 Q I rx ry ⟨d, e, k1, k2, k3, k4, by rw [k5]; simpa using q⟩
theorem opC_ord {X : Cx} {E : XK} {op : CmpOp} {f : PV → PV → MH → Option Bool} {p : Int → Int → Bool} (ho : OpR X (compareOp op) (rI0 fun i j => .bl (p i j)))
    (hf : ∀ v w m c, f v w m = some c → ∃ i j, v = .int i ∧ w = .int j ∧ c = p i j) : OpR X (compareOp op) (rOp2 S E fun v w m => ofB (f v w m) m) := by
  intro pins s σ H x y u1 u2 Q I rx ry h
  obtain ⟨r, m, v, w, R, hv, hw, g⟩ := h
  obtain ⟨c, hc, q⟩ := g.ofB R
  obtain ⟨i, j, rfl, rfl, rfl⟩ := hf _ _ _ _ hc
  cases hv.int_inv; cases hw.int_inv
  exact ho pins s σ H _ _ u1 u2 Q I rx ry ⟨i, j, rfl, rfl, q⟩
theorem ord_inv {p : Int → Int → Bool} {v w : PV} {c : Bool} (h : (match v, w with | .int i, .int j => some (p i j) | _, _ => none) = some c) : ∃ i j, v = .int i ∧ w = .int j ∧ c = p i j := by
  split at h
  · cases h; exact ⟨_, _, rfl, rfl, rfl⟩
  · cases h
theorem opC_is {X : Cx} {E : XK} : OpR X (compareOp .Is) (rOp2 S E fun v w m => ofB (cmpV .isn v w m) m) := by
  intro pins s σ H x y u1 u2 Q I rx ry h
  obtain ⟨r, m, v, w, R, hv, hw, g⟩ := h
  obtain ⟨c, hc, q⟩ := g.ofB R
  cases w with
  | non =>
    cases hw.non_inv
    refine op_isN pins s σ H _ _ u1 u2 Q I rx ry ⟨rfl, ?_⟩
    have e : decide (x = V.non) = c := by
      simp only [cmpV] at hc
      cases hc
      cases hv <;> simp
    rw [e]
    exact q
  | bl b =>
    cases v with
    | bl a =>
      cases hv.bl_inv; cases hw.bl_inv
      refine op_isBl pins s σ H _ _ u1 u2 Q I rx ry ⟨a, b, rfl, rfl, ?_⟩
      simp only [cmpV] at hc
      cases hc
      have e : decide (a = b) = (a == b) := by cases a <;> cases b <;> rfl
      rw [e]
      exact q
    | _ => simp [cmpV] at hc
  | _ => simp [cmpV] at hc
theorem opC_isnot {X : Cx} {E : XK} : OpR X (compareOp .IsNot) (rOp2 S E fun v w m => ofB (cmpV .ison v w m) m) := by
  intro pins s σ H x y u1 u2 Q I rx ry h
  obtain ⟨r, m, v, w, R, hv, hw, g⟩ := h
  obtain ⟨c, hc, q⟩ := g.ofB R
  cases w with
  | non =>
    cases hw.non_inv
    refine op_notN pins s σ H _ _ u1 u2 Q I rx ry ⟨rfl, ?_⟩
    have e : (!decide (x = V.non)) = c := by
      simp only [cmpV] at hc
      cases hc
      cases hv <;> simp
    rw [e]
    exact q
  | _ => simp [cmpV] at hc

theorem any_toDs {v : PV} (p : pure v = true) : ∀ {xs : List PV}, pures xs = true → ((toDs xs).any fun z => PyData.eqv z (toD v)) = xs.any fun z => eqv z v
  | [], _ => rfl
  | x :: xs, h => by
    rw [pures, Bool.and_eq_true] at h
    rw [toDs, List.any_cons, List.any_cons, eqv_of x v h.1 p, any_toDs p h.2]
theorem in_guard {v : PV} {xs : List PV} {c : Bool} (h : (if pure v && pures xs && decide (depths (v :: xs) ≤ 60) then some (xs.any fun z => eqv z v) else none) = some c) :
    pure v = true ∧ pures xs = true ∧ depth v ≤ 60 ∧ depths xs ≤ 60 ∧ c = xs.any fun z => eqv z v := by
  split at h
  · rename_i g
    rw [Bool.and_eq_true, Bool.and_eq_true, decide_eq_true_eq] at g
    have := g.2
    rw [depths] at this
    cases h
    exact ⟨g.1.1, g.1.2, by omega, by omega, rfl⟩
  · cases h
theorem isIn_run {X : Cx} (hK : X.K = S.K) (hw0 : X.w = S.w) (hu : X.A.units + 65 < cLine) (neg : Bool) {pins : List (Addr × Obj)} {s : Shared} {σ : L2.St} {H : Hp} {x y : V} {u1 u2 : Value} {Q : VK} {r : List Addr} {m : MH} {v w : PV} {c : Bool}
    (I : Inv X pins σ H s) (rx : RelV x u1) (ry : RelV y u2) (R : RH S r m H) (hv : RV S.K r H v x) (hw : RV S.K r H w y) (hc : isIn m v w = some c) (q : Q (.bl (if neg then !c else c)) H) :
    wpAny (model X.prog X.w) X.A (compareOp (if neg then .NotIn else .In) u1 u2) (EP X pins σ Q) X.xe s := by
  cases w with
  | str z =>
    cases v with
    | str t =>
      cases hv.str_inv; cases hw.str_inv
      simp only [isIn] at hc
      split at hc
      · rename_i hl
        have hl := of_decide_eq_true hl
        obtain ⟨⟨ts⟩⟩ := t
        cases ts with
        | nil => exact absurd hl (by decide)
        | cons d ts =>
          cases ts with
          | cons e es => exact absurd hl (by show ¬ (es.length + 1 + 1 = 1); omega)
          | nil =>
            have e1 : (z.cps.toList.any fun c => decide ((⟨#[d]⟩ : Str) = ⟨#[c]⟩)) = decide (d ∈ z.cps.toList) := by
              rw [Bool.eq_iff_iff, List.any_eq_true, decide_eq_true_eq]
              constructor
              · rintro ⟨e, he, h⟩
                have h := of_decide_eq_true h
                cases h
                exact he
              · exact fun h => ⟨d, h, decide_eq_true rfl⟩
            injection hc with hc
            have e2 : c = decide (d ∈ z.cps.toList) := hc.symm.trans e1
            subst e2
            cases neg with
            | false => exact op_in_sign pins s σ H _ _ u1 u2 Q I rx ry ⟨d, z, rfl, rfl, q⟩
            | true => exact op_notIn_sign pins s σ H _ _ u1 u2 Q I rx ry ⟨d, z, rfl, rfl, q⟩
      · cases hc
    | _ => simp [isIn] at hc
  | loc l =>
    obtain ⟨a, rfl, ha⟩ := hw.loc_inv
    simp only [isIn] at hc
    split at hc
    · rename_i kvs e
      split at hc
      · rename_i hk
        cases hc
        have d : DctR S r H a kvs := R.obj l a _ ha e
        cases (show u2 = Value.ref a from ry)
        cases neg with
        | false => exact dct_in hK hw0 hu false I d hv rx hk q
        | true => exact dct_in hK hw0 hu true I d hv rx hk q
      · cases hc
    · rename_i xs e
      obtain ⟨p1, p2, p3, p4, rfl⟩ := in_guard hc
      obtain ⟨ys, h1, h2⟩ := R.list (xs := xs) ha (by unfold listAt; rw [e])
      have d1 : Dp X.K H x (toD v) := by rw [hK]; exact dp_of hv p1
      have d2 : Dp X.K H (.ref a) (.list (toDs xs)) := by rw [hK]; exact .lst h1 (dps_of h2 p2)
      cases neg with
      | false => exact op_inD (by omega) pins s σ H _ _ u1 u2 Q I rx ry ⟨toD v, toDs xs, d1, d2, shaped_of p1 (by omega), shaped_ofL p2 p4, by rw [any_toDs p1 p2]; exact q⟩
      | true => exact op_notInD (by omega) pins s σ H _ _ u1 u2 Q I rx ry ⟨toD v, toDs xs, d1, d2, shaped_of p1 (by omega), shaped_ofL p2 p4, by rw [any_toDs p1 p2]; exact q⟩
    · cases hc
  | tup xs =>
    obtain ⟨p1, p2, p3, p4, rfl⟩ := in_guard hc
    obtain ⟨a, ys, rfl, h1, h2⟩ := hw.tup_inv
    have d1 : Dp X.K H x (toD v) := by rw [hK]; exact dp_of hv p1
    have d2 : Dp X.K H (.ref a) (.tuple (toDs xs)) := by rw [hK]; exact .tup h1 (dps_of h2 p2)
    obtain ⟨as, r1⟩ := Dp.reads I _ x u1 d1 rx
    obtain ⟨bs, r2⟩ := Dp.reads I _ _ u2 d2 ry
    have room := room_in_shaped (A := X.A) (xs := toDs xs) (shaped_of p1 (by omega)) (by omega)
    cases neg with
    | false => exact SeqAt.in_tuple_reads r2 r1 (lays_of xs p2) (lay_of v p1) room (by rw [any_toDs p1 p2]; exact ⟨.bl _, H, I, rfl, q⟩)
    | true => exact SeqAt.notIn_tuple_reads r2 r1 (lays_of xs p2) (lay_of v p1) room (by rw [any_toDs p1 p2]; exact ⟨.bl _, H, I, rfl, q⟩)
  | _ => simp [isIn] at hc
theorem opC_in {X : Cx} {E : XK} (hK : X.K = S.K) (hw0 : X.w = S.w) (hu : X.A.units + 65 < cLine) : OpR X (compareOp .In) (rOp2 S E fun v w m => ofB (cmpV .inn v w m) m) := by
  intro pins s σ H x y u1 u2 Q I rx ry h
  obtain ⟨r, m, v, w, R, hv, hw, g⟩ := h
  obtain ⟨c, hc, q⟩ := g.ofB R
  exact isIn_run hK hw0 hu false I rx ry R hv hw hc q
theorem opC_nin {X : Cx} {E : XK} (hK : X.K = S.K) (hw0 : X.w = S.w) (hu : X.A.units + 65 < cLine) : OpR X (compareOp .NotIn) (rOp2 S E fun v w m => ofB (cmpV .nin v w m) m) := by
  intro pins s σ H x y u1 u2 Q I rx ry h
  obtain ⟨r, m, v, w, R, hv, hw, g⟩ := h
  obtain ⟨c, hc, q⟩ := g.ofB R
  cases e : isIn m v w with
  | none => simp [cmpV, e] at hc
  | some c' =>
    simp [cmpV, e] at hc
    subst hc
    exact isIn_run hK hw0 hu true I rx ry R hv hw e (by simpa using q)
/-- any comparison -/
theorem op_cmp {X : Cx} {E : XK} (hK : X.K = S.K) (hw0 : X.w = S.w) (hu : X.A.units + 65 < cLine) : ∀ op : Cop, OpR X (compareOp (copOf op)) (rOp2 S E fun v w m => ofB (cmpV op v w m) m)
  | .eq => opC_eq hK hu
  | .ne => opC_ne hK hu
  | .lt => opC_ord op_lt fun _ _ _ _ h => ord_inv h
  | .le => opC_ord op_le fun _ _ _ _ h => ord_inv h
  | .gt => opC_ord op_gt fun _ _ _ _ h => ord_inv (p := fun i j => decide (j < i)) h
  | .ge => opC_ord op_ge fun _ _ _ _ h => ord_inv (p := fun i j => decide (j ≤ i)) h
  | .isn => opC_is
  | .ison => opC_isnot
  | .inn => opC_in hK hw0 hu
  | .nin => opC_nin hK hw0 hu
end Mi
end

section
set_option autoImplicit false
set_option Elab.async false
set_option linter.all false
set_option maxRecDepth 100000
namespace Mi
open PySem PySem.Spec PyProof.Rows L2
variable {S : Fx}
theorem GE.ofV {r : List Addr} {m : MH} {H : Hp} {E : XK} {Q : VK} {o : Option PV} (g : GE S (Rv S) r H Q E (ofO o m)) (R : RH S r m H) : ∃ v, o = some v ∧ ∀ y, RV S.K r H v y → Q y H := by
  cases o with
  | none => exact (show False from g).elim
  | some v => exact ⟨v, rfl, fun y h => GE.here g R h⟩
def bfn : Bi → Value
  | .len => .builtin "len"
  | .abs => .builtin "abs"
  | .int => .type "int"
  | .str => .type "str"
  | .min2 => .builtin "min"
  | .max2 => .builtin "max"
def rBi (S : Fx) (E : XK) (b : Bi) : List V → Hp → VK → Prop := fun xs H Q => ∃ r m vs, RH S r m H ∧ RVs S.K r H vs xs ∧ GE S (Rv S) r H Q E (ofO (biV b vs m) m)
theorem RVs.one_inv {K : PySem.W.Frag} {r : List Addr} {H : Hp} {v : PV} {ys : List V} (h : RVs K r H [v] ys) : ∃ y, ys = [y] ∧ RV K r H v y := by
  cases h with
  | cons h t => cases t; exact ⟨_, rfl, h⟩
theorem RVs.two_inv {K : PySem.W.Frag} {r : List Addr} {H : Hp} {v w : PV} {ys : List V} (h : RVs K r H [v, w] ys) : ∃ y z, ys = [y, z] ∧ RV K r H v y ∧ RV K r H w z := by
  cases h with
  | cons h t =>
    obtain ⟨z, rfl, hz⟩ := t.one_inv
    exact ⟨_, _, rfl, h, hz⟩
theorem len_v {r : List Addr} {m : MH} {H : Hp} {v : PV} {x : V} {n : Nat} (R : RH S r m H) (hv : RV S.K r H v x) (h : lenV v m = some n) : LenV S.K x H n := by
  cases v with
  | tup xs =>
    obtain ⟨a, ys, rfl, h1, h2⟩ := hv.tup_inv
    cases h
    exact .inr ⟨ys, h1, h2.length⟩
  | str z =>
    cases hv.str_inv
    simp only [lenV] at h
    split at h
    · rename_i c
      cases h
      exact ⟨c, rfl⟩
    · cases h
  | loc l =>
    obtain ⟨a, rfl, ha⟩ := hv.loc_inv
    simp only [lenV] at h
    split at h
    · rename_i xs e
      cases h
      obtain ⟨ys, h1, h2⟩ := R.list (xs := xs) ha (by unfold listAt; rw [e])
      exact .inl ⟨ys, h1, h2.length⟩
    · cases h
  | seq ns =>
    obtain ⟨a, rfl, h1⟩ := hv.seq_inv
    cases h
    exact .inl ⟨_, h1.sql, by rw [List.length_map]⟩
  | _ => simp [lenV] at h
theorem bi_min2 {vs : List PV} {m : MH} {v : PV} (h : biV .min2 vs m = some v) : ∃ i j, vs = [.int i, .int j] ∧ v = .int (if j < i then j else i) := by
  unfold biV at h
  split at h <;> first | contradiction | (injection h with h; exact ⟨_, _, rfl, h.symm⟩)
theorem bi_max2 {vs : List PV} {m : MH} {v : PV} (h : biV .max2 vs m = some v) : ∃ i j, vs = [.int i, .int j] ∧ v = .int (if j > i then j else i) := by
  unfold biV at h
  split at h <;> first | contradiction | (injection h with h; exact ⟨_, _, rfl, h.symm⟩)
theorem bi_abs {vs : List PV} {m : MH} {v : PV} (h : biV .abs vs m = some v) : ∃ i, vs = [.int i] ∧ v = .int (if i < 0 then -i else i) := by
  unfold biV at h
  split at h <;> first | contradiction | (injection h with h; exact ⟨_, rfl, h.symm⟩)
theorem bi_int {vs : List PV} {m : MH} {v : PV} (h : biV .int vs m = some v) : ∃ i, vs = [.int i] ∧ v = .int i := by
  unfold biV at h
  split at h <;> first | contradiction | (injection h with h; exact ⟨_, rfl, h.symm⟩) | (simp at h)
theorem bi_str {vs : List PV} {m : MH} {v : PV} (h : biV .str vs m = some v) : ∃ i, vs = [.int i] ∧ fitsI i = true ∧ v = .str (toString i : String) := by
  unfold biV at h
  split at h <;> first | contradiction | (split at h <;> first | contradiction | (rename_i f; injection h with h; exact ⟨_, rfl, f, h.symm⟩))
theorem bi_len {vs : List PV} {m : MH} {v : PV} (h : biV .len vs m = some v) : ∃ u n, vs = [u] ∧ lenV u m = some n ∧ v = .int (n : Nat) := by
  unfold biV at h
  split at h <;> first | contradiction | (rename_i u _; cases e : lenV u m with | none => simp [e] at h | some n => simp [e] at h; exact ⟨_, _, rfl, e, h.symm⟩)
theorem call_bi {X : Cx} {E : XK} (hK : X.K = S.K) (hc : X.calm = true) : ∀ b : Bi, CallR X (bfn b) (rBi S E b) := by
  intro b pins s σ H xs us Q I rv h
  obtain ⟨r, m, vs, R, hv, g⟩ := h
  obtain ⟨v, hb, q⟩ := g.ofV R
  cases b with
  | len =>
    obtain ⟨u, n, rfl, e, rfl⟩ := bi_len hb
    obtain ⟨x, rfl, hx⟩ := hv.one_inv
    have := len_v R hx e
    rw [← hK] at this
    exact call_len pins s σ H _ us Q I rv ⟨x, n, rfl, this, q _ (.int _)⟩
  | abs =>
    obtain ⟨i, rfl, rfl⟩ := bi_abs hb
    obtain ⟨x, rfl, hx⟩ := hv.one_inv
    cases hx.int_inv
    exact call_abs pins s σ H _ us Q I rv ⟨i, rfl, q _ (.int _)⟩
  | int =>
    obtain ⟨i, rfl, rfl⟩ := bi_int hb
    obtain ⟨x, rfl, hx⟩ := hv.one_inv
    cases hx.int_inv
    exact call_int1 pins s σ H _ us Q I rv (.inl ⟨i, rfl, q _ (.int _)⟩)
  | str =>
    obtain ⟨i, rfl, f, rfl⟩ := bi_str hb
    obtain ⟨x, rfl, hx⟩ := hv.one_inv
    cases hx.int_inv
    refine call_str_int pins s σ H _ us Q I rv ⟨i, rfl, ?_, q _ (.str _)⟩
    have f := of_decide_eq_true f
    by_cases z : i.natAbs = 0
    · rw [z]; decide
    · have : i.natAbs.log2 < 64 := (Nat.log2_lt z).mpr (by omega)
      omega
  | min2 =>
    obtain ⟨i, j, rfl, rfl⟩ := bi_min2 hb
    obtain ⟨x, y, rfl, hx, hy⟩ := hv.two_inv
    cases hx.int_inv; cases hy.int_inv
    exact call_min2 hc pins s σ H _ us Q I rv ⟨_, _, rfl, q _ (.int _)⟩
  | max2 =>
    obtain ⟨i, j, rfl, rfl⟩ := bi_max2 hb
    obtain ⟨x, y, rfl, hx, hy⟩ := hv.two_inv
    cases hx.int_inv; cases hy.int_inv
    exact call_max2 hc pins s σ H _ us Q I rv ⟨_, _, rfl, q _ (.int _)⟩
theorem ix_same {α : Type} (xs : List α) (i : Int) : (ixOf xs.length i).bind (fun k => xs[k]?) = atI xs i := by
  unfold atI ixOf ixN
  by_cases h0 : 0 ≤ i
  · rw [if_pos h0, if_pos h0]
    by_cases h1 : i < xs.length
    · rw [if_pos h1, if_pos (by omega)]
    · rw [if_neg h1, if_neg (by omega)]
  · rw [if_neg h0, if_neg h0]
    by_cases h1 : 0 ≤ i + xs.length
    · rw [if_pos h1, if_pos (by omega)]
    · rw [if_neg h1, if_neg (by omega)]
theorem RVs.at_ {K : PySem.W.Frag} {r : List Addr} {H : Hp} {vs : List PV} {ys : List V} {i : Int} {v : PV} (h : RVs K r H vs ys) (e : atI vs i = some v) : ∃ y, atI ys i = some y ∧ RV K r H v y := by
  unfold atI at e ⊢
  rw [← h.length]
  cases q : ixN vs.length i with
  | none => rw [q] at e; cases e
  | some k =>
    rw [q] at e
    exact h.get e
def rIdx (S : Fx) (E : XK) : R2 := rOp2 S E fun v w m => ofO (idxV v w m) m
theorem ix_any {X : Cx} {E : XK} (hK : X.K = S.K) (hw0 : X.w = S.w) (hu : X.A.units + 65 < cLine) : IxR X (rIdx S E) := by
  intro va sl pins s σ H x y u1 u2 Q I rx ry h hp
  obtain ⟨r, m, v, w, R, hv, hw, g⟩ := h
  obtain ⟨u, e, q⟩ := g.ofV R
  cases v with
  | tup xs =>
    cases w with
    | int i =>
      obtain ⟨a, ys, rfl, h1, h2⟩ := hv.tup_inv
      cases hw.int_inv
      simp only [idxV] at e
      rw [ix_same] at e
      obtain ⟨z, hz, hu⟩ := h2.at_ e
      rw [← hK] at h1
      exact ix_tup va sl pins s σ H _ _ u1 u2 Q I rx ry ⟨a, ys, i, z, rfl, rfl, h1, hz, q _ hu⟩ hp
    | _ => simp [idxV] at e
  | str t =>
    cases w with
    | int i =>
      cases hv.str_inv
      cases hw.int_inv
      simp only [idxV] at e
      split at e
      · rename_i c
        have e2 : ((ixOf t.cps.toList.length i).bind fun k => t.cps.toList[k]?).map (fun c => PV.str ⟨#[c]⟩) = some u := by
          rw [← e]
          cases ixOf t.cps.toList.length i <;> rfl
        rw [ix_same] at e2
        cases f : atI t.cps.toList i with
        | none => rw [f] at e2; cases e2
        | some d =>
          rw [f] at e2
          cases e2
          exact ix_str va sl pins s σ H _ _ u1 u2 Q I rx ry ⟨t, i, d, rfl, rfl, c, f, q _ (.str _)⟩ hp
      · cases e
    | _ => simp [idxV] at e
  | loc l =>
    obtain ⟨a, rfl, ha⟩ := hv.loc_inv
    simp only [idxV] at e
    split at e
    · rename_i kvs f
      split at e
      · rename_i hk
        have d : DctR S r H a kvs := R.obj l a _ ha f
        cases (show u1 = Value.ref a from rx)
        exact tail_any (dct_type I d) PySem.F.slot_dict_getitem.lookup (dct_item hK hw0 hu I d hw ry hk e q) hp
      · cases e
    · rename_i xs f
      cases w with
      | int i =>
        cases hw.int_inv
        obtain ⟨ys, h1, h2⟩ := R.list (xs := xs) ha (by unfold listAt; rw [f])
        simp only at e
        rw [ix_same] at e
        obtain ⟨z, hz, hu⟩ := h2.at_ e
        rw [← hK] at h1
        exact ix_list va sl pins s σ H _ _ u1 u2 Q I rx ry ⟨a, ys, i, z, rfl, rfl, h1, hz, q _ hu⟩ hp
      | _ => simp at e
    · cases e
  | seq ns =>
    cases w with
    | int i =>
      obtain ⟨a, rfl, h1⟩ := hv.seq_inv
      cases hw.int_inv
      simp only [idxV] at e
      rw [ix_same] at e
      have h1 := h1.sql
      rw [← hK] at h1
      cases f : atI ns i with
      | none => rw [f] at e; cases e
      | some k =>
        rw [f] at e
        cases e
        have f2 : atI (ns.map V.int) i = some (.int k) := by
          unfold atI at f ⊢
          rw [List.length_map]
          cases z : ixN ns.length i with
          | none => rw [z] at f; cases f
          | some j =>
            rw [z] at f
            have f : ns[j]? = some k := f
            show (ns.map V.int)[j]? = some (.int k)
            rw [List.getElem?_map, f] <;> rfl
        exact ix_list va sl pins s σ H _ _ u1 u2 Q I rx ry ⟨a, _, i, _, rfl, rfl, h1, f2, q _ (.int _)⟩ hp
    | _ => simp [idxV] at e
  | _ => cases w <;> simp [idxV] at e

theorem cut_same {α : Type} (xs : List α) (lo hi : Option Int) : cut xs lo hi = (xs.drop (HT.sIx xs.length 0 lo)).take (HT.sIx xs.length xs.length hi - HT.sIx xs.length 0 lo) := by
  have e : ∀ n d o, bnd n d o = HT.sIx n d o := fun n d o => by cases o <;> rfl
  unfold cut
  rw [e, e]
theorem RVs.cut {K : PySem.W.Frag} {r : List Addr} {H : Hp} {xs : List PV} {ys : List V} (h : RVs K r H xs ys) (lo hi : Option Int) : RVs K r H (Mi.cut xs lo hi) (cutV ys lo hi) := by
  rw [cut_same]
  unfold cutV
  rw [h.length]
  exact (h.drop _).take _
def rSlc (S : Fx) (E : XK) : V → Option Int → Option Int → Hp → VK → Prop := fun x lo hi H Q => ∃ r m v, RH S r m H ∧ RV S.K r H v x ∧ GE S (Rv S) r H Q E (ofO (slcV v lo hi m) m)
theorem sl_any {X : Cx} {E : XK} (hK : X.K = S.K) : SlR X (rSlc S E) := by
  intro pins s σ H x v vl vu lo hi sl Q I rx hs pl pu h
  obtain ⟨r, m, pv, R, hv, g⟩ := h
  obtain ⟨u, e, q⟩ := g.ofV R
  cases pv with
  | tup xs =>
    obtain ⟨a, ys, rfl, h1, h2⟩ := hv.tup_inv
    cases e
    rw [← hK] at h1
    have ru := rx
    cases rx
    obtain ⟨us, rv, ht, hz⟩ := I.tuple h1
    have ln : us.toArray.size = ys.length := by rw [List.size_toArray]; exact rv.length.symm
    refine ⟨"tuple", _, PyProof.Rows.slot_tuple_getitem.lookup, ht.typeIs, ?_⟩
    by_cases hw : HT.sIx ys.length 0 lo = 0 ∧ HT.sIx ys.length ys.length hi = ys.length
    · refine getItem_tuple_whole ht hs pl pu (by rw [ln]; exact hw) ⟨.ref a, H, I, rfl, ?_⟩
      have e : cut xs lo hi = xs := by
        rw [cut_same, h2.length, hw.1, hw.2]
        simp only [Nat.sub_zero, List.drop_zero]
        exact List.take_of_length_le (Nat.le_of_eq h2.length)
      rw [e] at q
      exact q _ hv
    · refine HT.getItem_tuple_cut ht hs pl pu (by rw [ln]; exact hw) ?_ (by rw [ln]; exact hz)
      rw [ln]
      exact Inv.ltup I ((rv.drop _).take _) (by rw [List.length_take, List.length_drop]; omega) (ge_tup R (h2.cut lo hi) g)
  | str z =>
    cases hv.str_inv
    simp only [slcV] at e
    split at e
    · rename_i c
      cases e
      refine sl_str pins s σ H _ v vl vu lo hi sl Q I rx hs pl pu ⟨z, rfl, c, ?_⟩
      have e : (⟨(cut z.cps.toList lo hi).toArray⟩ : Str) = cutS z lo hi := by
        unfold cutS
        rw [cut_same]
        rfl
      rw [← e]
      exact q _ (.str _)
    · cases e
  | _ => simp [slcV] at e
def tO (S : Fx) (C : Nat → List PV → MH → Res PV) (E : XK) (a : Option Ex) : TO := fun σ H Q => ∃ r e m, RE S r H e σ ∧ RH S r m H ∧ GE S Ro r H Q E (evo S.P C a e m)
def tyS : Ty → String
  | .int => "int"
  | .bool => "bool"
  | .str => "str"
  | .tuple => "tuple"
  | .list => "list"
def tyOfV : PV → String
  | .non => "NoneType"
  | .bl _ => "bool"
  | .int _ => "int"
  | .str _ => "str"
  | .tup _ => "tuple"
  | _ => "list"
theorem kit_non : ∀ t, kitB "NoneType" (tyS t) = some false := fun t => by cases t <;> decide +kernel
theorem kit_bl : ∀ t, kitB "bool" (tyS t) = some (t == .int || t == .bool) := fun t => by cases t <;> decide +kernel
theorem kit_int : ∀ t, kitB "int" (tyS t) = some (t == .int) := fun t => by cases t <;> decide +kernel
theorem kit_str : ∀ t, kitB "str" (tyS t) = some (t == .str) := fun t => by cases t <;> decide +kernel
theorem kit_tup : ∀ t, kitB "tuple" (tyS t) = some (t == .tuple) := fun t => by cases t <;> decide +kernel
theorem kit_list : ∀ t, kitB "list" (tyS t) = some (t == .list) := fun t => by cases t <;> decide +kernel
theorem sqT_ty {K : PySem.W.Frag} {H : Hp} {a : Addr} {ys : List V} (h : SqT K H a ys) : TyX K H (.ref a) (.type "tuple") := by
  rcases h with (h | ⟨o, h⟩) | ⟨o, its, n, hk, hc, _⟩
  · exact .base (.tup h)
  · exact .fTuple h
  · exact .kTuple hk hc
theorem ty_v {r : List Addr} {m : MH} {H : Hp} {v : PV} {x : V} {t : Ty} {b : Bool} (R : RH S r m H) (hv : RV S.K r H v x) (h : isiV t v m = some b) : TyX S.K H x (.type (tyOfV v)) ∧ kitB (tyOfV v) (tyS t) = some b := by
  cases v with
  | non => cases hv.non_inv; exact ⟨.base .non, (kit_non t).trans h⟩
  | bl c => cases hv.bl_inv; exact ⟨.base (.bl _), (kit_bl t).trans h⟩
  | int c => cases hv.int_inv; exact ⟨.base (.int _), (kit_int t).trans h⟩
  | str c => cases hv.str_inv; exact ⟨.base (.str _), (kit_str t).trans h⟩
  | tup xs =>
    obtain ⟨a, ys, rfl, h1, h2⟩ := hv.tup_inv
    exact ⟨sqT_ty h1, (kit_tup t).trans h⟩
  | loc l =>
    obtain ⟨a, rfl, ha⟩ := hv.loc_inv
    simp only [isiV] at h
    split at h
    · rename_i xs e
      obtain ⟨ys, h1, h2⟩ := R.obj l a _ ha e
      exact ⟨.base (.lst h1), (kit_list t).trans h⟩
    · cases h
  | rng lo hi => cases h
  | seq ns => cases h
theorem call_isiA {X : Cx} {E : XK} (hK : X.K = S.K) (t : Ty) : CallR X (.builtin "isinstance") (fun xs H Q => ∃ x r m v, xs = [x, .ty (tyS t)] ∧ RH S r m H ∧ RV S.K r H v x ∧ GE S (Rv S) r H Q E (ofB (isiV t v m) m)) := by
  intro pins s σ H xs us Q I rv h
  obtain ⟨x, r, m, v, rfl, R, hv, g⟩ := h
  obtain ⟨c, hc, q⟩ := g.ofB R
  obtain ⟨h1, h2⟩ := ty_v R hv hc
  rw [← hK] at h1
  exact call_isi pins s σ H _ us Q I rv ⟨x, .ty (tyS t), .type (tyOfV v), .type (tyS t), c, rfl, .ty _, h1, kit_ty h2, q⟩
end Mi
end

section
set_option autoImplicit false
set_option Elab.async false
set_option linter.all false
set_option maxRecDepth 100000
namespace Mi
open PySem PySem.Spec PyProof.Rows L2
variable {S : Fx}
theorem src_at {src : List (Nat × List PV)} {m : MH} (h : srcOk src m = true) {p : Nat × List PV} (hp : p ∈ src) : listAt m p.1 = some p.2 := by
  have h := List.all_eq_true.mp h p hp
  cases e : listAt m p.1 with
  | none => simp [e] at h
  | some zs =>
    simp [e] at h
    rw [beqs_is _ _ h]
theorem src_app {s t : List (Nat × List PV)} {m : MH} (h : srcOk (s ++ t) m = true) : srcOk s m = true ∧ srcOk t m = true := by
  unfold srcOk at h ⊢
  rw [List.all_append, Bool.and_eq_true] at h
  exact h
/-- a tree known by its items alone (the pair that a zip lays) -/
def RVw (K : PySem.W.Frag) (r : List Addr) (H : Hp) (x : PV) (y : V) : Prop := match x with
  | .tup xs => ∃ a ys, y = .ref a ∧ SqT K H a ys ∧ RVs K r H xs ys
  | x => RV K r H x y
theorem RV.weak {K : PySem.W.Frag} {r : List Addr} {H : Hp} {x : PV} {y : V} (h : RV K r H x y) : RVw K r H x y := by
  cases x with
  | tup xs => exact h.tup_inv
  | _ => exact h
/-- what a target asks of an item -/
def RVt (tg : Tgt) (K : PySem.W.Frag) (r : List Addr) (H : Hp) (x : PV) (y : V) : Prop := match tg with
  | .one _ => RV K r H x y
  | _ => RVw K r H x y
theorem RV.atT {K : PySem.W.Frag} {r : List Addr} {H : Hp} {x : PV} {y : V} (h : RV K r H x y) (tg : Tgt) : RVt tg K r H x y := by
  cases tg with
  | one i => exact h
  | _ => exact h.weak
def many : Tgt → Bool
  | .one _ => false
  | _ => true
theorem RVw.atT {K : PySem.W.Frag} {r : List Addr} {H : Hp} {x : PV} {y : V} (h : RVw K r H x y) {tg : Tgt} (ht : many tg = true) : RVt tg K r H x y := by
  cases tg with
  | one i => cases ht
  | _ => exact h
/-- J gives the trees xs, as long as the lists src stand -/
def Feeds (S : Fx) (tg : Tgt) (r0 : List Addr) (H0 : Hp) (src : List (Nat × List PV)) (xs : List PV) (J : It) : Prop :=
  ∀ (i : Nat) (r : List Addr) (m : MH) (H : Hp), Ext r0 r H0 H → RH S r m H → srcOk src m = true →
    (∀ x, xs[i]? = some x → J.go i H ∧ ∀ y H', J.yld i H y H' → Ext r r H H' ∧ RH S r m H' ∧ RVt tg S.K r H' x y) ∧ (xs.length ≤ i → J.stop i H)
theorem Feeds.ext {tg : Tgt} {r0 r1 : List Addr} {H0 H1 : Hp} {src : List (Nat × List PV)} {xs : List PV} {J : It} (f : Feeds S tg r0 H0 src xs J) (e : Ext r0 r1 H0 H1) : Feeds S tg r1 H1 src xs J :=
  fun i r m H x => f i r m H (e.trans x)
/-- a list that stands so long as it should: its items at any later time -/
def Stands (S : Fx) (r0 : List Addr) (H0 : Hp) (src : List (Nat × List PV)) (xs : List PV) (a : Addr) : Prop :=
  ∀ (r : List Addr) (m : MH) (H : Hp), Ext r0 r H0 H → RH S r m H → srcOk src m = true → ∃ ys, SqL S.K H a ys ∧ RVs S.K r H xs ys
theorem feeds_list {tg : Tgt} {r0 : List Addr} {H0 : Hp} {src : List (Nat × List PV)} {xs : List PV} {a : Addr} (h : Stands S r0 H0 src xs a) : Feeds S tg r0 H0 src xs (Itl S.K a) := by
  intro i r m H e R ho
  obtain ⟨ys, h1, h2⟩ := h r m H e R ho
  refine ⟨fun x hx => ?_, fun hi => ⟨ys, h1, by rw [← h2.length]; exact hi⟩⟩
  obtain ⟨y, hy, hv⟩ := h2.get hx
  refine ⟨⟨ys, y, h1, hy⟩, fun z H' hz => ?_⟩
  obtain ⟨rfl, hz⟩ := hz
  have := hz ys h1
  rw [hy] at this
  cases this
  exact ⟨Ext.refl _ _, R, hv.atT tg⟩
theorem feeds_tup {tg : Tgt} {r0 : List Addr} {H0 : Hp} {xs : List PV} {ys : List V} {a : Addr} (h1 : SqT S.K H0 a ys) (h2 : RVs S.K r0 H0 xs ys) : Feeds S tg r0 H0 [] xs (Itt S.K a) := by
  intro i r m H e R _
  have h1 := e.2.2.sqT h1
  have h2 := h2.ext e
  refine ⟨fun x hx => ?_, fun hi => ⟨ys, h1, by rw [← h2.length]; exact hi⟩⟩
  obtain ⟨y, hy, hv⟩ := h2.get hx
  refine ⟨⟨ys, y, h1, hy⟩, fun z H' hz => ?_⟩
  obtain ⟨rfl, hz⟩ := hz
  have := hz ys h1
  rw [hy] at this
  cases this
  exact ⟨Ext.refl _ _, R, hv.atT tg⟩
theorem feeds_str {tg : Tgt} {r0 : List Addr} {H0 : Hp} (x : Str) : Feeds S tg r0 H0 [] (x.cps.toList.map fun c => PV.str ⟨#[c]⟩) (Its x) := by
  intro i r m H e R _
  refine ⟨fun v hv => ?_, fun hi => by rw [List.length_map, Array.length_toList] at hi; exact hi⟩
  rw [List.getElem?_map, Array.getElem?_toList] at hv
  cases q : x.cps[i]? with
  | none => rw [q] at hv; cases hv
  | some c =>
    rw [q] at hv
    cases hv
    refine ⟨(Array.getElem?_eq_some_iff.mp q).1, fun y H' hy => ?_⟩
    obtain ⟨rfl, d, hd, rfl⟩ := hy
    rw [q] at hd
    cases hd
    exact ⟨Ext.refl _ _, R, (RV.str _).atT tg⟩
theorem feeds_rng {tg : Tgt} {r0 : List Addr} {H0 : Hp} (lo hi : Int) : Feeds S tg r0 H0 [] ((List.range (hi - lo).toNat).map fun (i : Nat) => PV.int (lo + (i : Int))) (Itr lo (hi - lo).toNat) := by
  intro i r m H e R _
  refine ⟨fun v hv => ?_, fun hi => by rw [List.length_map, List.length_range] at hi; exact hi⟩
  rw [List.getElem?_map] at hv
  by_cases hl : i < (hi - lo).toNat
  · rw [List.getElem?_range hl] at hv
    cases hv
    refine ⟨hl, fun y H' hy => ?_⟩
    obtain ⟨rfl, rfl⟩ := hy
    exact ⟨Ext.refl _ _, R, (RV.int _).atT tg⟩
  · rw [List.getElem?_eq_none (by rw [List.length_range]; omega)] at hv
    cases hv
abbrev Rit (S : Fx) (tg : Tgt) : Rel (List (Nat × List PV) × List PV) It := fun _ r H p J => Feeds S tg r H p.1 p.2 J
theorem anti_it {tg : Tgt} : Anti (Rit S tg) := fun _ _ _ _ _ _ _ _ _ _ h => h
def iX (S : Fx) (tg : Tgt) (C : Nat → List PV → MH → Res PV) (E : XK) (a : Ex) : TI := fun σ H R => ∃ r e m, RE S r H e σ ∧ RH S r m H ∧ GE S (Rit S tg) r H R E (evI S.P C a e m)
/-- what stands as a list -/
theorem stands_loc {r0 : List Addr} {H0 : Hp} {l : Nat} {a : Addr} {xs : List PV} (hl : r0[l]? = some a) : Stands S r0 H0 [(l, xs)] xs a := fun r m H e R ho =>
  R.list (e.at_ hl) (src_at ho (p := (l, xs)) (by simp))
theorem stands_tmp {r0 : List Addr} {H0 : Hp} {a : Addr} {xs : List PV} {ys : List V} (ha : a ∉ r0) (h : H0 a = some (.lst ys)) (hx : RVs S.K r0 H0 xs ys) : Stands S r0 H0 [] xs a := fun r m H e R _ =>
  ⟨ys, .inl (.inl (e.out ha h)), hx.ext e⟩
theorem stands_seq {r0 : List Addr} {H0 : Hp} {a : Addr} {ns : List Int} (h : ScrL S.K H0 a (ns.map V.int)) : Stands S r0 H0 [] (ns.map PV.int) a := fun r m H e R _ =>
  ⟨_, (e.2.2.scr h).sql, RVs.ints ns⟩
theorem Stands.ext {r0 r1 : List Addr} {H0 H1 : Hp} {src : List (Nat × List PV)} {xs : List PV} {a : Addr} (f : Stands S r0 H0 src xs a) (e : Ext r0 r1 H0 H1) : Stands S r1 H1 src xs a :=
  fun r m H x => f r m H (e.trans x)
/-- the four kinds of what a value can give to a walk -/
def WalkV (K : PySem.W.Frag) (R : It → Hp → Prop) (y : V) (H : Hp) : Prop :=
  (∃ a, y = .ref a ∧ (∃ ys, SqL K H a ys) ∧ R (Itl K a) H) ∨ (∃ a, y = .ref a ∧ (∃ ys, SqT K H a ys) ∧ R (Itt K a) H) ∨ (∃ x, y = .str x ∧ R (Its x) H) ∨
    (∃ a lo hi, y = .ref a ∧ H a = some (.rng lo hi) ∧ (-1000000 ≤ lo ∧ lo ≤ 1000000 ∧ -1000000 ≤ hi ∧ hi ≤ 1000000) ∧ R (Itr lo (hi - lo).toNat) H)
theorem pyIter_any {X : Cx} {tg : Expr} {pins : List (Addr × Obj)} {s : Shared} {σ : L2.St} {H : Hp} {y : V} {u : Value} {R : It → Hp → Prop} (I : Inv X pins σ H s) (ry : RelV y u) (h : WalkV X.K R y H) : wpAny (model X.prog X.w) X.A (pyIter u) (PIE X pins σ tg R) X.xe s := by
  have own : ∀ b, b ∈ [s.heap.objs.size] → FpOk X pins H b := fun b hb => by
    have e : b = s.heap.objs.size := by simpa using hb
    subst e
    exact I.fpOk (Nat.le_refl _) (I.hok.fresh (Nat.le_refl _))
  rcases h with ⟨a, rfl, ⟨ys, hl⟩, q⟩ | ⟨a, rfl, ⟨ys, hl⟩, q⟩ | ⟨x, rfl, q⟩ | ⟨a, lo, hi, rfl, hr, hb, q⟩
  · cases ry
    obtain ⟨its, rv, p, hz⟩ := I.list hl
    exact wpAny_pyIter_list p.isList ⟨_, _, _, _, H, rfl, I.kept (t' := s.toks) (fun b o e => Heap.get?_push_of_some _ e), turn_list a _, ⟨_, Heap.get?_push_size _ rfl, rfl, rfl⟩, own, q⟩
  · cases ry
    obtain ⟨its, rv, p, hz⟩ := I.tuple hl
    exact wpAny_pyIter_tuple (show s.heap.IsTuple a its.toArray from p) ⟨_, _, _, _, H, rfl, I.kept (t' := s.toks) (fun b o e => Heap.get?_push_of_some _ e), turn_tuple a _, ⟨_, Heap.get?_push_size _ rfl, rfl, rfl⟩, own, q⟩
  · obtain ⟨t, rfl⟩ := ry
    cases ha : x.cps.all (· < 128) with
    | false => exact wpAny_pyIter_wide ha (pi_one (tk := s.toks) I _ (turn_str _ x t "str_iterator" (.inr rfl)) ⟨_, Heap.get?_push_size _ rfl, rfl, rfl⟩ q)
    | true => exact wpAny_pyIter_ascii ha (pi_one (tk := s.toks) I _ (turn_str _ x t "str_ascii_iterator" (.inl rfl)) ⟨_, Heap.get?_push_size _ rfl, rfl, rfl⟩ q)
  · cases ry
    obtain ⟨t, u, v, ho⟩ := (show ObjOk X.prog X.w H s.heap a (.rng lo hi) from I.hok a _ hr)
    obtain ⟨b1, b2, b3, b4⟩ := hb
    refine wpAny_pyIter_range (show IsRange s.heap a lo hi 1 t u v from ho) (small_one (by omega) (by omega) (by omega) (by omega)) ?_
    refine ⟨_, _, _, _, H, rfl, I.kept (t' := s.toks) (fun b o e => Heap.get?_push_of_some _ e), turn_range _ lo (hi - lo).toNat, ?_, own, q⟩
    have e1 : lo + ((0 : Nat) : Int) * 1 = lo := by simp
    have e2 : (((hi - lo).toNat : Nat) : Int) - ((0 : Nat) : Int) = Builtin.Range.rangeSize lo hi 1 := by
      rw [rangeSize_one]
      split <;> omega
    show IsRangeIter _ _ (lo + ((0 : Nat) : Int) * 1) ((((hi - lo).toNat : Nat) : Int) - ((0 : Nat) : Int)) 1
    rw [e1, e2]
    exact Heap.get?_push_size _ rfl
/-- what an end of an expression gives to a walk -/
theorem walk_x {tg : Tgt} {K : PySem.W.Frag} {r : List Addr} {H0 H : Hp} {m : MH} {x : XV} {y : V} {E : XK} {R : It → Hp → Prop} (hK : K = S.K) (Rh : RH S r m H) (q : Rx S H0 r H x y)
    (g : GE S (Rit S tg) r H R E ((toL x m).bind fun xs m => .ok (srcOf x m, xs) m)) : WalkV K R y H := by
  subst hK
  have fin : ∀ {src xs J}, Feeds S tg r H src xs J → GE S (Rit S tg) r H R E (.ok (src, xs) m) → R J H := fun {src xs J} f g => g r H J (Ext.refl _ _) Rh f
  cases x with
  | tmp xs =>
    obtain ⟨a, ys, rfl, h1, h2, h3, h4⟩ := q
    exact .inl ⟨a, rfl, ⟨ys, .inl (.inl h1)⟩, fin (feeds_list (stands_tmp h3 h1 h2)) g⟩
  | its s xs => exact (show False from q).elim
  | val v =>
    cases v with
    | tup xs =>
      obtain ⟨a, ys, rfl, h1, h2⟩ := RV.tup_inv q
      exact .inr (.inl ⟨a, rfl, ⟨ys, h1⟩, fin (feeds_tup h1 h2) g⟩)
    | loc l =>
      obtain ⟨a, rfl, ha⟩ := RV.loc_inv q
      cases e : listAt m l with
      | none =>
        simp only [toL, itemsOf, e] at g
        exact (show False from g).elim
      | some xs =>
        simp only [toL, itemsOf, e, Res.bind_ok, srcOf] at g
        obtain ⟨ys, h1, h2⟩ := Rh.list ha e
        exact .inl ⟨a, rfl, ⟨ys, h1⟩, fin (feeds_list (stands_loc ha)) g⟩
    | str s =>
      cases RV.str_inv q
      exact .inr (.inr (.inl ⟨s, rfl, fin (feeds_str s) g⟩))
    | rng lo hi =>
      obtain ⟨a, rfl, ha⟩ := RV.rng_inv q
      simp only [toL, itemsOf] at g
      split at g
      · rename_i xs e
        split at e
        · rename_i c
          cases e
          simp only [Bool.and_eq_true, decide_eq_true_eq] at c
          exact .inr (.inr (.inr ⟨a, lo, hi, rfl, ha, ⟨c.1.1.1, c.1.1.2, c.1.2, c.2⟩, fin (feeds_rng lo hi) g⟩))
        · cases e
      · exact (show False from g).elim
    | seq ns =>
      obtain ⟨a, rfl, ha⟩ := RV.seq_inv q
      exact .inl ⟨a, rfl, ⟨_, ha.sql⟩, fin (feeds_list (stands_seq ha)) g⟩
    | _ => exact (show False from g).elim
theorem pi_any {X : Cx} {C : Nat → List PV → MH → Res PV} {E : XK} {tg : Tgt} {tge e : Expr} {a : Ex} (hK : X.K = S.K) (he : PE X e (tX S C E a)) : PI X tge e (iX S tg C E a) := by
  refine ⟨fun pins s σ H R I h => ?_⟩
  obtain ⟨r, n, m, h1, h2, g⟩ := h
  refine thn (he.run pins s σ H (WalkV X.K R) I ⟨r, n, m, h1, h2, ?_⟩) fun u s1 ⟨y, H1, I1, r1, q1⟩ => pyIter_any I1 r1 q1
  exact g.bind (an := anti_it) fun x m1 r1 H1 y _ e1 h3 q g1 => walk_x hK h3 q g1
end Mi
end

section
set_option autoImplicit false
set_option Elab.async false
set_option linter.all false
set_option maxRecDepth 100000
namespace Mi
open PySem PySem.Spec PyProof.Rows L2
variable {S : Fx}
/-- no starred item -/
def plainX : Expr → Bool
  | .Starred _ _ => false
  | _ => true
theorem star_plain {e : Expr} (h : plainX e = true) (es : List Expr) (env : PySem.Env) : starEach (e :: es) env = (false, eval e env) :: starEach es env := by
  cases e <;> first | rfl | cases h
theorem no_star {env : PySem.Env} {pos : Pos} : ∀ {es : List Expr}, es.all plainX = true → (backTo pos (starEach es env)).any (·.1) = false
  | [], _ => rfl
  | e :: es, h => by
    rw [List.all_cons, Bool.and_eq_true] at h
    rw [star_plain h.1]
    unfold backTo
    rw [List.map_cons, List.any_cons]
    exact no_star h.2
section
variable {X : Cx} {C : Nat → List PV → MH → Res PV} {E : XK}
theorem pa_evs : ∀ {es : List Expr} {as : List Ex}, (∀ p ∈ es.zip as, PE X p.1 (tV S C E p.2)) → es.length = as.length → es.all plainX = true → PA X es (tVs S C E as)
  | [], [], _, _, _ => ⟨fun pos pins s σ H Q I h => by
    obtain ⟨r, e, m, h1, h2, g⟩ := h
    exact pa_nil.run pos pins s σ H Q I (g r H [] (Ext.refl _ _) h2 .nil)⟩
  | e :: es, a :: as, h, hl, hp => by
    rw [List.all_cons, Bool.and_eq_true] at hp
    have h1 := h (e, a) (by simp)
    have h2 := pa_evs (es := es) (as := as) (fun p hm => h p (by simp [hm])) (by simpa using hl) hp.2
    refine pa_mono (pa_cons h1 h2 (star_plain hp.1 _ _)) fun σ H Q ⟨r, n, m, k1, k2, g⟩ => ?_
    refine ⟨r, n, m, k1, k2, GE.bind (k := fun v m => (evs S.P C as n m).bind fun vs m => .ok (v :: vs) m) g fun v m1 r1 H1 x _ e1 k3 q g1 => ?_⟩
    refine ⟨r1, n, m1, k1.ext e1, k3, g1.bind fun vs m2 r2 H2 xs _ e2 k4 q2 g2 => ?_⟩
    exact g2 r2 H2 _ (Ext.refl _ _) k4 (.cons (RV.ext e2 q) q2)
  | [], _ :: _, _, hl, _ => by simp at hl
  | _ :: _, [], _, hl, _ => by simp at hl
theorem evs_len : ∀ {as : List Ex} {n : Env} {m m' : MH} {vs : List PV}, evs S.P C as n m = .ok vs m' → vs.length = as.length
  | [], n, m, m', vs, h => by
    rw [evs] at h
    cases h
    rfl
  | a :: as, n, m, m', vs, h => by
    rw [evs] at h
    cases e1 : (evX S.P C a n m).bind toV with
    | ok v m1 =>
      rw [e1] at h
      simp only [Res.bind_ok] at h
      cases e2 : evs S.P C as n m1 with
      | ok ws m2 =>
        rw [e2] at h
        cases h
        rw [List.length_cons, List.length_cons, evs_len e2]
      | exc => rw [e2] at h; cases h
      | stuck => rw [e2] at h; cases h
    | exc => rw [e1] at h; cases h
    | stuck => rw [e1] at h; cases h
/-- a value as an end -/
theorem gx_val {r : List Addr} {H : Hp} {Q : VK} {x : Res PV} (g : GE S (Rx S) r H Q E (x.bind fun u m => .ok (.val u) m)) : GE S (Rv S) r H Q E x := by
  cases x with
  | ok v m => exact g
  | exc c v m => exact g
  | stuck => exact g
theorem ge_tupX {r : List Addr} {m : MH} {H : Hp} {Q : VK} {xs : List PV} {ys : List V} (R : RH S r m H) (hx : RVs S.K r H xs ys) (g : GE S (Rx S) r H Q E (.ok (.val (.tup xs)) m)) : NewT Q H ys :=
  ge_tup (E := E) R hx g
/-- a new list that nobody else knows -/
theorem ge_tmp {r : List Addr} {m : MH} {H : Hp} {Q : VK} {xs : List PV} {ys : List V} {p : Addr} (R : RH S r m H) (hp : H p = none) (hx : RVs S.K r H xs ys) (g : GE S (Rx S) r H Q E (.ok (.tmp xs) m)) : Q (.ref p) (upd H p (.lst ys)) :=
  g r _ _ (ext_new hp) (R.beside hp) ⟨p, ys, rfl, upd_same, hx.ext (ext_new hp), R.out hp, nt_none hp⟩
theorem GE.hereX {r : List Addr} {m : MH} {H : Hp} {Q : VK} {v : PV} {y : V} (g : GE S (Rx S) r H Q E (.ok (.val v) m)) (R : RH S r m H) (h : RV S.K r H v y) : Q y H := g r H y (Ext.refl _ _) R h
theorem pe_tupE {es : List Expr} {as : List Ex} {x1} {pos : Pos} (ha : PA X es (tVs S C E as)) (hl : as.length ≤ 1000) : PE X (.Tuple es x1 pos) (tX S C E (.tup as)) := by
  refine ⟨fun pins s σ H Q I ⟨r, n, m, k1, k2, g⟩ => ?_⟩
  rw [evX] at g
  refine wpAny_Tuple_spliced (thn (ha.run pos pins s σ H (fun ys H1 => ys.length ≤ sizeLine ∧ NewT Q H1 ys) I ⟨r, n, m, k1, k2, ?_⟩) fun us s1 ⟨ys, H1, I1, rv, z, q⟩ => ⟨by rw [← rv.length]; exact z, Inv.ltup I1 rv z q⟩)
  refine GE.bind (k := fun vs m => .ok (XV.val (PV.tup vs)) m) g fun vs m1 r1 H1 xs e e1 k3 q g1 => ⟨?_, ge_tupX k3 q g1⟩
  have := evs_len e
  rw [← q.length, this, sizeLine_eq]
  omega
theorem pe_lstE {es : List Expr} {as : List Ex} {pos : Pos} (ha : PA X es (tVs S C E as)) (hl : as.length ≤ 1000) : PE X (.List es pos) (tX S C E (.lst as)) := by
  refine pe_mono (pe_lst ha) fun σ H Q ⟨r, n, m, k1, k2, g⟩ => ?_
  refine ⟨r, n, m, k1, k2, GE.bind (k := fun vs m => .ok (XV.tmp vs) m) g fun vs m1 r1 H1 xs e e1 k3 q g1 => ⟨?_, fun p hp => ge_tmp k3 hp q g1⟩⟩
  have := evs_len e
  rw [← q.length, this, sizeLine_eq]
  omega
theorem GE.toM {α β : Type} {R : Rel α β} {r : List Addr} {H : Hp} {Q : β → Hp → Prop} {x : XV} {m : MH} {k : List PV → MH → Res α} (g : GE S R r H Q E ((toM x m).bind k)) : ∃ xs, Mi.toM x m = .ok xs m ∧ GE S R r H Q E (k xs m) := by
  cases x with
  | tmp xs => exact ⟨xs, rfl, g⟩
  | its s xs => exact (show False from g).elim
  | val v =>
    cases v with
    | loc l =>
      simp only [Mi.toM] at g ⊢
      cases e : listAt m l with
      | none => rw [e] at g; exact (show False from g).elim
      | some xs => rw [e] at g; exact ⟨xs, rfl, g⟩
    | _ => exact (show False from g).elim
theorem GE.toLL {α β : Type} {R : Rel α β} {r : List Addr} {H : Hp} {Q : β → Hp → Prop} {x : XV} {m : MH} {k : List PV → MH → Res α} (g : GE S R r H Q E ((toLL x m).bind k)) : ∃ xs, Mi.toLL x m = .ok xs m ∧ GE S R r H Q E (k xs m) := by
  cases x with
  | tmp xs => exact ⟨xs, rfl, g⟩
  | its s xs => exact (show False from g).elim
  | val v =>
    cases v with
    | loc l =>
      simp only [Mi.toLL] at g ⊢
      cases e : listAt m l with
      | none => rw [e] at g; exact (show False from g).elim
      | some xs => rw [e] at g; exact ⟨xs, rfl, g⟩
    | seq ns => exact ⟨_, rfl, g⟩
    | _ => exact (show False from g).elim
/-- the list of an end, read later -/
theorem listM {r0 r r1 : List Addr} {H0 H H1 : Hp} {m : MH} {x : XV} {y : V} {xs : List PV} (q : Rx S H0 r H x y) (e : Ext r r1 H H1) (R : RH S r1 m H1) (h : toM x m = .ok xs m) : ∃ a ys, y = .ref a ∧ H1 a = some (.lst ys) ∧ RVs S.K r1 H1 xs ys := by
  cases x with
  | tmp zs =>
    cases h
    obtain ⟨a, ys, rfl, h1, h2, h3, h4⟩ := q
    exact ⟨a, ys, rfl, e.out h3 h1, h2.ext e⟩
  | its s zs => cases h
  | val v =>
    cases v with
    | loc l =>
      obtain ⟨a, rfl, ha⟩ := RV.loc_inv q
      simp only [toM] at h
      cases f : listAt m l with
      | none => rw [f] at h; cases h
      | some zs =>
        rw [f] at h
        cases h
        obtain ⟨ys, h1, h2⟩ := R.wlist (xs := xs) (e.at_ ha) (by unfold wlistAt; unfold listAt at f; exact f)
        exact ⟨a, ys, rfl, h1, h2⟩
    | _ => cases h
theorem listLL {r0 r r1 : List Addr} {H0 H H1 : Hp} {m : MH} {x : XV} {y : V} {xs : List PV} (q : Rx S H0 r H x y) (e : Ext r r1 H H1) (R : RH S r1 m H1) (h : toLL x m = .ok xs m) : ∃ a ys, y = .ref a ∧ SqL S.K H1 a ys ∧ RVs S.K r1 H1 xs ys := by
  cases x with
  | tmp zs =>
    cases h
    obtain ⟨a, ys, rfl, h1, h2, h3, h4⟩ := q
    exact ⟨a, ys, rfl, .inl (.inl (e.out h3 h1)), h2.ext e⟩
  | its s zs => cases h
  | val v =>
    cases v with
    | loc l =>
      obtain ⟨a, rfl, ha⟩ := RV.loc_inv q
      simp only [toLL] at h
      cases f : listAt m l with
      | none => rw [f] at h; cases h
      | some zs =>
        rw [f] at h
        cases h
        obtain ⟨ys, h1, h2⟩ := R.list (e.at_ ha) f
        exact ⟨a, ys, rfl, h1, h2⟩
    | seq ns =>
      obtain ⟨a, rfl, ha⟩ := RV.seq_inv q
      cases h
      exact ⟨a, _, rfl, (e.2.2.scr ha).sql, RVs.ints ns⟩
    | _ => cases h
theorem pe_lcat {a b : Expr} {x y : Ex} {pos : Pos} (ha : PE X a (tX S C E x)) (hb : PE X b (tX S C E y)) : PE X (.BinOp a .Add b pos) (tX S C E (.lcat x y)) := by
  refine pe_mono (pe_op op_cat ha hb) fun σ H Q ⟨r, n, m, k1, k2, g⟩ => ?_
  rw [evX] at g
  refine ⟨r, n, m, k1, k2, g.bind fun u m1 r1 H1 v _ e1 k3 q1 g1 => ⟨r1, n, m1, k1.ext e1, k3, g1.bind fun w m2 r2 H2 v2 _ e2 k4 q2 g2 => ?_⟩⟩
  obtain ⟨xs, t1, g3⟩ := g2.toM
  obtain ⟨ys, t2, g4⟩ := g3.toM
  obtain ⟨gb, g5⟩ := g4.guard
  obtain ⟨p, us, rfl, h1, h2⟩ := listM (r0 := r) q1 e2 k4 t1
  obtain ⟨p2, us2, rfl, h3, h4⟩ := listM (r0 := r) q2 (Ext.refl _ _) k4 t2
  refine ⟨p, p2, us, us2, rfl, rfl, h1, h3, ?_, fun p hp => ge_tmp k4 hp (h2.append h4) g5⟩
  rw [← h2.length, ← h4.length]
  exact of_decide_eq_true gb
theorem pe_lrep {a b : Expr} {x y : Ex} {pos : Pos} (ha : PE X a (tX S C E x)) (hb : PE X b (tX S C E y)) : PE X (.BinOp a .Mult b pos) (tX S C E (.lrep x y)) := by
  refine pe_mono (pe_op op_rep ha (pe_val hb)) fun σ H Q ⟨r, n, m, k1, k2, g⟩ => ?_
  rw [evX] at g
  refine ⟨r, n, m, k1, k2, g.bind fun u m1 r1 H1 v _ e1 k3 q1 g1 => ⟨r1, n, m1, k1.ext e1, k3, g1.bind fun w m2 r2 H2 v2 _ e2 k4 q2 g2 => ?_⟩⟩
  obtain ⟨xs, t1, g3⟩ := g2.toM
  obtain ⟨p, us, rfl, h1, h2⟩ := listM (r0 := r) q1 e2 k4 t1
  cases w with
  | int k =>
    cases RV.int_inv q2
    obtain ⟨gb, g5⟩ := g3.guard
    simp only [Bool.and_eq_true, decide_eq_true_eq] at gb
    obtain ⟨⟨b1, b2⟩, b3⟩ := gb
    refine ⟨p, k, us, rfl, rfl, h1, by omega, by omega, ?_, fun p hp => ge_tmp k4 hp (rep_vals h2 _) g5⟩
    rw [← h2.length, sizeLine_eq]
    have := Nat.mul_le_mul b3 (show k.toNat ≤ 100 by omega)
    omega
  | _ => exact (show False from g3).elim
theorem po_evo {e : Option Expr} {a : Option Ex} (h : match e, a with | none, none => True | some e, some a => PE X e (tV S C E a) | _, _ => False) : PO X e (tO S C E a) := by
  refine ⟨fun pins s σ H Q I ⟨r, n, m, k1, k2, g⟩ => ?_⟩
  cases e with
  | none =>
    cases a with
    | none => exact po_none.run pins s σ H Q I (g r H none (Ext.refl _ _) k2 rfl)
    | some a => exact h.elim
  | some e =>
    cases a with
    | none => exact h.elim
    | some a =>
      refine (po_some h).run pins s σ H Q I ⟨r, n, m, k1, k2, ?_⟩
      rw [evo] at g
      refine g.bind fun v m1 r1 H1 x _ e1 k3 q g1 => ?_
      cases v with
      | int i =>
        cases RV.int_inv q
        exact ⟨i, rfl, g1 r1 H1 _ (Ext.refl _ _) k3 rfl⟩
      | _ => exact (show False from g1).elim
theorem pe_slcE {e : Expr} {lo hi : Option Expr} {x : Ex} {l h : Option Ex} {p2 pos : Pos} (hK : X.K = S.K) (he : PE X e (tX S C E x)) (hl : PO X lo (tO S C E l)) (hh : PO X hi (tO S C E h)) : PE X (.Subscript e (.Slice lo hi none p2) pos) (tX S C E (.slc x l h)) := by
  refine pe_mono (pe_slice (sl_any (E := E) hK) (pe_val he) hl hh) fun σ H Q ⟨r, n, m, k1, k2, g⟩ => ?_
  rw [evX] at g
  refine ⟨r, n, m, k1, k2, g.bind fun u m1 r1 H1 v _ e1 k3 q1 g1 => ⟨r1, n, m1, k1.ext e1, k3, g1.bind fun w m2 r2 H2 v2 _ e2 k4 q2 g2 => ⟨r2, n, m2, (k1.ext e1).ext e2, k4, g2.bind fun w3 m3 r3 H3 v3 _ e3 k5 q3 g3 => ?_⟩⟩⟩
  cases q2
  cases q3
  exact ⟨r3, m3, u, k5, (RV.ext e2 q1).ext e3, gx_val g3⟩
theorem pe_lslcE {e : Expr} {lo hi : Option Expr} {x : Ex} {l h : Option Ex} {p2 pos : Pos} (hK : X.K = S.K) (he : PE X e (tX S C E x)) (hl : PO X lo (tO S C E l)) (hh : PO X hi (tO S C E h)) : PE X (.Subscript e (.Slice lo hi none p2) pos) (tX S C E (.lslc x l h)) := by
  refine pe_mono (pe_slice sl_list he hl hh) fun σ H Q ⟨r, n, m, k1, k2, g⟩ => ?_
  rw [evX] at g
  refine ⟨r, n, m, k1, k2, g.bind fun u m1 r1 H1 v _ e1 k3 q1 g1 => ⟨r1, n, m1, k1.ext e1, k3, g1.bind fun w m2 r2 H2 v2 _ e2 k4 q2 g2 => ⟨r2, n, m2, (k1.ext e1).ext e2, k4, g2.bind fun w3 m3 r3 H3 v3 _ e3 k5 q3 g3 => ?_⟩⟩⟩
  cases q2
  cases q3
  obtain ⟨xs, t1, g4⟩ := g3.toLL
  obtain ⟨p, us, rfl, h1, h2⟩ := listLL (r0 := r) q1 (e2.trans e3) k5 t1
  rw [← hK] at h1
  exact ⟨p, us, rfl, h1, fun p hp => ge_tmp k5 hp (h2.cut _ _) g4⟩
end
end Mi
end

section
set_option autoImplicit false
set_option Elab.async false
set_option linter.all false
set_option maxRecDepth 100000
namespace Mi
open PySem PySem.Spec PyProof.Rows L2
variable {S : Fx}
def intsP : List PV → Option (List Int)
  | [] => some []
  | .int i :: r => (intsP r).map (i :: ·)
  | _ => none
theorem ints_rv {K : PySem.W.Frag} {r : List Addr} {H : Hp} : ∀ {xs : List PV} {ns : List Int} {ys : List V}, RVs K r H xs ys → intsP xs = some ns → ys = ns.map V.int ∧ xs = ns.map PV.int
  | [], ns, ys, h, e => by
    cases h
    cases e
    exact ⟨rfl, rfl⟩
  | x :: xs, ns, ys, h, e => by
    cases h with
    | cons h t =>
      cases x with
      | int i =>
        cases h.int_inv
        cases f : intsP xs with
        | none => simp [intsP, f] at e
        | some ms =>
          simp [intsP, f] at e
          subst e
          obtain ⟨e1, e2⟩ := ints_rv t f
          exact ⟨by rw [e1] <;> rfl, by rw [e2] <;> rfl⟩
      | _ => simp [intsP] at e
theorem bools_rv {K : PySem.W.Frag} {r : List Addr} {H : Hp} : ∀ {xs : List PV} {bs : List Bool} {ys : List V}, RVs K r H xs ys → bools xs = some bs → ys = bs.map V.bl
  | [], bs, ys, h, e => by
    cases h
    cases e
    rfl
  | x :: xs, bs, ys, h, e => by
    cases h with
    | cons h t =>
      cases x with
      | bl i =>
        cases h.bl_inv
        cases f : bools xs with
        | none => simp [bools, f] at e
        | some ms =>
          simp [bools, f] at e
          subst e
          rw [bools_rv t f] <;> rfl
      | _ => simp [bools] at e
theorem sum_ints : ∀ {xs : List PV} {a s : Int}, sumI xs a = some s → ∃ ns, intsP xs = some ns ∧ s = a + ns.sum
  | [], a, s, h => by
    cases h
    exact ⟨[], rfl, by simp⟩
  | x :: xs, a, s, h => by
    cases x with
    | int i =>
      rw [sumI] at h
      obtain ⟨ns, e1, e2⟩ := sum_ints h
      refine ⟨i :: ns, by simp [intsP, e1], ?_⟩
      rw [e2, List.sum_cons]
      omega
    | _ => simp [sumI] at h
theorem least_ints : ∀ {xs : List PV} {b s : Int}, leastI xs b = some s → ∃ ns, intsP xs = some ns ∧ s ∈ b :: ns ∧ ∀ y ∈ b :: ns, s ≤ y
  | [], b, s, h => by
    cases h
    exact ⟨[], rfl, by simp, by simp⟩
  | x :: xs, b, s, h => by
    cases x with
    | int i =>
      rw [leastI] at h
      obtain ⟨ns, e1, e2, e3⟩ := least_ints h
      refine ⟨i :: ns, by simp [intsP, e1], ?_, fun y hy => ?_⟩
      · rcases List.mem_cons.mp e2 with e2 | e2
        · rw [e2]
          split <;> simp
        · simp [e2]
      · have h0 := e3 _ List.mem_cons_self
        rcases List.mem_cons.mp hy with hy | hy
        · rw [hy]
          split at h0 <;> omega
        · rcases List.mem_cons.mp hy with hy | hy
          · rw [hy]
            split at h0 <;> omega
          · exact e3 y (List.mem_cons_of_mem _ hy)
    | _ => simp [leastI] at h
theorem most_ints : ∀ {xs : List PV} {b s : Int}, mostI xs b = some s → ∃ ns, intsP xs = some ns ∧ s ∈ b :: ns ∧ ∀ y ∈ b :: ns, y ≤ s
  | [], b, s, h => by
    cases h
    exact ⟨[], rfl, by simp, by simp⟩
  | x :: xs, b, s, h => by
    cases x with
    | int i =>
      rw [mostI] at h
      obtain ⟨ns, e1, e2, e3⟩ := most_ints h
      refine ⟨i :: ns, by simp [intsP, e1], ?_, fun y hy => ?_⟩
      · rcases List.mem_cons.mp e2 with e2 | e2
        · rw [e2]
          split <;> simp
        · simp [e2]
      · have h0 := e3 _ List.mem_cons_self
        rcases List.mem_cons.mp hy with hy | hy
        · rw [hy]
          split at h0 <;> omega
        · rcases List.mem_cons.mp hy with hy | hy
          · rw [hy]
            split at h0 <;> omega
          · exact e3 y (List.mem_cons_of_mem _ hy)
    | _ => simp [mostI] at h
def blfn : Bl → String
  | .sum => "sum"
  | .all => "all"
  | .any => "any"
  | .min => "min"
  | .max => "max"
  | .lenset => "lenset"
/-- the wish at a list argument -/
def rBl (S : Fx) (E : XK) (b : Bl) : List V → Hp → VK → Prop := fun vs H Q => ∃ r m xs a ys, vs = [.ref a] ∧ RH S r m H ∧ SqL S.K H a ys ∧ RVs S.K r H xs ys ∧ GE S (Rv S) r H Q E (ofO (blV b xs) m)
theorem call_bl {X : Cx} {E : XK} (hK : X.K = S.K) (hc : X.calm = true) : ∀ b : Bl, b ≠ .lenset → CallR X (.builtin (blfn b)) (rBl S E b) := by
  intro b nb pins s σ H vs us Q I rv h
  obtain ⟨r, m, xs, a, ys, rfl, R, h1, h2, g⟩ := h
  obtain ⟨v, hb, q⟩ := g.ofV R
  rw [← hK] at h1
  cases b with
  | sum =>
    cases e : sumI xs 0 with
    | none => simp [blV, e] at hb
    | some t =>
      simp [blV, e] at hb
      subst hb
      obtain ⟨ns, e1, e2⟩ := sum_ints e
      obtain ⟨rfl, _⟩ := ints_rv h2 e1
      refine cr_sum hc pins s σ H _ us Q I rv ⟨a, ns, rfl, h1, ?_⟩
      have e3 : t = ns.sum := by omega
      rw [← e3]
      exact q _ (.int _)
  | all =>
    cases e : bools xs with
    | none => simp [blV, e] at hb
    | some bs =>
      have hb : some (PV.bl (bs.all id)) = some v := by simpa [blV, e] using hb
      cases hb
      cases bools_rv h2 e
      exact cr_all hc pins s σ H _ us Q I rv ⟨a, bs, rfl, h1, q _ (.bl _)⟩
  | any =>
    cases e : bools xs with
    | none => simp [blV, e] at hb
    | some bs =>
      have hb : some (PV.bl (bs.any id)) = some v := by simpa [blV, e] using hb
      cases hb
      cases bools_rv h2 e
      exact cr_any hc pins s σ H _ us Q I rv ⟨a, bs, rfl, h1, q _ (.bl _)⟩
  | min =>
    cases xs with
    | nil => simp [blV] at hb
    | cons x xs =>
      cases x with
      | int i =>
        cases e : leastI xs i with
        | none => simp [blV, e] at hb
        | some t =>
          simp [blV, e] at hb
          subst hb
          obtain ⟨ns, e1, e2, e3⟩ := least_ints e
          obtain ⟨rfl, _⟩ := ints_rv (ns := i :: ns) h2 (by simp [intsP, e1])
          refine cr_min hc pins s σ H _ us Q I rv ⟨a, i :: ns, rfl, h1, by simp, fun m hm hle => ?_⟩
          have e4 : m = t := Int.le_antisymm (hle t e2) (e3 m hm)
          rw [e4]
          exact q _ (.int _)
      | _ => simp [blV] at hb
  | max =>
    cases xs with
    | nil => simp [blV] at hb
    | cons x xs =>
      cases x with
      | int i =>
        cases e : mostI xs i with
        | none => simp [blV, e] at hb
        | some t =>
          simp [blV, e] at hb
          subst hb
          obtain ⟨ns, e1, e2, e3⟩ := most_ints e
          obtain ⟨rfl, _⟩ := ints_rv (ns := i :: ns) h2 (by simp [intsP, e1])
          refine cr_max hc pins s σ H _ us Q I rv ⟨a, i :: ns, rfl, h1, by simp, fun m hm hle => ?_⟩
          have e4 : m = t := Int.le_antisymm (e3 m hm) (hle t e2)
          rw [e4]
          exact q _ (.int _)
      | _ => simp [blV] at hb
  | lenset => exact absurd rfl nb
theorem rng_rv {K : PySem.W.Frag} {r : List Addr} {H : Hp} (lo : Int) (n : Nat) : RVs K r H ((List.range n).map fun (i : Nat) => PV.int (lo + (i : Int))) ((List.range n).map fun i => V.int (lo + (i : Nat))) := by
  induction List.range n with
  | nil => exact .nil
  | cons i is ih => exact .cons (.int _) ih
def rTof (S : Fx) (E : XK) : List V → Hp → VK → Prop := fun vs H Q => ∃ r H0 m x y, vs = [y] ∧ RH S r m H ∧ Rx S H0 r H x y ∧ GE S (Rx S) r H Q E ((toC x m).bind fun xs m => .ok (.val (.tup xs)) m)
theorem call_tof {X : Cx} {E : XK} (hK : X.K = S.K) (hc : X.calm = true) : CallR X (.type "tuple") (rTof S E) := by
  intro pins s σ H vs us Q I rv h
  obtain ⟨r, H0, m, x, y, rfl, R, hx, g⟩ := h
  have lst : ∀ {a xs ys}, y = .ref a → SqL S.K H a ys → RVs S.K r H xs ys → GE S (Rx S) r H Q E (.ok (XV.val (.tup xs)) m) → wpAny (model X.prog X.w) X.A (call (.type "tuple") us) (EP X pins σ Q) X.xe s := by
    intro a xs ys e h1 h2 g
    subst e
    rw [← hK] at h1
    obtain ⟨u, rfl, rx⟩ := vals1 rv
    cases rx
    obtain ⟨is, v1, pl, hz⟩ := I.list h1
    refine call_tuple_list pl.isList (fun h' kp => ?_) (by have := v1.length; simp only [List.size_toArray]; omega)
    exact Inv.ltup (I.kept (h' := h') (t' := s.toks) kp) v1 hz (ge_tupX R h2 g)
  cases x with
  | tmp xs =>
    obtain ⟨a, ys, rfl, h1, h2, h3, h4⟩ := hx
    exact lst rfl (.inl (.inl h1)) h2 g
  | its s xs => exact (show False from hx).elim
  | val v =>
    cases v with
    | tup xs =>
      obtain ⟨a, ys, rfl, h1, h2⟩ := RV.tup_inv hx
      rw [← hK] at h1
      exact call_tuple_of pins s σ H _ us Q I rv ⟨a, ys, rfl, .inr ⟨h1, GE.hereX (E := E) (m := m) g R hx⟩⟩
    | loc l =>
      obtain ⟨a, rfl, ha⟩ := RV.loc_inv hx
      simp only [toC, toL, itemsOf] at g
      cases e : listAt m l with
      | none => rw [e] at g; exact (show False from g).elim
      | some xs =>
        rw [e] at g
        obtain ⟨ys, h1, h2⟩ := R.list ha e
        exact lst rfl h1 h2 g
    | seq ns =>
      obtain ⟨a, rfl, ha⟩ := RV.seq_inv hx
      exact lst rfl ha.sql (RVs.ints ns) g
    | rng lo hi =>
      obtain ⟨a, rfl, ha⟩ := RV.rng_inv hx
      simp only [toC, toL, itemsOf] at g
      split at g
      · rename_i xs e
        split at e
        · rename_i c
          cases e
          simp only [Bool.and_eq_true, decide_eq_true_eq] at c
          obtain ⟨u, rfl, rx⟩ := vals1 rv
          cases rx
          obtain ⟨t, u, v, ho⟩ := (show ObjOk X.prog X.w H s.heap a (.rng lo hi) from I.hok a _ ha)
          refine call_tuple_range (n := (hi - lo).toNat) (I.ok.hd hc) (show IsRange s.heap a lo hi 1 t u v from ho) (small_one (by omega) (by omega) (by omega) (by omega)) (rangeSize_nat lo hi) (by omega) fun h' tk acc hk hi' => ?_
          have vr := vals_rg hi'
          exact Inv.ltup (us := acc.toList) (I.kept (h' := h') (t' := tk) hk) vr (by rw [rgV_length, sizeLine_eq]; omega) (ge_tupX (E := E) (m := m) R (rng_rv lo _) g)
        · cases e
      · exact (show False from g).elim
    | _ => exact (show False from g).elim
def rLof (S : Fx) (E : XK) : List V → Hp → VK → Prop := fun vs H Q => ∃ r H0 m x y, vs = [y] ∧ RH S r m H ∧ Rx S H0 r H x y ∧ GE S (Rx S) r H Q E ((toC x m).bind fun xs m => .ok (.tmp xs) m)
theorem call_lof {X : Cx} {E : XK} (hK : X.K = S.K) (hc : X.calm = true) : CallR X (.type "list") (rLof S E) := by
  intro pins s σ H vs us Q I rv h
  obtain ⟨r, H0, m, x, y, rfl, R, hx, g⟩ := h
  have lst : ∀ {a xs ys}, y = .ref a → SqL S.K H a ys ∨ SqT S.K H a ys → RVs S.K r H xs ys → GE S (Rx S) r H Q E (.ok (XV.tmp xs) m) → wpAny (model X.prog X.w) X.A (call (.type "list") us) (EP X pins σ Q) X.xe s := by
    intro a xs ys e h1 h2 g
    subst e
    rw [← hK] at h1
    exact call_list_of pins s σ H _ us Q I rv ⟨a, ys, rfl, h1, fun l hl => ge_tmp R hl h2 g⟩
  cases x with
  | tmp xs =>
    obtain ⟨a, ys, rfl, h1, h2, h3, h4⟩ := hx
    exact lst rfl (.inl (.inl (.inl h1))) h2 g
  | its s xs => exact (show False from hx).elim
  | val v =>
    cases v with
    | tup xs =>
      obtain ⟨a, ys, rfl, h1, h2⟩ := RV.tup_inv hx
      exact lst rfl (.inr h1) h2 g
    | loc l =>
      obtain ⟨a, rfl, ha⟩ := RV.loc_inv hx
      simp only [toC, toL, itemsOf] at g
      cases e : listAt m l with
      | none => rw [e] at g; exact (show False from g).elim
      | some xs =>
        rw [e] at g
        obtain ⟨ys, h1, h2⟩ := R.list ha e
        exact lst rfl (.inl h1) h2 g
    | seq ns =>
      obtain ⟨a, rfl, ha⟩ := RV.seq_inv hx
      exact lst rfl (.inl ha.sql) (RVs.ints ns) g
    | rng lo hi =>
      obtain ⟨a, rfl, ha⟩ := RV.rng_inv hx
      simp only [toC, toL, itemsOf] at g
      split at g
      · rename_i xs e
        split at e
        · rename_i c
          cases e
          simp only [Bool.and_eq_true, decide_eq_true_eq] at c
          obtain ⟨u, rfl, rx⟩ := vals1 rv
          cases rx
          obtain ⟨t, u, v, ho⟩ := (show ObjOk X.prog X.w H s.heap a (.rng lo hi) from I.hok a _ ha)
          refine call_list_range (n := (hi - lo).toNat) (I.ok.hd hc) (show IsRange s.heap a lo hi 1 t u v from ho) (small_one (by omega) (by omega) (by omega) (by omega)) (rangeSize_nat lo hi) (by omega) fun h' tk acc c' hk e' hi' => ?_
          have hp : H s.heap.objs.size = none := I.hok.fresh (Nat.le_refl _)
          refine ⟨.ref s.heap.objs.size, upd H s.heap.objs.size (.lst (rgV lo hi)), I.laid hk (Nat.le_refl _) (show ObjOk X.prog X.w _ _ _ (.lst (rgV lo hi)) from ⟨?_, acc.toList, c', vals_rg hi', ?_⟩), rfl, ge_tmp (E := E) (m := m) R hp (rng_rv lo _) g⟩
          · rw [rgV_length, sizeLine_eq]
            omega
          · rw [Array.toArray_toList]
            exact e'
        · cases e
      · exact (show False from g).elim
    | _ => exact (show False from g).elim
end Mi
end

section
set_option autoImplicit false
set_option Elab.async false
set_option linter.all false
set_option maxRecDepth 100000
namespace Mi
open PySem PySem.Spec PyProof.Rows L2
variable {S : Fx}
section
variable {X : Cx} {C : Nat → List PV → MH → Res PV} {E : XK}
theorem GE.ofR {r : List Addr} {H : Hp} {Q : VK} {x : Res PV} (g : GE S (Rv S) r H Q E x) : GE S (Rx S) r H Q E (x.bind fun u m => .ok (.val u) m) := by
  cases x with
  | ok v m => exact g
  | exc c v m => exact g
  | stuck => exact g
theorem pe_varE {i : Nat} {x : Str} {pos : Pos} (hN : X.N[i]? = some x) (hv : Vis X.env.scope x) (hd : (x == ("__debug__" : Str)) = false) (hcd : (x == ("__classdict__" : Str)) = false) : PE X (.Name x pos) (tX S C E (.var i)) := by
  refine pe_mono (pe_var hN hv hd hcd) fun σ H Q ⟨r, n, m, k1, k2, g⟩ => ?_
  rw [evX] at g
  cases e : n[i]? with
  | none => rw [e] at g; exact (show False from g).elim
  | some o =>
    cases o with
    | none => rw [e] at g; exact (show False from g).elim
    | some v =>
      rw [e] at g
      obtain ⟨y, h1, h2⟩ := k1.get i v e
      exact ⟨y, h1, GE.hereX (E := E) (m := m) g k2 h2⟩
theorem pe_intE {i : Int} {j : Nat} {pos : Pos} : PE X (.Constant (.int i) j pos) (tX S C E (.cst (.int i))) :=
  pe_mono pe_int fun σ H Q ⟨r, n, m, k1, k2, g⟩ => GE.hereX (E := E) (m := m) (v := .int i) (by rw [evX] at g; exact g) k2 (.int _)
theorem pe_blE {i : Bool} {j : Nat} {pos : Pos} : PE X (.Constant (.bool i) j pos) (tX S C E (.cst (.bl i))) :=
  pe_mono pe_bl fun σ H Q ⟨r, n, m, k1, k2, g⟩ => GE.hereX (E := E) (m := m) (v := .bl i) (by rw [evX] at g; exact g) k2 (.bl _)
theorem pe_nonE {j : Nat} {pos : Pos} : PE X (.Constant .none j pos) (tX S C E (.cst .non)) :=
  pe_mono pe_non fun σ H Q ⟨r, n, m, k1, k2, g⟩ => GE.hereX (E := E) (m := m) (v := .non) (by rw [evX] at g; exact g) k2 .non
theorem pe_strE {i : Str} {j : Nat} {pos : Pos} : PE X (.Constant (.str i) j pos) (tX S C E (.cst (.str i))) :=
  pe_mono pe_str fun σ H Q ⟨r, n, m, k1, k2, g⟩ => GE.hereX (E := E) (m := m) (v := .str i) (by rw [evX] at g; exact g) k2 (.str _)
/-- a global that holds a written tree -/
theorem pe_glbE {g : Nat} {x : Str} {y : V} {u : Value} {v : PV} {pos : Pos} (hg : Gl X x) (hm : X.mg x = some u) (ry : RelV y u) (hp : S.P.glob g = some v) (hv : ∀ r H, RV S.K r H v y) (hd : (x == ("__debug__" : Str)) = false) : PE X (.Name x pos) (tX S C E (.glb g)) := by
  refine pe_mono (pe_glob hg hm ry hd) fun σ H Q ⟨r, n, m, k1, k2, g1⟩ => ?_
  rw [evX, hp] at g1
  exact GE.hereX (E := E) (m := m) g1 k2 (hv r H)
theorem pe_binE {a b : Expr} {x y : Ex} {op : Bop} {pos : Pos} (hK : X.K = S.K) (ha : PE X a (tX S C E x)) (hb : PE X b (tX S C E y)) : PE X (.BinOp a (opOf op) b pos) (tX S C E (.bin op x y)) :=
  pe_mono (pe_op (op_bin (E := E) hK op) (pe_val ha) (pe_val hb)) fun σ H Q h => t_two (f := binV op) (fun e m => by rw [evX]) h
theorem t_cmp {x y : Ex} {op : Cop} {σ : L2.St} {H : Hp} {Q : VK} (h : tX S C E (.cmp op x y) σ H Q) : tOp (rOp2 S E fun v w m => ofB (cmpV op v w m) m) (tV S C E x) (tV S C E y) σ H Q := t_two (f := fun v w m => ofB (cmpV op v w m) m) (fun e m => by rw [evX]) h
theorem pe_cmpE {a b : Expr} {x y : Ex} {op : Cop} {pos : Pos} (hK : X.K = S.K) (hw0 : X.w = S.w) (hu : X.A.units + 65 < cLine) (hm : behindInMarks (copOf op) b = false) (ha : PE X a (tX S C E x)) (hb : PE X b (tX S C E y)) : PE X (.Compare a [copOf op] [b] pos) (tX S C E (.cmp op x y)) :=
  pe_mono (pe_cmpR (op_cmp (E := E) hK hw0 hu op) (pe_val ha) (pe_val hb) hm) fun σ H Q h => t_cmp h
/-- the reading of a test from that of a value -/
theorem tB2_tX {a : Ex} {σ : L2.St} {H : Hp} {Q : Bool → Hp → Prop} (h : tB2 S C E a σ H Q) : tX S C E a σ H fun x H1 => ∃ c, x = .bl c ∧ Q c H1 := by
  refine tV_tX ?_
  obtain ⟨r, n, m, k1, k2, g⟩ := h
  refine ⟨r, n, m, k1, k2, ?_⟩
  unfold asB at g
  refine g.bind fun v m1 r1 H1 y _ e1 k3 q g1 => ?_
  cases v with
  | bl c =>
    cases RV.bl_inv q
    exact ⟨c, rfl, g1 r1 H1 _ (Ext.refl _ _) k3 rfl⟩
  | _ => exact (show False from g1).elim
theorem pt_valE {e : Expr} {a : Ex} (he : ∀ whole, isTrue e X.env whole = (do let v ← whole; standAt e.pos; holding [v] (truthy v))) (h : PE X e (tX S C E a)) : PT X e (tB2 S C E a) :=
  pt_mono (pt_val h he) fun σ H Q h => tB2_tX h
theorem pt_cmpE {a b : Expr} {x y : Ex} {op : Cop} {pos : Pos} (hK : X.K = S.K) (hw0 : X.w = S.w) (hu : X.A.units + 65 < cLine) (hm : behindInMarks (copOf op) b = false) (ha : PE X a (tX S C E x)) (hb : PE X b (tX S C E y)) : PT X (.Compare a [copOf op] [b] pos) (tB2 S C E (.cmp op x y)) :=
  pt_mono (pt_cmpR (op_cmp (E := E) hK hw0 hu op) (pe_val ha) (pe_val hb) hm) fun σ H Q h => t_cmp (tB2_tX h)
theorem t_chn {x y z : Ex} {o1 o2 : Cop} {σ : L2.St} {H : Hp} {Q : VK} (h : tX S C E (.chn o1 o2 x y z) σ H Q) :
    tChain (rOp2 S E fun v w m => ofB (cmpV o1 v w m) m) (rOp2 S E fun v w m => ofB (cmpV o2 v w m) m) (tV S C E x) (tV S C E y) (tV S C E z) σ H Q := by
  obtain ⟨r, n, m, k1, k2, g⟩ := h
  rw [evX] at g
  refine ⟨r, n, m, k1, k2, g.bind fun v m1 r1 H1 u _ e1 k3 q1 g1 => ⟨r1, n, m1, k1.ext e1, k3, g1.bind fun w m2 r2 H2 u2 _ e2 k4 q2 g2 => ?_⟩⟩
  refine ⟨r2, m2, v, w, k4, RV.ext e2 q1, q2, ?_⟩
  cases e : cmpV o1 v w m2 with
  | none => rw [e] at g2; exact (show False from g2).elim
  | some t =>
    rw [e] at g2
    show GE S (Rv S) r2 H2 _ E (ofB (cmpV o1 v w m2) m2)
    rw [e]
    show GE S (Rv S) r2 H2 _ E (.ok (.bl t) m2)
    intro r3 H3 b e3 k5 q3
    cases RV.bl_inv q3
    refine ⟨t, rfl, ?_⟩
    have g2 := GE.ext anti_x g2 e3
    cases t with
    | false =>
      rw [if_neg Bool.false_ne_true]
      exact GE.hereX (E := E) (m := m2) g2 k5 (.bl _)
    | true =>
      rw [if_pos rfl]
      refine ⟨r3, n, m2, ((k1.ext e1).ext e2).ext e3, k5, GE.bind (k := fun u m => (ofB (cmpV o2 w u m) m).bind fun u m => .ok (XV.val u) m) g2 fun s m3 r4 H4 u4 _ e4 k6 q4 g4 => ?_⟩
      exact ⟨r4, m3, w, s, k6, RV.ext e4 (RV.ext e3 q2), q4, gx_val g4⟩
theorem pe_chnE {a b c : Expr} {x y z : Ex} {o1 o2 : Cop} {pos : Pos} (hK : X.K = S.K) (hw0 : X.w = S.w) (hu : X.A.units + 65 < cLine) (hm : lastMarks [copOf o1, copOf o2] [b, c] = false) (ha : PE X a (tX S C E x)) (hb : PE X b (tX S C E y)) (hc : PE X c (tX S C E z)) : PE X (.Compare a [copOf o1, copOf o2] [b, c] pos) (tX S C E (.chn o1 o2 x y z)) :=
  pe_mono (pe_chain (op_cmp (E := E) hK hw0 hu o1) (op_cmp (E := E) hK hw0 hu o2) (pe_val ha) (pe_val hb) (pe_val hc) hm) fun σ H Q h => t_chn h
theorem pt_chnE {a b c : Expr} {x y z : Ex} {o1 o2 : Cop} {pos : Pos} (hK : X.K = S.K) (hw0 : X.w = S.w) (hu : X.A.units + 65 < cLine) (hm : lastMarks [copOf o1, copOf o2] [b, c] = false) (ha : PE X a (tX S C E x)) (hb : PE X b (tX S C E y)) (hc : PE X c (tX S C E z)) : PT X (.Compare a [copOf o1, copOf o2] [b, c] pos) (tB2 S C E (.chn o1 o2 x y z)) :=
  pt_mono (pt_chain (op_cmp (E := E) hK hw0 hu o1) (op_cmp (E := E) hK hw0 hu o2) (pe_val ha) (pe_val hb) (pe_val hc) hm) fun σ H Q h => t_chn (tB2_tX h)
theorem as_b {r : List Addr} {H : Hp} {α β : Type} {R2 : Rel α β} {Q2 : β → Hp → Prop} {x : Res PV} {k : Bool → MH → Res α} (an : Anti R2) (g : GE S R2 r H Q2 E ((asB x).bind k)) :
    GE S (Rv S) r H (fun y H1 => ∃ c, y = .bl c ∧ ∃ r1 m1, Ext r r1 H H1 ∧ RH S r1 m1 H1 ∧ GE S R2 r1 H1 Q2 E (k c m1)) E x := by
  cases x with
  | ok v m =>
    intro r1 H1 y e1 k3 q
    cases v with
    | bl c =>
      cases RV.bl_inv q
      exact ⟨c, rfl, r1, m, e1, k3, GE.ext an g e1⟩
    | _ => exact (show False from g).elim
  | exc c v m => exact g
  | stuck => exact g
theorem as_t {r : List Addr} {H : Hp} {α β : Type} {R2 : Rel α β} {Q2 : β → Hp → Prop} {x : Res PV} {k : Bool → MH → Res α} (an : Anti R2) (g : GE S R2 r H Q2 E ((asB x).bind k)) :
    GE S Rb r H (fun c H1 => ∃ r1 m1, Ext r r1 H H1 ∧ RH S r1 m1 H1 ∧ GE S R2 r1 H1 Q2 E (k c m1)) E (asB x) := by
  generalize asB x = z at g ⊢
  cases z with
  | ok b m =>
    intro r1 H1 c e1 k3 q
    cases q
    exact ⟨r1, m, e1, k3, GE.ext an g e1⟩
  | exc c v m => exact g
  | stuck => exact g
theorem pe_andE {a b : Expr} {rest : List Expr} {x y : Ex} {pos : Pos} (ha : PE X a (tX S C E x)) (hb : PE X (.BoolOp .And (b :: rest) pos) (tX S C E y)) : PE X (.BoolOp .And (a :: b :: rest) pos) (tX S C E (.and x y)) := by
  refine pe_mono (pe_and (pe_val ha) hb) fun σ H Q ⟨r, n, m, k1, k2, g⟩ => ?_
  rw [evX] at g
  refine ⟨r, n, m, k1, k2, (as_b anti_x g).imp fun u H1 ⟨c, e, r1, m1, e1, k3, g1⟩ => ⟨c, e, ?_⟩⟩
  cases c with
  | true =>
    rw [if_pos rfl] at g1 ⊢
    exact ⟨r1, n, m1, k1.ext e1, k3, g1⟩
  | false =>
    rw [if_neg Bool.false_ne_true] at g1 ⊢
    exact GE.hereX (E := E) (m := m1) g1 k3 (.bl _)
theorem pe_orE {a b : Expr} {rest : List Expr} {x y : Ex} {pos : Pos} (ha : PE X a (tX S C E x)) (hb : PE X (.BoolOp .Or (b :: rest) pos) (tX S C E y)) : PE X (.BoolOp .Or (a :: b :: rest) pos) (tX S C E (.or x y)) := by
  refine pe_mono (pe_or (pe_val ha) hb) fun σ H Q ⟨r, n, m, k1, k2, g⟩ => ?_
  rw [evX] at g
  refine ⟨r, n, m, k1, k2, (as_b anti_x g).imp fun u H1 ⟨c, e, r1, m1, e1, k3, g1⟩ => ⟨c, e, ?_⟩⟩
  cases c with
  | true =>
    rw [if_pos rfl] at g1 ⊢
    exact GE.hereX (E := E) (m := m1) g1 k3 (.bl _)
  | false =>
    rw [if_neg Bool.false_ne_true] at g1 ⊢
    exact ⟨r1, n, m1, k1.ext e1, k3, g1⟩
theorem pe_notE {a : Expr} {x : Ex} {pos : Pos} (ha : PE X a (tX S C E x)) : PE X (.UnaryOp .Not a pos) (tX S C E (.not x)) := by
  refine pe_mono (pe_not (pe_val ha)) fun σ H Q ⟨r, n, m, k1, k2, g⟩ => ?_
  rw [evX] at g
  exact ⟨r, n, m, k1, k2, (as_b anti_x g).imp fun u H1 ⟨c, e, r1, m1, e1, k3, g1⟩ => ⟨c, e, GE.hereX (E := E) (m := m1) g1 k3 (.bl _)⟩⟩
theorem pe_iteE {c a b : Expr} {z x y : Ex} {pos : Pos} (hc : PT X c (tB2 S C E z)) (ha : PE X a (tX S C E x)) (hb : PE X b (tX S C E y)) : PE X (.IfExp c a b pos) (tX S C E (.ife z x y)) := by
  refine pe_mono (pe_ifExp hc ha hb) fun σ H Q ⟨r, n, m, k1, k2, g⟩ => ?_
  rw [evX] at g
  refine ⟨r, n, m, k1, k2, (as_t anti_x g).imp fun t H1 ⟨r1, m1, e1, k3, g1⟩ => ?_⟩
  cases t with
  | true =>
    rw [if_pos rfl] at g1 ⊢
    exact ⟨r1, n, m1, k1.ext e1, k3, g1⟩
  | false =>
    rw [if_neg Bool.false_ne_true] at g1 ⊢
    exact ⟨r1, n, m1, k1.ext e1, k3, g1⟩
/-- a test's test -/
theorem as_bb {r : List Addr} {H : Hp} {Q2 : Bool → Hp → Prop} {x : Res PV} {k : Bool → MH → Res XV} (g : GE S Rb r H Q2 E (asB (((asB x).bind k).bind toV))) :
    GE S Rb r H (fun c H1 => ∃ r1 m1, Ext r r1 H H1 ∧ RH S r1 m1 H1 ∧ GE S Rb r1 H1 Q2 E (asB ((k c m1).bind toV))) E (asB x) := by
  generalize asB x = z at g ⊢
  cases z with
  | ok b m =>
    intro r1 H1 c e1 k3 q
    cases q
    exact ⟨r1, m, e1, k3, GE.ext anti_b g e1⟩
  | exc c v m => exact g
  | stuck => exact g
theorem pw_andE {a b : Expr} {rest : List Expr} {x y : Ex} {pos : Pos} (ha : PT X a (tB2 S C E x)) (hb : PW X (.BoolOp .And (b :: rest) pos) (tB2 S C E y)) : PW X (.BoolOp .And (a :: b :: rest) pos) (tB2 S C E (.and x y)) := by
  refine ⟨fun wh pins s σ H Q I ⟨r, n, m, k1, k2, g⟩ => (pw_and ha hb).run wh pins s σ H Q I ?_⟩
  rw [evX] at g
  refine ⟨r, n, m, k1, k2, (as_bb g).imp fun t H1 ⟨r1, m1, e1, k3, g1⟩ => ?_⟩
  cases t with
  | true =>
    rw [if_pos rfl] at g1 ⊢
    exact ⟨r1, n, m1, k1.ext e1, k3, g1⟩
  | false =>
    rw [if_neg Bool.false_ne_true] at g1 ⊢
    exact g1 r1 H1 false (Ext.refl _ _) k3 rfl
theorem pw_orE {a b : Expr} {rest : List Expr} {x y : Ex} {pos : Pos} (ha : PT X a (tB2 S C E x)) (hb : PW X (.BoolOp .Or (b :: rest) pos) (tB2 S C E y)) : PW X (.BoolOp .Or (a :: b :: rest) pos) (tB2 S C E (.or x y)) := by
  refine ⟨fun wh pins s σ H Q I ⟨r, n, m, k1, k2, g⟩ => (pw_or ha hb).run wh pins s σ H Q I ?_⟩
  rw [evX] at g
  refine ⟨r, n, m, k1, k2, (as_bb g).imp fun t H1 ⟨r1, m1, e1, k3, g1⟩ => ?_⟩
  cases t with
  | true =>
    rw [if_pos rfl] at g1 ⊢
    exact g1 r1 H1 true (Ext.refl _ _) k3 rfl
  | false =>
    rw [if_neg Bool.false_ne_true] at g1 ⊢
    exact ⟨r1, n, m1, k1.ext e1, k3, g1⟩
theorem pt_notE {a : Expr} {x : Ex} {pos : Pos} (ha : PT X a (tB2 S C E x)) : PT X (.UnaryOp .Not a pos) (tB2 S C E (.not x)) := by
  refine pt_mono (pt_not ha) fun σ H Q ⟨r, n, m, k1, k2, g⟩ => ?_
  rw [evX] at g
  exact ⟨r, n, m, k1, k2, (as_bb g).imp fun t H1 ⟨r1, m1, e1, k3, g1⟩ => g1 r1 H1 _ (Ext.refl _ _) k3 rfl⟩
theorem pe_idxE {a b : Expr} {x y : Ex} {pos : Pos} (hK : X.K = S.K) (hw0 : X.w = S.w) (hu : X.A.units + 65 < cLine) (hs : PlainIx b) (ha : PE X a (tX S C E x)) (hb : PE X b (tX S C E y)) : PE X (.Subscript a b pos) (tX S C E (.idx x y)) :=
  pe_mono (pe_ix (ix_any (E := E) hK hw0 hu) (pe_val ha) (pe_val hb) hs) fun σ H Q h => t_two (f := fun v w m => ofO (idxV v w m) m) (fun e m => by rw [evX]) h
theorem pe_negE {a : Expr} {x : Ex} {pos : Pos} (ha : PE X a (tX S C E x)) : PE X (.UnaryOp .USub a pos) (tX S C E (.neg x)) := by
  refine pe_mono (pe_un un_neg (pe_val ha)) fun σ H Q ⟨r, n, m, k1, k2, g⟩ => ?_
  rw [evX] at g
  refine ⟨r, n, m, k1, k2, g.bind fun v m1 r1 H1 y _ e1 k3 q g1 => ?_⟩
  cases v with
  | int i =>
    cases RV.int_inv q
    exact ⟨i, rfl, GE.hereX (E := E) (m := m1) g1 k3 (.int _)⟩
  | _ => exact (show False from g1).elim
end
end Mi
end

section
set_option autoImplicit false
set_option Elab.async false
set_option linter.all false
set_option maxRecDepth 100000
set_option maxHeartbeats 1000000
namespace Mi
open PySem PySem.Spec PyProof.Rows L2
section
variable {prog : Program} {w : World} {A : Around}
/-- what a tuple's iterator draws -/
theorem draws_tup (hh : A.handled = none) (it t : Addr) (hne : t ≠ it) (us : Array Value) : Draws prog w A it [it, t] us.size (fun i v => us[i]? = some v) (fun i h => h.IsTupleIter it t i ∧ h.IsTuple t us) where
  live := fun i h st => by
    obtain ⟨⟨o, ho, _⟩, _⟩ := st
    exact ⟨o, ho⟩
  frame := fun i h h' st hk => ⟨st.1.at fun o e => hk it (by simp) o e, st.2.at fun o e => hk t (by simp) o e⟩
  item := fun i s Q E hi st hQ => RZ.nextOf_tuple_item st.1 st.2 (x := us[i]) (by simp [hi]) fun h' h1 h2 => hQ us[i] h' s.toks (by simp [hi]) ⟨h1, st.2.extBut h2.extBut hne⟩ h2
  done := fun s Q E st hE => RZ.nextOf_tuple_end hh st.1 st.2 (by simp) hE
theorem draws_end (hh : A.handled = none) (it t : Addr) (us : Array Value) (i : Nat) (hi : us[i]? = none) : Draws prog w A it [it, t] i (fun _ _ => True) (fun j h => j = i ∧ h.IsTupleIter it t i ∧ h.IsTuple t us) where
  live := fun j h st => by
    obtain ⟨_, ⟨o, ho, _⟩, _⟩ := st
    exact ⟨o, ho⟩
  frame := fun j h h' st hk => ⟨st.1, st.2.1.at fun o e => hk it (by simp) o e, st.2.2.at fun o e => hk t (by simp) o e⟩
  item := fun j s Q E hj st hQ => absurd st.1 (Nat.ne_of_lt hj)
  done := fun s Q E st hE => RZ.nextOf_tuple_end hh st.2.1 st.2.2 hi hE
theorem drawl_end (hh : A.handled = none) (it t : Addr) (us : Array Value) (i : Nat) (hi : us[i]? = none) : Draws prog w A it [it, t] i (fun _ _ => True) (fun j h => j = i ∧ h.IsListIter it t i ∧ h.IsList t us) where
  live := fun j h st => by
    obtain ⟨_, ⟨o, ho, _⟩, _⟩ := st
    exact ⟨o, ho⟩
  frame := fun j h h' st hk => ⟨st.1, st.2.1.at fun o e => hk it (by simp) o e, st.2.2.at fun o e => hk t (by simp) o e⟩
  item := fun j s Q E hj st hQ => absurd st.1 (Nat.ne_of_lt hj)
  done := fun s Q E st hE => wpAny_nextOf_list_end hh st.2.1 st.2.2 hi hE
end
/-- the tuple at a and the list at b as they stand at each turn, the items in new pairs -/
def ItzM (K : PySem.W.Frag) (a b : Addr) : It :=
  ⟨fun i H => ∃ (xs ys : List V) (x y : V), SqT K H a xs ∧ SqL K H b ys ∧ xs[i]? = some x ∧ ys[i]? = some y,
    fun i H v H' => ∃ T x y, v = .ref T ∧ H T = none ∧ H' = upd H T (.tup [x, y]) ∧ (∀ xs, SqT K H a xs → xs[i]? = some x) ∧ ∀ ys, SqL K H b ys → ys[i]? = some y,
    fun i H => ∃ xs ys : List V, SqT K H a xs ∧ SqL K H b ys ∧ (xs.length ≤ i ∨ ys.length ≤ i)⟩
theorem turn_zipM {P : Program} {w : World} {K : PySem.W.Frag} {elts : List Expr} {kk : Nat} {tpos : Pos} {a b z TI TO i1 i2 : Addr} (D : ZipSep2 z TI TO i1 i2 [i1, a] [i2, b]) :
    Turn P w K (.Tuple elts kk tpos) (ItzM K a b) [z, TI, TO, i1, i2] z (fun i h => IsZip h z TI TO .none ∧ IsTupOf2 h TI (.ref i1) (.ref i2) ∧ (∃ x y, IsTupOf2 h TO x y) ∧ h.IsTupleIter i1 a i ∧ h.IsListIter i2 b i) where
  mem := by simp
  obj := fun i h st c hc => by
    obtain ⟨hz, hTI, ⟨x, y, hTO⟩, ⟨o1, e1, _, d1⟩, ⟨o2, e2, _, d2⟩⟩ := st
    have e' : c = z ∨ c = TI ∨ c = TO ∨ c = i1 ∨ c = i2 := by simpa using hc
    rcases e' with q | q | q | q | q
    · rw [q]; exact ⟨_, hz, fun v q => nomatch q⟩
    · rw [q]; exact ⟨_, hTI, fun v q => nomatch q⟩
    · rw [q]; exact ⟨_, hTO, fun v q => nomatch q⟩
    · rw [q]; exact ⟨o1, e1, fun v q => by rw [d1] at q; cases q⟩
    · rw [q]; exact ⟨o2, e2, fun v q => by rw [d2] at q; cases q⟩
  keep := fun i h h' st k => by
    obtain ⟨hz, hTI, ⟨x, y, hTO⟩, h1, h2⟩ := st
    exact ⟨k z (by simp) _ hz, k TI (by simp) _ hTI, ⟨x, y, k TO (by simp) _ hTO⟩, h1.at fun o q => k i1 (by simp) o q, h2.at fun o q => k i2 (by simp) o q⟩
  item := by
    intro X hP hw hK hc i pins s σ H E I hf st hg
    subst hP hw hK
    obtain ⟨hz, hTI, ⟨x0, y0, hTO⟩, h1, h2⟩ := st
    obtain ⟨xs, ys, x, y, hqx, hqy, hx, hy⟩ := hg
    obtain ⟨its, rv, p, _⟩ := I.tuple hqx
    obtain ⟨its2, rv2, p2, _⟩ := I.list hqy
    obtain ⟨u, hu, ru⟩ := rv.get hx
    obtain ⟨u2, hu2, ru2⟩ := rv2.get hy
    have hzl : z < s.heap.objs.size := Heap.lt_size hz
    have n1 : a ≠ i1 := fun e => by
      subst e
      obtain ⟨o, ho, hc, _⟩ := h1
      obtain ⟨o2, ho2, hc2, _⟩ := p
      rw [ho] at ho2
      cases ho2
      rw [hc] at hc2
      injection hc2 with hc2
      exact absurd hc2 (by decide)
    have n2 : b ≠ i2 := fun e => by
      subst e
      obtain ⟨o, ho, hc, _⟩ := h2
      obtain ⟨o2, ho2, hc2, _⟩ := p2.isList
      rw [ho] at ho2
      cases ho2
      rw [hc] at hc2
      injection hc2 with hc2
      exact absurd hc2 (by decide)
    refine wpAny_pyNext_zipD2_item (A := X.A) D (draws_tup (show X.A.in1.handled = none from I.ok.hd hc) i1 a n1 its.toArray) (Draws.list (show X.A.in1.handled = none from I.ok.hd hc) i2 b n2 its2.toArray) hz hTI hTO (i := i) ⟨h1, p⟩ ⟨h2, p2.isList⟩
      (by simpa using (List.getElem?_eq_some_iff.mp hu).1) (by simpa using (List.getElem?_eq_some_iff.mp hu2).1) fun v1 v2 h' tk g1 g2 z' TO' h1' h2' hT hsz hk => ?_
    have ev1 : v1 = u := by
      have q : its.toArray[i]? = some u := by simpa using hu
      rw [g1] at q
      exact Option.some.inj q
    have ev2 : v2 = u2 := by
      have q : its2.toArray[i]? = some u2 := by simpa using hu2
      rw [g2] at q
      exact Option.some.inj q
    subst ev1 ev2
    refine ⟨_, rfl, wpAny_letOwnedTupleGo_zip (s := { s with heap := h', toks := tk }) z' fun h'' z'' sb => ?_⟩
    have hT2 : h''.get? s.heap.objs.size = some { cls := .type "tuple", data := .seq #[v1, v2] } := (sb.2 _ (Nat.ne_of_gt hzl)).trans hT
    have new : ObjOk X.prog X.w (upd H s.heap.objs.size (.tup [x, y])) h'' s.heap.objs.size (.tup [x, y]) :=
      ⟨by show 2 ≤ sizeLine; decide, [v1, v2], .cons ru (.cons ru2 .nil), ⟨_, hT2, rfl, _, rfl⟩⟩
    have I1 : Inv X pins σ (upd H s.heap.objs.size (.tup [x, y])) { s with heap := h'', toks := tk } :=
      I.turnedNew (t' := tk) (ch := [z, TI, TO, i1, i2]) (fun c o hb q => (sb.2 c (fun q' => hb (by simp [q']))).trans (hk c o (fun q' => hb (by simp [q'])) (fun q' => hb (by simp [q'])) (fun q' => hb (by simp [q'])) (fun q' => hb (by simp [q'])) q)) hf (Nat.le_refl _) new
    refine ⟨.ref s.heap.objs.size, _, I1, rfl, ⟨_, x, y, rfl, I.hok.fresh (Nat.le_refl _), rfl, fun l hl => by rw [I.tuple_inj hl hqx]; exact hx, fun l hl => by rw [I.list_inj hl hqy]; exact hy⟩, ⟨z'', ?_, ⟨v1, v2, ?_⟩, ?_, ?_⟩, fun c hcm => ?_⟩
    · exact (sb.2 _ D.TIz).trans (hk _ _ D.TIz D.TITO D.TIi1 D.TIi2 hTI)
    · exact (sb.2 _ D.TOz).trans TO'
    · exact h1'.1.at fun o q => (sb.2 _ (Ne.symm D.zi1)).trans q
    · exact h2'.1.at fun o q => (sb.2 _ (Ne.symm D.zi2)).trans q
    · have hlt : c < s.heap.objs.size := by
        have e' : c = z ∨ c = TI ∨ c = TO ∨ c = i1 ∨ c = i2 := by simpa using hcm
        rcases e' with q | q | q | q | q
        · rw [q]; exact hzl
        · rw [q]; exact Heap.lt_size hTI
        · rw [q]; exact Heap.lt_size hTO
        · rw [q]; obtain ⟨_, e1, _⟩ := h1; exact Heap.lt_size e1
        · rw [q]; obtain ⟨_, e2, _⟩ := h2; exact Heap.lt_size e2
      rw [upd_ne (Nat.ne_of_lt hlt)]
      exact (hf c hcm).1
  done := by
    intro X hP hw hK hc i pins s σ H E I hf st hg
    subst hP hw hK
    obtain ⟨hz, hTI, ⟨x0, y0, hTO⟩, h1, h2⟩ := st
    obtain ⟨xs, ys, hqx, hqy, hend⟩ := hg
    obtain ⟨its, rv, p, _⟩ := I.tuple hqx
    obtain ⟨its2, rv2, p2, _⟩ := I.list hqy
    have l1 := rv.length
    have l2 := rv2.length
    have hh : X.A.in1.handled = none := I.ok.hd hc
    have n1 : a ≠ i1 := fun e => by
      subst e
      obtain ⟨o, ho, hc, _⟩ := h1
      obtain ⟨o2, ho2, hc2, _⟩ := p
      rw [ho] at ho2
      cases ho2
      rw [hc] at hc2
      injection hc2 with hc2
      exact absurd hc2 (by decide)
    have n2 : b ≠ i2 := fun e => by
      subst e
      obtain ⟨o, ho, hc, _⟩ := h2
      obtain ⟨o2, ho2, hc2, _⟩ := p2.isList
      rw [ho] at ho2
      cases ho2
      rw [hc] at hc2
      injection hc2 with hc2
      exact absurd hc2 (by decide)
    have fin : ∀ (h' : Heap) (tk : Nat), (∀ c o, c ≠ z → c ≠ TO → c ≠ i1 → c ≠ i2 → s.heap.get? c = some o → h'.get? c = some o) → Inv X pins σ H { s with heap := h', toks := tk } := fun h' tk hk =>
      I.turnedL (t' := tk) (ch := [z, TI, TO, i1, i2]) (fun c o hb q => hk c o (fun q' => hb (by simp [q'])) (fun q' => hb (by simp [q'])) (fun q' => hb (by simp [q'])) (fun q' => hb (by simp [q'])) q) hf
    by_cases c1 : its.length ≤ i
    · have d1 := draws_end (prog := X.prog) (w := X.w) hh i1 a its.toArray i (by simpa using c1)
      by_cases c2 : its2.length ≤ i
      · exact wpAny_pyNext_zipD2_end (A := X.A) D d1 (drawl_end hh i2 b its2.toArray i (by simpa using c2)) hz hTI hTO (i := i) ⟨rfl, h1, p⟩ ⟨rfl, h2, p2.isList⟩ (Nat.le_refl _) (Nat.le_refl _) (.inl rfl) fun h' tk hk => ⟨rfl, fin h' tk hk⟩
      · exact wpAny_pyNext_zipD2_end (A := X.A) D d1 (Draws.list hh i2 b n2 its2.toArray) hz hTI hTO (i := i) ⟨rfl, h1, p⟩ ⟨h2, p2.isList⟩ (Nat.le_refl _) (by simp; omega) (.inl rfl) fun h' tk hk => ⟨rfl, fin h' tk hk⟩
    · have c2 : its2.length ≤ i := by omega
      exact wpAny_pyNext_zipD2_end (A := X.A) D (draws_tup hh i1 a n1 its.toArray) (drawl_end hh i2 b its2.toArray i (by simpa using c2)) hz hTI hTO (i := i) ⟨h1, p⟩ ⟨rfl, h2, p2.isList⟩ (by simp; omega) (Nat.le_refl _) (.inr rfl) fun h' tk hk => ⟨rfl, fin h' tk hk⟩
  self := fun A i s Q E st h => wpAny_pyIter_zip st.1 h
def iZipB (K : PySem.W.Frag) (ta : TA) : TI := fun σ H R => ta σ H fun vs H1 => ∃ a b xs ys, vs = [.ref a, .ref b] ∧ ((SqL K H1 a xs ∧ SqL K H1 b ys ∧ R (Itz K a b) H1) ∨ (SqT K H1 a xs ∧ SqT K H1 b ys ∧ R (RZ.ItzT K a b) H1) ∨ (SqT K H1 a xs ∧ SqL K H1 b ys ∧ R (ItzM K a b) H1))
theorem pi_zipB {X : Cx} {e e2 : Expr} {ta : TA} {p pos tpos : Pos} {elts : List Expr} {kk : Nat} (hg : Gl X "zip") (hm : X.mg "zip" = none) (ha : PA X [e, e2] ta)
    (hs : starEach [e, e2] X.env = (false, eval e X.env) :: starEach [e2] X.env := by rfl) (hpl : (backTo pos (starEach [e2] X.env)).any (·.1) = false := by rfl) :
    PI X (.Tuple elts kk tpos) (.Call (.Name "zip" p) [e, e2] [] pos) (iZipB X.K ta) := by
  refine ⟨fun pins s σ H R I h => ?_⟩
  refine Call_ (ld_blt I hg hm PyProof.Rows.boot_zip (PyProof.Rows.callWith_type1 (thn (ha.run pos pins s σ H _ I h) fun us s1 ⟨vs, H1, I1, r1, q1⟩ => ?_) hs hpl))
  obtain ⟨a, b, xs, ys, ex, q1⟩ := q1
  subst ex
  cases r1 with
  | cons r rr =>
    cases rr with
    | cons r' rr =>
      cases rr
      cases r
      cases r'
      have fresh5 : ∀ c, c ∈ [s1.heap.objs.size + 4, s1.heap.objs.size + 2, s1.heap.objs.size + 3, s1.heap.objs.size, s1.heap.objs.size + 1] → FpOk X pins H1 c := fun c hcm => by
        have e' : c = s1.heap.objs.size + 4 ∨ c = s1.heap.objs.size + 2 ∨ c = s1.heap.objs.size + 3 ∨ c = s1.heap.objs.size ∨ c = s1.heap.objs.size + 1 := by simpa using hcm
        have hle : s1.heap.objs.size ≤ c := by
          rcases e' with z | z | z | z | z
          · rw [z]; exact Nat.le_add_right _ _
          · rw [z]; exact Nat.le_add_right _ _
          · rw [z]; exact Nat.le_add_right _ _
          · rw [z]; exact Nat.le_refl _
          · rw [z]; exact Nat.le_add_right _ _
        exact I1.fpOk hle (I1.hok.fresh hle)
      rcases q1 with ⟨hqx, hqy, q⟩ | ⟨hqx, hqy, q⟩ | ⟨hqx, hqy, q⟩
      · obtain ⟨its, rv, p1, _⟩ := I1.list hqx
        obtain ⟨its2, rv2, p2, _⟩ := I1.list hqy
        refine call_zip_2 p1.isList p2.isList fun h' hz hTI hTO h1 h2 hsz hk => wpAny_pyIter_zip hz ?_
        have I2 : Inv X pins σ H1 { s1 with heap := h' } := I1.kept (t' := s1.toks) hk
        exact ⟨s1.heap.objs.size + 4, [s1.heap.objs.size + 4, s1.heap.objs.size + 2, s1.heap.objs.size + 3, s1.heap.objs.size, s1.heap.objs.size + 1], _, _, H1, rfl, I2, turn_zip (PySem.W.ktu_apart s1.heap.objs.size a b p1.lt p2.lt), ⟨hz, hTI, ⟨_, _, hTO⟩, h1, h2⟩, fresh5, q⟩
      · obtain ⟨its, rv, p1, _⟩ := I1.tuple hqx
        obtain ⟨its2, rv2, p2, _⟩ := I1.tuple hqy
        obtain ⟨o1, ho1, _⟩ := id p1
        obtain ⟨o2, ho2, _⟩ := id p2
        refine RZ.call_zipT (show s1.heap.IsTuple a its.toArray from p1) (show s1.heap.IsTuple b its2.toArray from p2) fun h' hz hTI hTO h1 h2 hsz hk => wpAny_pyIter_zip hz ?_
        have I2 : Inv X pins σ H1 { s1 with heap := h' } := I1.kept (t' := s1.toks) hk
        exact ⟨s1.heap.objs.size + 4, [s1.heap.objs.size + 4, s1.heap.objs.size + 2, s1.heap.objs.size + 3, s1.heap.objs.size, s1.heap.objs.size + 1], _, _, H1, rfl, I2, RZ.turn_zipT (PySem.W.ktu_apart s1.heap.objs.size a b (Heap.lt_size ho1) (Heap.lt_size ho2)), ⟨hz, hTI, ⟨_, _, hTO⟩, h1, h2⟩, fresh5, q⟩
      · obtain ⟨its, rv, p1, _⟩ := I1.tuple hqx
        obtain ⟨its2, rv2, p2, _⟩ := I1.list hqy
        obtain ⟨o1, ho1, _⟩ := id p1
        have la := Heap.lt_size ho1
        have lb := p2.lt
        refine zip_begins2 (begins_tuple a its.toArray) (begins_list b its2.toArray) (show s1.heap.IsTuple a its.toArray from p1) p2.isList fun h' hz hTI hTO h1 h2 hsz hk => wpAny_pyIter_zip hz ?_
        have I2 : Inv X pins σ H1 { s1 with heap := h' } := I1.kept (t' := s1.toks) hk
        have D : ZipSep2 (s1.heap.objs.size + 4) (s1.heap.objs.size + 2) (s1.heap.objs.size + 3) s1.heap.objs.size (s1.heap.objs.size + 1) [s1.heap.objs.size, a] [s1.heap.objs.size + 1, b] := by
          have A := PySem.W.ktu_apart s1.heap.objs.size a b la lb
          have na : ∀ n : Nat, s1.heap.objs.size + n ≠ a := fun n => Ne.symm (Nat.ne_of_lt (Nat.lt_of_lt_of_le la (Nat.le_add_right _ _)))
          have nb : ∀ n : Nat, s1.heap.objs.size + n ≠ b := fun n => Ne.symm (Nat.ne_of_lt (Nat.lt_of_lt_of_le lb (Nat.le_add_right _ _)))
          refine ⟨A.TIz, A.TOz, A.TITO, A.TIi1, by simp, ?_, ?_, A.TIi2, by simp, ?_, ?_, ?_, ?_⟩
          · simp only [List.mem_cons, List.not_mem_nil, or_false, not_or]; exact ⟨Ne.symm A.i1z, na 4⟩
          · simp only [List.mem_cons, List.not_mem_nil, or_false, not_or]; exact ⟨A.TOi1, na 3⟩
          · simp only [List.mem_cons, List.not_mem_nil, or_false, not_or]; exact ⟨Ne.symm A.i2z, nb 4⟩
          · simp only [List.mem_cons, List.not_mem_nil, or_false, not_or]; exact ⟨A.TOi2, nb 3⟩
          · simp only [List.mem_cons, List.not_mem_nil, or_false, not_or]; exact ⟨A.i12, nb 0⟩
          · simp only [List.mem_cons, List.not_mem_nil, or_false, not_or]; exact ⟨Ne.symm A.i12, na 1⟩
        exact ⟨s1.heap.objs.size + 4, [s1.heap.objs.size + 4, s1.heap.objs.size + 2, s1.heap.objs.size + 3, s1.heap.objs.size, s1.heap.objs.size + 1], _, _, H1, rfl, I2, turn_zipM D, ⟨hz, hTI, ⟨_, _, hTO⟩, ⟨_, h1, rfl, rfl⟩, ⟨_, h2, rfl, rfl⟩⟩, fresh5, q⟩
end Mi
end

section
set_option autoImplicit false
set_option Elab.async false
set_option linter.all false
set_option maxRecDepth 100000
namespace Mi
open PySem PySem.Spec PyProof.Rows L2
variable {S : Fx}
section
variable {X : Cx} {C : Nat → List PV → MH → Res PV} {E : XK}
/-- what a call of a built-in asks of its place -/
structure Blt (X : Cx) (x : Str) (es : List Expr) : Prop where
  gl : Gl X x
  mg : X.mg x = none
  nm : x ≠ "__name__"
  db : (x == ("__debug__" : Str)) = false
  pl : es.all plainX = true
theorem Blt.head {x : Str} {e : Expr} {es : List Expr} (b : Blt X x (e :: es)) : starEach (e :: es) X.env = (false, eval e X.env) :: starEach es X.env := by
  have h := b.pl
  rw [List.all_cons, Bool.and_eq_true] at h
  exact star_plain h.1 _ _
theorem Blt.tail {x : Str} {e : Expr} {es : List Expr} {pos : Pos} (b : Blt X x (e :: es)) : (backTo pos (starEach es X.env)).any (·.1) = false := by
  have h := b.pl
  rw [List.all_cons, Bool.and_eq_true] at h
  exact no_star h.2
def biName : Bi → Str
  | .len => "len"
  | .abs => "abs"
  | .int => "int"
  | .str => "str"
  | .min2 => "min"
  | .max2 => "max"
theorem pe_biE {b : Bi} {e : Expr} {es : List Expr} {as : List Ex} {p pos : Pos} (hK : X.K = S.K) (hc : X.calm = true) (bl : Blt X (biName b) (e :: es)) (ha : PA X (e :: es) (tVs S C E as)) : PE X (.Call (.Name (biName b) p) (e :: es) [] pos) (tX S C E (.bi b as)) := by
  have key : ∀ {σ H Q}, tX S C E (.bi b as) σ H Q → tCB (rBi S E b) (tVs S C E as) σ H Q := fun {σ H Q} ⟨r, n, m, k1, k2, g⟩ => by
    rw [evX] at g
    exact ⟨r, n, m, k1, k2, g.bind fun vs m1 r1 H1 xs _ e1 k3 q g1 => ⟨r1, m1, vs, k3, q, gx_val g1⟩⟩
  cases b with
  | len => exact pe_mono (pe_callB (call_bi hK hc .len) bl.gl bl.mg rfl ha bl.nm bl.db bl.head bl.tail) fun σ H Q h => key h
  | abs => exact pe_mono (pe_callB (call_bi hK hc .abs) bl.gl bl.mg rfl ha bl.nm bl.db bl.head bl.tail) fun σ H Q h => key h
  | int => exact pe_mono (pe_callTy (call_bi hK hc .int) bl.gl bl.mg rfl ha bl.nm bl.db bl.head bl.tail) fun σ H Q h => key h
  | str => exact pe_mono (pe_callTy (call_bi hK hc .str) bl.gl bl.mg rfl ha bl.nm bl.db bl.head bl.tail) fun σ H Q h => key h
  | min2 => exact pe_mono (pe_callB (call_bi hK hc .min2) bl.gl bl.mg rfl ha bl.nm bl.db bl.head bl.tail) fun σ H Q h => key h
  | max2 => exact pe_mono (pe_callB (call_bi hK hc .max2) bl.gl bl.mg rfl ha bl.nm bl.db bl.head bl.tail) fun σ H Q h => key h
/-- one end as the arguments -/
def tOne (t : TE) : TA := fun σ H Q => t σ H fun x H1 => Q [x] H1
theorem pa_one {e : Expr} {t : TE} (h : PE X e t) (hp : plainX e = true) : PA X [e] (tOne t) := pa_mono (pa_cons h pa_nil (star_plain hp _ _)) fun σ H Q q => q
theorem Blt.one {x : Str} {e : Expr} (b : Blt X x [e]) : plainX e = true := by
  have h := b.pl
  rw [List.all_cons, Bool.and_eq_true] at h
  exact h.1
theorem pe_blE2 {b : Bl} {e : Expr} {a : Ex} {p pos : Pos} (hK : X.K = S.K) (hc : X.calm = true) (nb : b ≠ .lenset) (bl : Blt X (blfn b : String) [e]) (ha : PE X e (tX S C E a)) : PE X (.Call (.Name (blfn b : String) p) [e] [] pos) (tX S C E (.bl b a)) := by
  have key : ∀ {σ H Q}, tX S C E (.bl b a) σ H Q → tCB (rBl S E b) (tOne (tX S C E a)) σ H Q := fun {σ H Q} ⟨r, n, m, k1, k2, g⟩ => by
    rw [evX] at g
    refine ⟨r, n, m, k1, k2, g.bind fun x m1 r1 H1 y _ e1 k3 q g1 => ?_⟩
    obtain ⟨xs, t1, g2⟩ := g1.toLL
    obtain ⟨a, ys, rfl, h1, h2⟩ := listLL (r0 := r1) q (Ext.refl _ _) k3 t1
    exact ⟨r1, m1, xs, a, ys, rfl, k3, h1, h2, gx_val g2⟩
  have ha := pa_one ha bl.one
  cases b with
  | sum => exact pe_mono (pe_callB (call_bl hK hc .sum nb) bl.gl bl.mg rfl ha bl.nm bl.db bl.head bl.tail) fun σ H Q h => key h
  | all => exact pe_mono (pe_callB (call_bl hK hc .all nb) bl.gl bl.mg rfl ha bl.nm bl.db bl.head bl.tail) fun σ H Q h => key h
  | any => exact pe_mono (pe_callB (call_bl hK hc .any nb) bl.gl bl.mg rfl ha bl.nm bl.db bl.head bl.tail) fun σ H Q h => key h
  | min => exact pe_mono (pe_callB (call_bl hK hc .min nb) bl.gl bl.mg rfl ha bl.nm bl.db bl.head bl.tail) fun σ H Q h => key h
  | max => exact pe_mono (pe_callB (call_bl hK hc .max nb) bl.gl bl.mg rfl ha bl.nm bl.db bl.head bl.tail) fun σ H Q h => key h
  | lenset => exact absurd rfl nb
theorem pe_tofE {e : Expr} {a : Ex} {p pos : Pos} (hK : X.K = S.K) (hc : X.calm = true) (bl : Blt X "tuple" [e]) (ha : PE X e (tX S C E a)) : PE X (.Call (.Name "tuple" p) [e] [] pos) (tX S C E (.tof a)) :=
  pe_mono (pe_callTy (call_tof (E := E) hK hc) bl.gl bl.mg rfl (pa_one ha bl.one) bl.nm bl.db bl.head bl.tail) fun σ H Q ⟨r, n, m, k1, k2, g⟩ => by
    rw [evX] at g
    exact ⟨r, n, m, k1, k2, g.bind fun x m1 r1 H1 y _ e1 k3 q g1 => ⟨r1, H, m1, x, y, rfl, k3, q, g1⟩⟩
theorem pe_lofE {e : Expr} {a : Ex} {p pos : Pos} (hK : X.K = S.K) (hc : X.calm = true) (bl : Blt X "list" [e]) (ha : PE X e (tX S C E a)) : PE X (.Call (.Name "list" p) [e] [] pos) (tX S C E (.lof a)) :=
  pe_mono (pe_callTy (call_lof (E := E) hK hc) bl.gl bl.mg rfl (pa_one ha bl.one) bl.nm bl.db bl.head bl.tail) fun σ H Q ⟨r, n, m, k1, k2, g⟩ => by
    rw [evX] at g
    exact ⟨r, n, m, k1, k2, g.bind fun x m1 r1 H1 y _ e1 k3 q g1 => ⟨r1, H, m1, x, y, rfl, k3, q, g1⟩⟩
theorem call_rng1 : CallR X (.type "range") (fun vs H Q => ∃ i, vs = [V.int i] ∧ ∀ p, H p = none → Q (.ref p) (upd H p (.rng 0 i))) := by
  intro pins s σ H vs us Q I r h
  obtain ⟨i, rfl, q⟩ := h
  obtain ⟨u, rfl, ri⟩ := vals1 r
  obtain ⟨t, rfl⟩ := ri
  refine call_range_1 ⟨.ref s.heap.objs.size, upd H s.heap.objs.size (.rng 0 i), I.laid (t' := s.toks + 1 + 1) (fun b o e => Heap.get?_push_of_some _ e) (Nat.le_refl _) ?_, rfl, q _ (I.hok.fresh (Nat.le_refl _))⟩
  exact ⟨s.toks, t, s.toks + 1, Heap.get?_push_size _ rfl⟩
theorem ge_rng {r : List Addr} {m : MH} {H : Hp} {Q : VK} {lo hi : Int} {p : Addr} (R : RH S r m H) (hp : H p = none) (g : GE S (Rx S) r H Q E (.ok (.val (.rng lo hi)) m)) : Q (.ref p) (upd H p (.rng lo hi)) :=
  g r _ _ (ext_new hp) (R.beside hp) (.rng upd_same)
theorem pe_rng1E {e : Expr} {a : Ex} {p pos : Pos} (bl : Blt X "range" [e]) (ha : PE X e (tX S C E a)) : PE X (.Call (.Name "range" p) [e] [] pos) (tX S C E (.rng1 a)) :=
  pe_mono (pe_callTy call_rng1 bl.gl bl.mg rfl (pa_one (pe_val ha) bl.one) bl.nm bl.db bl.head bl.tail) fun σ H Q ⟨r, n, m, k1, k2, g⟩ => by
    rw [evX] at g
    refine ⟨r, n, m, k1, k2, g.bind fun x m1 r1 H1 y _ e1 k3 q g1 => ?_⟩
    cases x with
    | int i =>
      cases RV.int_inv q
      obtain ⟨_, g2⟩ := g1.guard
      exact ⟨i, rfl, fun p hp => ge_rng k3 hp g2⟩
    | _ => exact (show False from g1).elim
theorem pe_rng2E {e e2 : Expr} {a b : Ex} {p pos : Pos} (bl : Blt X "range" [e, e2]) (ha : PE X e (tX S C E a)) (hb : PE X e2 (tX S C E b)) : PE X (.Call (.Name "range" p) [e, e2] [] pos) (tX S C E (.rng2 a b)) := by
  have h2 := bl.pl
  simp only [List.all_cons, List.all_nil, Bool.and_true, Bool.and_eq_true] at h2
  refine pe_mono (pe_callTy cr_range2 bl.gl bl.mg rfl (pa_cons (pe_val ha) (pa_one (pe_val hb) h2.2) (star_plain h2.1 _ _)) bl.nm bl.db bl.head bl.tail) fun σ H Q ⟨r, n, m, k1, k2, g⟩ => ?_
  rw [evX] at g
  refine ⟨r, n, m, k1, k2, g.bind fun x m1 r1 H1 y _ e1 k3 q g1 => ⟨r1, n, m1, k1.ext e1, k3, g1.bind fun x2 m2 r2 H2 y2 _ e2 k4 q2 g2 => ?_⟩⟩
  cases x with
  | int i =>
    cases x2 with
    | int j =>
      cases RV.int_inv q
      cases RV.int_inv q2
      obtain ⟨_, g2⟩ := g2.guard
      exact ⟨i, j, rfl, fun p hp => ge_rng k4 hp g2⟩
    | _ => exact (show False from g2).elim
  | _ => exact (show False from g2).elim
def tyName (t : Ty) : Str := tyS t
theorem boot_ty (t : Ty) : bootBuiltins (tyName t) = some (.type (tyS t)) := by cases t <;> rfl
theorem pe_isiE {t : Ty} {e : Expr} {a : Ex} {p p2 pos : Pos} (hK : X.K = S.K) (bl : Blt X "isinstance" [e, .Name (tyName t) p2]) (bt : Blt X (tyName t) []) (ha : PE X e (tX S C E a)) : PE X (.Call (.Name "isinstance" p) [e, .Name (tyName t) p2] [] pos) (tX S C E (.isi t a)) := by
  have h2 := bl.pl
  simp only [List.all_cons, List.all_nil, Bool.and_true, Bool.and_eq_true] at h2
  have hb : PE X (.Name (tyName t) p2) (tC (.ty (tyS t))) := pe_bltn bt.gl bt.mg (boot_ty t) rfl bt.nm bt.db
  refine pe_mono (pe_callB (call_isiA (E := E) hK t) bl.gl bl.mg rfl (pa_cons (pe_val ha) (pa_one hb h2.2) (star_plain h2.1 _ _)) bl.nm bl.db bl.head bl.tail) fun σ H Q ⟨r, n, m, k1, k2, g⟩ => ?_
  rw [evX] at g
  exact ⟨r, n, m, k1, k2, g.bind fun x m1 r1 H1 y _ e1 k3 q g1 => ⟨y, r1, m1, x, rfl, k3, q, gx_val g1⟩⟩
/-- a walkable end: a list that stands, or a tuple -/
theorem walk_end {H0 H H1 : Hp} {r r1 : List Addr} {m : MH} {x : XV} {y : V} {b : Bool} {xs : List PV} (q : Rx S H0 r H x y) (e : Ext r r1 H H1) (R : RH S r1 m H1) (k : kindX x m = some b) (t : toL x m = .ok xs m) :
    ∃ a, y = .ref a ∧ ((b = true ∧ (∃ ys, SqL S.K H1 a ys) ∧ Stands S r1 H1 (srcOf x m) xs a) ∨ (b = false ∧ srcOf x m = [] ∧ ∃ ys, SqT S.K H1 a ys ∧ RVs S.K r1 H1 xs ys)) := by
  cases x with
  | tmp zs =>
    cases k
    cases t
    obtain ⟨a, ys, rfl, h1, h2, h3, h4⟩ := q
    have h1' := e.out h3 h1
    exact ⟨a, rfl, .inl ⟨rfl, ⟨ys, .inl (.inl h1')⟩, stands_tmp (e.notin h3 h1) h1' (h2.ext e)⟩⟩
  | its s zs => cases k
  | val v =>
    cases v with
    | tup zs =>
      cases k
      cases t
      obtain ⟨a, ys, rfl, h1, h2⟩ := RV.tup_inv q
      exact ⟨a, rfl, .inr ⟨rfl, rfl, ys, e.2.2.sqT h1, h2.ext e⟩⟩
    | loc l =>
      obtain ⟨a, rfl, ha⟩ := RV.loc_inv q
      simp only [kindX] at k
      cases f : listAt m l with
      | none => rw [f] at k; cases k
      | some zs =>
        rw [f] at k
        cases k
        simp only [toL, itemsOf, f] at t
        cases t
        obtain ⟨ys, h1, h2⟩ := R.list (e.at_ ha) f
        refine ⟨a, rfl, .inl ⟨rfl, ⟨ys, h1⟩, ?_⟩⟩
        simp only [srcOf, f]
        exact stands_loc (e.at_ ha)
    | seq ns =>
      cases k
      cases t
      obtain ⟨a, rfl, ha⟩ := RV.seq_inv q
      have h1 := e.2.2.scr ha
      exact ⟨a, rfl, .inl ⟨rfl, ⟨_, h1.sql⟩, stands_seq h1⟩⟩
    | _ => cases k
theorem GE.toL {α β : Type} {R : Rel α β} {r : List Addr} {H : Hp} {Q : β → Hp → Prop} {x : XV} {m : MH} {k : List PV → MH → Res α} (g : GE S R r H Q E ((toL x m).bind k)) : ∃ xs, Mi.toL x m = .ok xs m ∧ GE S R r H Q E (k xs m) := by
  cases x with
  | tmp xs => exact ⟨xs, rfl, g⟩
  | its s xs => exact ⟨xs, rfl, g⟩
  | val v =>
    simp only [Mi.toL] at g ⊢
    cases e : itemsOf v m with
    | none => rw [e] at g; exact (show False from g).elim
    | some xs => rw [e] at g; exact ⟨xs, rfl, g⟩
theorem zip_get {xs ys : List PV} {i : Nat} {z : PV} (h : (List.zipWith (fun u v => PV.tup [u, v]) xs ys)[i]? = some z) : ∃ u v, xs[i]? = some u ∧ ys[i]? = some v ∧ z = .tup [u, v] := by
  rw [List.getElem?_zipWith] at h
  cases e1 : xs[i]? with
  | none => rw [e1] at h; simp at h
  | some u =>
    cases e2 : ys[i]? with
    | none => rw [e1, e2] at h; simp at h
    | some v =>
      rw [e1, e2] at h
      simp at h
      exact ⟨u, v, rfl, rfl, h.symm⟩
theorem feeds_zip {tg : Tgt} (ht : many tg = true) {r0 : List Addr} {H0 : Hp} {s1 s2 : List (Nat × List PV)} {xs ys : List PV} {a b : Addr} (h1 : Stands S r0 H0 s1 xs a) (h2 : Stands S r0 H0 s2 ys b) : Feeds S tg r0 H0 (s1 ++ s2) (List.zipWith (fun u v => PV.tup [u, v]) xs ys) (Itz S.K a b) := by
  intro i r m H e R ho
  obtain ⟨o1, o2⟩ := src_app ho
  obtain ⟨us, u1, u2⟩ := h1 r m H e R o1
  obtain ⟨ws, w1, w2⟩ := h2 r m H e R o2
  refine ⟨fun z hz => ?_, fun hi => ⟨us, ws, u1, w1, ?_⟩⟩
  · obtain ⟨u, v, g1, g2, rfl⟩ := zip_get hz
    obtain ⟨y1, f1, f2⟩ := u2.get g1
    obtain ⟨y2, f3, f4⟩ := w2.get g2
    refine ⟨⟨us, ws, y1, y2, u1, w1, f1, f3⟩, fun y H' hy => ?_⟩
    obtain ⟨T, x, x', rfl, hT, rfl, k1, k2⟩ := hy
    have k1 := k1 us u1
    have k2 := k2 ws w1
    rw [f1] at k1
    rw [f3] at k2
    cases k1
    cases k2
    have en : Ext r r H (upd H T (.tup [y1, y2])) := ext_new hT
    exact ⟨en, R.beside hT, RVw.atT (x := .tup [u, v]) ⟨T, _, rfl, .inl (.inl upd_same), .cons (f2.ext en) (.cons (f4.ext en) .nil)⟩ ht⟩
  · rw [List.length_zipWith] at hi
    rw [← u2.length, ← w2.length]
    omega
theorem feeds_zipT {tg : Tgt} (ht : many tg = true) {r0 : List Addr} {H0 : Hp} {xs ys : List PV} {a b : Addr} {us ws : List V} (h1 : SqT S.K H0 a us) (q1 : RVs S.K r0 H0 xs us) (h2 : SqT S.K H0 b ws) (q2 : RVs S.K r0 H0 ys ws) : Feeds S tg r0 H0 [] (List.zipWith (fun u v => PV.tup [u, v]) xs ys) (RZ.ItzT S.K a b) := by
  intro i r m H e R ho
  have u1 := e.2.2.sqT h1
  have w1 := e.2.2.sqT h2
  have u2 := q1.ext e
  have w2 := q2.ext e
  refine ⟨fun z hz => ?_, fun hi => ⟨us, ws, u1, w1, ?_⟩⟩
  · obtain ⟨u, v, g1, g2, rfl⟩ := zip_get hz
    obtain ⟨y1, f1, f2⟩ := u2.get g1
    obtain ⟨y2, f3, f4⟩ := w2.get g2
    refine ⟨⟨us, ws, y1, y2, u1, w1, f1, f3⟩, fun y H' hy => ?_⟩
    obtain ⟨T, x, x', rfl, hT, rfl, k1, k2⟩ := hy
    have k1 := k1 us u1
    have k2 := k2 ws w1
    rw [f1] at k1
    rw [f3] at k2
    cases k1
    cases k2
    have en : Ext r r H (upd H T (.tup [y1, y2])) := ext_new hT
    exact ⟨en, R.beside hT, RVw.atT (x := .tup [u, v]) ⟨T, _, rfl, .inl (.inl upd_same), .cons (f2.ext en) (.cons (f4.ext en) .nil)⟩ ht⟩
  · rw [List.length_zipWith] at hi
    rw [← u2.length, ← w2.length]
    omega
theorem feeds_zipM {tg : Tgt} (ht : many tg = true) {r0 : List Addr} {H0 : Hp} {s2 : List (Nat × List PV)} {xs ys : List PV} {a b : Addr} {us : List V} (h1 : SqT S.K H0 a us) (q1 : RVs S.K r0 H0 xs us) (h2 : Stands S r0 H0 s2 ys b) : Feeds S tg r0 H0 ([] ++ s2) (List.zipWith (fun u v => PV.tup [u, v]) xs ys) (ItzM S.K a b) := by
  intro i r m H e R ho
  obtain ⟨ws, w1, w2⟩ := h2 r m H e R ho
  have u1 := e.2.2.sqT h1
  have u2 := q1.ext e
  refine ⟨fun z hz => ?_, fun hi => ⟨us, ws, u1, w1, ?_⟩⟩
  · obtain ⟨u, v, g1, g2, rfl⟩ := zip_get hz
    obtain ⟨y1, f1, f2⟩ := u2.get g1
    obtain ⟨y2, f3, f4⟩ := w2.get g2
    refine ⟨⟨us, ws, y1, y2, u1, w1, f1, f3⟩, fun y H' hy => ?_⟩
    obtain ⟨T, x, x', rfl, hT, rfl, k1, k2⟩ := hy
    have k1 := k1 us u1
    have k2 := k2 ws w1
    rw [f1] at k1
    rw [f3] at k2
    cases k1
    cases k2
    have en : Ext r r H (upd H T (.tup [y1, y2])) := ext_new hT
    exact ⟨en, R.beside hT, RVw.atT (x := .tup [u, v]) ⟨T, _, rfl, .inl (.inl upd_same), .cons (f2.ext en) (.cons (f4.ext en) .nil)⟩ ht⟩
  · rw [List.length_zipWith] at hi
    rw [← u2.length, ← w2.length]
    omega
theorem pi_zipE {tg : Tgt} (ht : many tg = true) {e e2 : Expr} {a b : Ex} {p pos tpos : Pos} {elts : List Expr} {kk : Nat} (hK : X.K = S.K) (bl : Blt X "zip" [e, e2]) (ha : PE X e (tX S C E a)) (hb : PE X e2 (tX S C E b)) :
    PI X (.Tuple elts kk tpos) (.Call (.Name "zip" p) [e, e2] [] pos) (iX S tg C E (.zip a b)) := by
  have h2 := bl.pl
  simp only [List.all_cons, List.all_nil, Bool.and_true, Bool.and_eq_true] at h2
  refine ⟨fun pins s σ H R I ⟨r, n, m, k1, k2, g⟩ => (pi_zipB bl.gl bl.mg (pa_cons ha (pa_one hb h2.2) (star_plain h2.1 _ _)) bl.head bl.tail).run pins s σ H R I ?_⟩
  unfold evI at g
  rw [evX] at g
  have g : GE S (Rit S tg) r H R E ((evX S.P C a n m).bind fun x m => (evX S.P C b n m).bind fun y m => (Mi.toL x m).bind fun xs m => (Mi.toL y m).bind fun ys m =>
      guard (sameK x y m) (.ok (srcOf x m ++ srcOf y m, List.zipWith (fun u v => PV.tup [u, v]) xs ys) m)) := by
    cases q1 : evX S.P C a n m with
    | ok x m1 =>
      rw [q1] at g
      simp only [Res.bind_ok] at g ⊢
      cases q2 : evX S.P C b n m1 with
      | ok y m2 =>
        rw [q2] at g
        simp only [Res.bind_ok] at g ⊢
        cases q3 : Mi.toL x m2 with
        | ok xs m3 =>
          rw [q3] at g
          simp only [Res.bind_ok] at g ⊢
          cases q4 : Mi.toL y m3 with
          | ok ys m4 =>
            rw [q4] at g
            simp only [Res.bind_ok] at g ⊢
            generalize sameK x y m4 = c at g ⊢
            cases c <;> exact g
          | exc => rw [q4] at g; exact g
          | stuck => rw [q4] at g; exact g
        | exc => rw [q3] at g; exact g
        | stuck => rw [q3] at g; exact g
      | exc => rw [q2] at g; exact g
      | stuck => rw [q2] at g; exact g
    | exc => rw [q1] at g; exact g
    | stuck => rw [q1] at g; exact g
  refine ⟨r, n, m, k1, k2, g.bind (an := anti_it) fun x m1 r1 H1 y _ e1 k3 q g1 => ⟨r1, n, m1, k1.ext e1, k3, g1.bind (an := anti_it) fun x2 m2 r2 H2 y2 _ e2 k4 q2 g2 => ?_⟩⟩
  obtain ⟨xs, t1, g3⟩ := g2.toL
  obtain ⟨ys, t2, g4⟩ := g3.toL
  obtain ⟨gb, g5⟩ := g4.guard
  unfold sameK at gb
  cases c1 : kindX x m2 with
  | none => rw [c1] at gb; cases gb
  | some b1 =>
    cases c2 : kindX x2 m2 with
    | none => rw [c1, c2] at gb; cases gb
    | some b2 =>
      rw [c1, c2] at gb
      obtain ⟨a1, rfl, w1⟩ := walk_end q e2 k4 c1 t1
      obtain ⟨a2, rfl, w2⟩ := walk_end q2 (Ext.refl _ _) k4 c2 t2
      rw [hK]
      rcases w1 with ⟨rfl, ⟨us, l1⟩, s1⟩ | ⟨rfl, z1, us, l1, s1⟩
      · rcases w2 with ⟨_, ⟨ws, l2⟩, s2⟩ | ⟨rfl, _⟩
        · exact ⟨a1, a2, us, ws, rfl, .inl ⟨l1, l2, g5 r2 H2 _ (Ext.refl _ _) k4 (feeds_zip ht s1 s2)⟩⟩
        · cases gb
      · rcases w2 with ⟨_, ⟨ws, l2⟩, s2⟩ | ⟨_, z2, ws, l2, s2⟩
        · rw [z1] at g5
          exact ⟨a1, a2, us, ws, rfl, .inr (.inr ⟨l1, l2, g5 r2 H2 _ (Ext.refl _ _) k4 (feeds_zipM ht l1 s1 s2)⟩)⟩
        · rw [z1, z2] at g5
          exact ⟨a1, a2, us, ws, rfl, .inr (.inl ⟨l1, l2, g5 r2 H2 _ (Ext.refl _ _) k4 (feeds_zipT ht l1 s1 l2 s2)⟩)⟩
end
end Mi
end

section
set_option autoImplicit false
set_option Elab.async false
set_option linter.all false
set_option maxRecDepth 100000
namespace Mi
open PySem PySem.Spec PyProof.Rows L2
variable {S : Fx}
def slotsT : Tgt → List Nat
  | .one i => [i]
  | .two i j => [i, j]
  | .three i j k => [i, j, k]
  | .nest i j k => [i, j, k]
/-- but for these slots the same -/
def But (ix : List Nat) (σ σ1 : L2.St) : Prop := σ1.length = σ.length ∧ ∀ j, j ∉ ix → σ1[j]? = σ[j]?
theorem But.set {ix : List Nat} {σ σ1 : L2.St} (b : But ix σ σ1) {i : Nat} (hi : i ∈ ix) (v : Option V) : But ix σ (σ1.set i v) :=
  ⟨by rw [List.length_set, b.1], fun j hj => by
    rw [List.getElem?_set_ne (fun e => hj (by rw [← e]; exact hi))]
    exact b.2 j hj⟩
theorem But.refl (ix : List Nat) (σ : L2.St) : But ix σ σ := ⟨rfl, fun _ _ => rfl⟩
def gB (S : Fx) (tg : Tgt) : TG := fun v σ H Q => ∃ r e x e1, RE S r H e σ ∧ RVt tg S.K r H x v ∧ bindT tg x e = some e1 ∧ ∀ σ1, RE S r H e1 σ1 → But (slotsT tg) σ σ1 → Q σ1 H
theorem RVs.three_inv {K : PySem.W.Frag} {r : List Addr} {H : Hp} {u v w : PV} {ys : List V} (h : RVs K r H [u, v, w] ys) : ∃ x y z, ys = [x, y, z] ∧ RV K r H u x ∧ RV K r H v y ∧ RV K r H w z := by
  cases h with
  | cons h t =>
    obtain ⟨y, z, rfl, hy, hz⟩ := t.two_inv
    exact ⟨_, _, _, rfl, h, hy, hz⟩
/-- a name that may be stored: its slot -/
structure Sto (X : Cx) (i : Nat) (x : Str) : Prop where
  ix : X.N[i]? = some x
  lc : Loc X.env.scope x
  fn : X.fn x = true ∨ X.env.scope.names.lookup x = some .local
/-- the targets' form -/
inductive TgE (X : Cx) : Tgt → Expr → Prop where
  | one {i : Nat} {x : Str} {p : Pos} (h : Sto X i x) : TgE X (.one i) (.Name x p)
  | two {i j : Nat} {x y : Str} {p q t : Pos} {k : Nat} (h : Sto X i x) (h2 : Sto X j y) : TgE X (.two i j) (.Tuple [.Name x p, .Name y q] k t)
  | three {i j l : Nat} {x y z : Str} {p q s t : Pos} {k : Nat} (h : Sto X i x) (h2 : Sto X j y) (h3 : Sto X l z) : TgE X (.three i j l) (.Tuple [.Name x p, .Name y q, .Name z s] k t)
  | nest {i j l : Nat} {x y z : Str} {p q s t t2 : Pos} {k k2 : Nat} (h : Sto X i x) (h2 : Sto X j y) (h3 : Sto X l z) : TgE X (.nest i j l) (.Tuple [.Name x p, .Tuple [.Name y q, .Name z s] k2 t2] k t)
section
variable {X : Cx}
theorem pg_mono {e : Expr} {t t' : TG} (h : PG X e t) (i : ∀ v σ H Q, t' v σ H Q → t v σ H Q) : PG X e t' := ⟨fun pins s σ H v u Q I r q => h.run pins s σ H v u Q I r (i v σ H Q q)⟩
theorem pg_any (hK : X.K = S.K) (hc : X.calm = true) (hN : X.N.Nodup) : ∀ {tg : Tgt} {e : Expr}, TgE X tg e → PG X e (gB S tg)
  | _, _, .one h => pg_mono (pg_name hN h.ix h.lc h.fn) fun v σ H Q ⟨r, e, x, e1, k1, k2, hb, q⟩ => by
    cases hb
    exact q _ (k1.set _ k2) ((But.refl _ _).set (by simp [slotsT]) _)
  | _, _, .two h h2 => pg_mono (pg_tup hc (pgs_cons (pg_name hN h.ix h.lc h.fn) (pgs_cons (pg_name hN h2.ix h2.lc h2.fn) pgs_nil))) fun v σ H Q ⟨r, e, x, e1, k1, k2, hb, q⟩ => by
    unfold bindT at hb
    split at hb <;> (try contradiction)
    rename_i heq
    cases heq
    obtain ⟨a, ys, rfl, g1, g2⟩ := (show ∃ a ys, _ = V.ref a ∧ SqT S.K _ a ys ∧ RVs S.K _ _ _ ys from k2)
    obtain ⟨y1, y2, rfl, f1, f2⟩ := g2.two_inv
    cases hb
    rw [← hK] at g1
    exact ⟨a, _, rfl, g1, rfl, _, _, rfl, _, _, rfl, rfl, q _ ((k1.set _ f1).set _ f2) (((But.refl _ _).set (by simp [slotsT]) _).set (by simp [slotsT]) _)⟩
  | _, _, .three h h2 h3 => pg_mono (pg_tup hc (pgs_cons (pg_name hN h.ix h.lc h.fn) (pgs_cons (pg_name hN h2.ix h2.lc h2.fn) (pgs_cons (pg_name hN h3.ix h3.lc h3.fn) pgs_nil)))) fun v σ H Q ⟨r, e, x, e1, k1, k2, hb, q⟩ => by
    unfold bindT at hb
    split at hb <;> (try contradiction)
    rename_i heq
    cases heq
    obtain ⟨a, ys, rfl, g1, g2⟩ := (show ∃ a ys, _ = V.ref a ∧ SqT S.K _ a ys ∧ RVs S.K _ _ _ ys from k2)
    obtain ⟨y1, y2, y3, rfl, f1, f2, f3⟩ := g2.three_inv
    cases hb
    rw [← hK] at g1
    exact ⟨a, _, rfl, g1, rfl, _, _, rfl, _, _, rfl, _, _, rfl, rfl, q _ (((k1.set _ f1).set _ f2).set _ f3) ((((But.refl _ _).set (by simp [slotsT]) _).set (by simp [slotsT]) _).set (by simp [slotsT]) _)⟩
  | _, _, .nest h h2 h3 => pg_mono (pg_tup hc (pgs_cons (pg_name hN h.ix h.lc h.fn) (pgs_cons (pg_tup hc (pgs_cons (pg_name hN h2.ix h2.lc h2.fn) (pgs_cons (pg_name hN h3.ix h3.lc h3.fn) pgs_nil))) pgs_nil))) fun v σ H Q ⟨r, e, x, e1, k1, k2, hb, q⟩ => by
    unfold bindT at hb
    split at hb <;> (try contradiction)
    rename_i heq
    cases heq
    obtain ⟨a, ys, rfl, g1, g2⟩ := (show ∃ a ys, _ = V.ref a ∧ SqT S.K _ a ys ∧ RVs S.K _ _ _ ys from k2)
    obtain ⟨y1, y2, rfl, f1, f2⟩ := g2.two_inv
    obtain ⟨b, zs, rfl, g3, g4⟩ := f2.tup_inv
    obtain ⟨z1, z2, rfl, f3, f4⟩ := g4.two_inv
    cases hb
    rw [← hK] at g1 g3
    exact ⟨a, _, rfl, g1, rfl, _, _, rfl, _, _, rfl, ⟨b, _, rfl, g3, rfl, _, _, rfl, _, _, rfl, rfl, rfl, q _ (((k1.set _ f1).set _ f3).set _ f4) ((((But.refl _ _).set (by simp [slotsT]) _).set (by simp [slotsT]) _).set (by simp [slotsT]) _)⟩⟩
theorem wipe_re {r : List Addr} {H : Hp} {e : Env} {σ : L2.St} (h : RE S r H e σ) : ∀ {own vs : List Nat}, (∀ i ∈ vs, i ∈ own) → RE S r H (Mi.wipe own e) (L2.wipe σ vs) := by
  have h1 : ∀ (own : List Nat) (e : Env), RE S r H e σ → RE S r H (Mi.wipe own e) σ := by
    intro own
    induction own with
    | nil => exact fun e h => h
    | cons i own ih =>
      intro e h
      refine ih _ ⟨by rw [List.length_set]; exact h.len, fun j v hj => ?_⟩
      by_cases hij : i = j
      · subst hij
        by_cases hl : i < e.length
        · rw [List.getElem?_set_self hl] at hj
          cases hj
        · rw [List.getElem?_eq_none (by rw [List.length_set]; omega)] at hj
          cases hj
      · rw [List.getElem?_set_ne hij] at hj
        exact h.get j v hj
  have h2 : ∀ (own : List Nat) (e : Env) (j : Nat), j ∈ own → ∀ v, (Mi.wipe own e)[j]? ≠ some (some v) := by
    intro own
    induction own with
    | nil => intro e j hj; cases hj
    | cons i own ih =>
      intro e j hj v hv
      by_cases hm : j ∈ own
      · exact ih _ j hm v hv
      · have hij : j = i := by
          rcases List.mem_cons.mp hj with q | q
          · exact q
          · exact absurd q hm
        subst hij
        have keep : ∀ (own : List Nat) (e : Env), j ∉ own → (Mi.wipe own e)[j]? = e[j]? := by
          intro own
          induction own with
          | nil => exact fun e _ => rfl
          | cons i own ih =>
            intro e hn
            show (Mi.wipe own (e.set i none))[j]? = _
            rw [ih _ (fun q => hn (List.mem_cons_of_mem _ q)), List.getElem?_set_ne (fun q => hn (by rw [q]; exact List.mem_cons_self))]
        have hv : (Mi.wipe own (e.set j none))[j]? = some (some v) := hv
        rw [keep own _ hm] at hv
        by_cases hl : j < e.length
        · rw [List.getElem?_set_self hl] at hv
          cases hv
        · rw [List.getElem?_eq_none (by rw [List.length_set]; omega)] at hv
          cases hv
  intro own vs hs
  have e1 := h1 own e h
  have h3 : ∀ (vs : List Nat), (∀ i ∈ vs, i ∈ own) → RE S r H (Mi.wipe own e) (L2.wipe σ vs) := by
    intro vs
    induction vs with
    | nil => exact fun _ => e1
    | cons i vs ih =>
      intro hs
      have := ih fun j hj => hs j (List.mem_cons_of_mem _ hj)
      refine ⟨by show _ = ((L2.wipe σ vs).set i none).length; rw [List.length_set]; exact this.len, fun j v hj => ?_⟩
      obtain ⟨y, hy, hv⟩ := this.get j v hj
      refine ⟨y, ?_, hv⟩
      show ((L2.wipe σ vs).set i none)[j]? = _
      rw [List.getElem?_set_ne fun q => h2 own e j (by rw [← q]; exact hs i List.mem_cons_self) v hj]
      exact hy
  exact h3 vs hs
theorem wipe_get (σ : L2.St) : ∀ (vs : List Nat) (j : Nat), (L2.wipe σ vs)[j]? = if j ∈ vs then (if j < σ.length then some none else none) else σ[j]?
  | [], j => by simp [L2.wipe]
  | i :: vs, j => by
    show ((L2.wipe σ vs).set i none)[j]? = _
    by_cases hij : i = j
    · subst hij
      by_cases hl : i < σ.length
      · rw [List.getElem?_set_self (by rw [wipe_length]; exact hl)]
        simp [hl]
      · rw [List.getElem?_eq_none (by rw [List.length_set, wipe_length]; omega)]
        simp [hl]
    · rw [List.getElem?_set_ne hij, wipe_get σ vs j]
      have : (j ∈ i :: vs) ↔ j ∈ vs := by
        rw [List.mem_cons]
        exact ⟨fun h => h.elim (fun q => absurd q.symm hij) id, .inr⟩
      simp only [this]
theorem wipe_but {ix vs : List Nat} {σ σ2 : L2.St} (hs : ∀ i ∈ ix, i ∈ vs) (b : But ix (L2.wipe σ vs) σ2) : L2.wipe σ2 vs = L2.wipe σ vs := by
  have hl : σ2.length = σ.length := by rw [b.1, wipe_length]
  apply List.ext_getElem?
  intro j
  rw [wipe_get, wipe_get, hl]
  by_cases hj : j ∈ vs
  · rw [if_pos hj, if_pos hj]
  · rw [if_neg hj, if_neg hj, b.2 j (fun q => hj (hs j q)), wipe_get, if_neg hj]
/-- the reading of a block's parts: nothing is let out -/
abbrev E0 : XK := fun _ _ _ => False
/-- an end that is .ok goes anywhere -/
theorem GE.okay {α β : Type} {R : Rel α β} {r : List Addr} {H : Hp} {Q : β → Hp → Prop} {E E' : XK} {a : α} {m : MH} (g : GE S R r H Q E (.ok a m)) : GE S R r H Q E' (.ok a m) := g
variable {C : Nat → List PV → MH → Res PV} {E : XK}
/-- the clause's tests -/
def tTs (S : Fx) (C : Nat → List PV → MH → Res PV) (E : XK) (cs : List Ex) : TT := fun σ H Q => ∃ r e m, RE S r H e σ ∧ RH S r m H ∧ GE S Rb r H Q E (evc S.P C cs e m)
theorem pts_mono {es : List Expr} {t t' : TT} (h : PTs X es t) (i : ∀ σ H Q, t' σ H Q → t σ H Q) : PTs X es t' := ⟨fun pins s σ H Q I q => h.run pins s σ H Q I (i σ H Q q)⟩
theorem pts_nilE : PTs X [] (tTs S C E []) := pts_mono pts_nil fun σ H Q ⟨r, n, m, k1, k2, g⟩ => g r H true (Ext.refl _ _) k2 rfl
theorem pts_oneE {c : Expr} {a : Ex} (h : PT X c (tB2 S C E a)) : PTs X [c] (tTs S C E [a]) := pts_mono (pts_one h) fun σ H Q ⟨r, n, m, k1, k2, g⟩ => by
  refine ⟨r, n, m, k1, k2, ?_⟩
  rw [evc] at g
  generalize asB ((evX S.P C a n m).bind toV) = z at g ⊢
  cases z with
  | ok b m1 =>
    intro r1 H1 c e1 k3 q
    cases q
    have g := GE.ext anti_b g e1
    cases b with
    | true => exact g r1 H1 true (Ext.refl _ _) k3 rfl
    | false => exact g r1 H1 false (Ext.refl _ _) k3 rfl
  | exc c v m1 => exact g
  | stuck => exact g
/-- what a comprehension's loop comes to -/
theorem lc_turns {tg : Tgt} {cs : List Ex} {a : Ex} {src : List (Nat × List PV)} {xs : List PV} {J : It} {vs own : List Nat} {D : Addr} {r0 : List Addr} {H0 : Hp} {σ : L2.St} {e : Env} {Q : VK} {m0 : MH}
    (hf : Feeds S tg r0 H0 src xs J) (hD : D ∉ r0) (hD0 : H0 D = none) (he : RE S r0 H0 e σ) (hvo : ∀ i ∈ vs, i ∈ own) (hsl : ∀ i ∈ slotsT tg, i ∈ vs) (hR : RH S r0 m0 H0)
    (g : GE S (Rx S) r0 H0 Q E ((lcLoop src tg (fun e m => evc S.P C cs e m) (fun e m => (evX S.P C a e m).bind toV) (Mi.wipe own e) xs [] m0).bind fun ys m => .ok (.tmp ys) m)) :
    ∃ W : Nat → Nat → Hp → Prop, (∃ m, W 0 m (upd H0 D (.lst []))) ∧ ∀ i m H, W i m H →
      (J.stop i H ∧ Q (.ref D) H) ∨ (J.go i H ∧ ∃ Nx : Hp → Prop, (∀ H', Nx H' → ∃ m', m' < m ∧ W (i + 1) m' H') ∧ ∀ x H', J.yld i H x H' → gB S tg x (L2.wipe σ vs) H' fun σ2 H2 => L2.wipe σ2 vs = L2.wipe σ vs ∧ tTs S C E0 cs σ2 H2 fun b H3 =>
        if b = true then tV S C E0 a σ2 H3 fun y H4 => ∃ acc, H4 D = some (.lst acc) ∧ acc.length < sizeLine ∧ Nx (upd H4 D (.lst (acc ++ [y]))) else Nx H3) := by
  refine ⟨fun i k H => k = xs.length - i ∧ i ≤ xs.length ∧ ∃ r m acc ys, Ext r0 r H0 H ∧ RH S r m H ∧ H D = some (.lst ys) ∧ D ∉ r ∧ RVs S.K r H acc ys ∧
      GE S (Rx S) r0 H0 Q E ((lcLoop src tg (fun e m => evc S.P C cs e m) (fun e m => (evX S.P C a e m).bind toV) (Mi.wipe own e) (xs.drop i) acc m).bind fun ys m => .ok (.tmp ys) m),
    ⟨_, rfl, Nat.zero_le _, r0, m0, [], [], ext_new hD0, hR.beside hD0, upd_same, hD, .nil, g⟩, ?_⟩
  rintro i k H ⟨rfl, hi, r, m, acc, ys, x1, R1, hl, hn, ha, g1⟩
  by_cases hlt : i < xs.length
  · rw [List.drop_eq_getElem_cons hlt] at g1
    rw [lcLoop] at g1
    have hx : xs[i]? = some xs[i] := List.getElem?_eq_getElem hlt
    generalize xs[i] = x at g1 hx
    cases hsrc : srcOk src m with
    | false => rw [hsrc] at g1; exact (show False from g1).elim
    | true =>
      rw [hsrc] at g1
      have g1 : GE S (Rx S) r0 H0 Q E ((match bindT tg x (Mi.wipe own e) with
        | none => Res.stuck
        | some e1 => match evc S.P C cs e1 m with
          | .ok true m1 => (match (evX S.P C a e1 m1).bind toV with
            | .ok v m2 => guard (decide (acc.length < lineP)) (lcLoop src tg (fun e m => evc S.P C cs e m) (fun e m => (evX S.P C a e m).bind toV) (Mi.wipe own e) (xs.drop (i + 1)) (acc ++ [v]) m2)
            | _ => .stuck)
          | .ok false m1 => lcLoop src tg (fun e m => evc S.P C cs e m) (fun e m => (evX S.P C a e m).bind toV) (Mi.wipe own e) (xs.drop (i + 1)) acc m1
          | _ => .stuck).bind fun ys m => .ok (.tmp ys) m) := g1
      obtain ⟨hgo, hy⟩ := (hf i r m H x1 R1 hsrc).1 x hx
      refine .inr ⟨hgo, fun H' => ∃ r m acc ys, Ext r0 r H0 H' ∧ RH S r m H' ∧ H' D = some (.lst ys) ∧ D ∉ r ∧ RVs S.K r H' acc ys ∧
        GE S (Rx S) r0 H0 Q E ((lcLoop src tg (fun e m => evc S.P C cs e m) (fun e m => (evX S.P C a e m).bind toV) (Mi.wipe own e) (xs.drop (i + 1)) acc m).bind fun ys m => .ok (.tmp ys) m), fun H' h => ⟨_, by omega, rfl, hlt, h⟩, fun y H' hyy => ?_⟩
      obtain ⟨x2, R2, hv⟩ := hy y H' hyy
      have x3 := x1.trans x2
      cases hb : bindT tg x (Mi.wipe own e) with
      | none => rw [hb] at g1; exact (show False from g1).elim
      | some e1 =>
        rw [hb] at g1
        simp only at g1
        refine ⟨r, Mi.wipe own e, x, e1, wipe_re (he.ext x3) hvo, hv, hb, fun σ1 hσ but => ⟨wipe_but hsl but, r, e1, m, hσ, R2, ?_⟩⟩
        cases hc : evc S.P C cs e1 m with
        | exc c v m1 => rw [hc] at g1; exact (show False from g1).elim
        | stuck => rw [hc] at g1; exact (show False from g1).elim
        | ok b m1 =>
          rw [hc] at g1
          intro r1 H3 b' x4 R3 hb'
          cases hb'
          cases b with
          | false =>
            rw [if_neg Bool.false_ne_true]
            exact ⟨r1, m1, acc, ys, x3.trans x4, R3, x4.out hn (x2.out hn hl), x4.notin hn (x2.out hn hl), (ha.ext x2).ext x4, g1⟩
          | true =>
            rw [if_pos rfl]
            simp only at g1
            refine ⟨r1, e1, m1, hσ.ext x4, R3, ?_⟩
            cases hz : (evX S.P C a e1 m1).bind toV with
            | exc c v m1 => rw [hz] at g1; exact (show False from g1).elim
            | stuck => rw [hz] at g1; exact (show False from g1).elim
            | ok v m2 =>
              rw [hz] at g1
              simp only at g1
              cases hq : decide (acc.length < lineP) with
              | false => rw [hq] at g1; exact (show False from g1).elim
              | true =>
                rw [hq] at g1
                intro r2 H4 y2 x5 R4 hy2
                have d2 := x2.out hn hl
                have d3 := x4.out hn d2
                have n3 := x4.notin hn d2
                have d4 := x5.out n3 d3
                have n4 := x5.notin n3 d3
                refine ⟨ys, d4, by rw [← ha.length]; exact of_decide_eq_true hq, r2, m2, acc ++ [v], ys ++ [y2], ((x3.trans x4).trans x5).temp (nt_none hD0), R4.temp n4 d4, upd_same, n4, ?_, g1⟩
                exact (((((ha.ext x2).ext x4).ext x5).append (.one hy2)).kept (keep_write d4 fun z => z))
  · rw [List.drop_of_length_le (by omega), lcLoop] at g1
    cases hsrc : srcOk src m with
    | false => rw [hsrc] at g1; exact (show False from g1).elim
    | true =>
      rw [hsrc] at g1
      exact .inl ⟨(hf i r m H x1 R1 hsrc).2 (by omega), g1 r H (.ref D) x1 R1 ⟨D, ys, rfl, hl, ha, hn, nt_none hD0⟩⟩
theorem evI_bind {α : Type} {P : Prog} {a : Ex} {e : Env} {m : MH} (k : List (Nat × List PV) → List PV → MH → Res α) : ((evX P C a e m).bind fun x m => (Mi.toL x m).bind fun xs m => k (srcOf x m) xs m) = (evI P C a e m).bind fun p m => k p.1 p.2 m := by
  unfold evI
  cases evX P C a e m with
  | ok x m1 =>
    simp only [Res.bind_ok]
    cases Mi.toL x m1 <;> rfl
  | exc => rfl
  | stuck => rfl
theorem t_lcm {tg : Tgt} {cs : List Ex} {a it : Ex} {vs own : List Nat} {σ : L2.St} {H : Hp} {Q : VK} (hvo : ∀ i ∈ vs, i ∈ own) (hsl : ∀ i ∈ slotsT tg, i ∈ vs) (h : tX S C E (.lcm own tg it cs a) σ H Q) :
    tLc (iX S tg C E it) (gB S tg) (tTs S C E0 cs) (tV S C E0 a) vs σ H Q := by
  obtain ⟨r, n, m, k1, k2, g⟩ := h
  rw [evX] at g
  have g := (evI_bind (P := S.P) (C := C) (a := it) (e := n) (m := m) (k := fun src xs m => (lcLoop src tg (fun e m => evc S.P C cs e m) (fun e m => ((evX S.P C a e m).bind toV)) (Mi.wipe own n) xs [] m).bind fun ys m => .ok (XV.tmp ys) m)) ▸ g
  refine ⟨r, n, m, k1, k2, g.bind fun p m1 r1 H1 J _ e1 k3 q g1 => ?_⟩
  intro D hD
  exact lc_turns q (k3.out hD) hD (k1.ext e1) hvo hsl k3 g1
/-- [elt for tg in iter if ..] -/
theorem pe_lcmE {elt tge iter : Expr} {ifs : List Expr} {scope : Scope} {own : List (Str × Nat)} {ownM : List Nat} {pos : Pos} {tg : Tgt} {cs : List Ex} {a it : Ex} (hK : X.K = S.K) (hc : X.calm = true) (hN : X.N.Nodup)
    (hi : PI X tge iter (iX S tg C E it)) (ok : BlkOk X.N X.env.scope scope own) (hvo : ∀ i ∈ own.map (·.2), i ∈ ownM) (hsl : ∀ i ∈ slotsT tg, i ∈ own.map (·.2))
    (hg : ∀ (s : Shared) (H : Hp) (Ca : Addr) (cl : List (Str × Addr)) (fp : List Addr), TgE (X.blk s H scope (compEnvC scope cl Ca X.env) fp) tg tge)
    (ht : ∀ (s : Shared) (H : Hp) (Ca : Addr) (cl : List (Str × Addr)) (fp : List Addr), PTs (X.blk s H scope (compEnvC scope cl Ca X.env) fp) ifs (tTs S C E0 cs))
    (he : ∀ (s : Shared) (H : Hp) (Ca : Addr) (cl : List (Str × Addr)) (fp : List Addr), PE (X.blk s H scope (compEnvC scope cl Ca X.env) fp) elt (tX S C E0 a))
    (hs : ∀ x, foldedSetIterable iter X.env x = (Pure.pure x : Sem Value)) : PE X (.ListComp elt [⟨tge, iter, ifs, 0⟩] scope pos) (tX S C E (.lcm ownM tg it cs a)) :=
  pe_mono (pe_lc hc hN hi ok (fun s H Ca cl fp => pg_any (X := X.blk s H scope (compEnvC scope cl Ca X.env) fp) hK hc hN (hg s H Ca cl fp)) ht (fun s H Ca cl fp => pe_val (he s H Ca cl fp)) hs) fun σ H Q h => t_lcm hvo hsl h
end
end Mi
end

section
set_option autoImplicit false
set_option Elab.async false
set_option linter.all false
set_option maxRecDepth 100000
namespace Mi
open PySem PySem.Spec PyProof.Rows L2
variable {S : Fx}
/-- where a statement has come to -/
def Rfl (S : Fx) : Rel Mi.Flow (L2.St ⊕ V) := fun _ r H f b => match f, b with
  | .next e, .inl σ => RE S r H e σ
  | .ret v, .inr y => RV S.K r H v y
  | _, _ => False
def QD (D : Ends) : L2.St ⊕ V → Hp → Prop := fun b H => match b with
  | .inl σ => D.nx σ H
  | .inr y => D.rt y H
theorem anti_f : Anti (Rfl S) := fun _ _ _ _ _ _ _ _ _ _ h => h
def tS (S : Fx) (C : Nat → List PV → MH → Res PV) (E : XK) (s : Mi.St) : TS := fun D σ H => ∃ r e m, RE S r H e σ ∧ RH S r m H ∧ GE S (Rfl S) r H (QD D) E (Mi.exec S.P C s e m)
def tSs (S : Fx) (C : Nat → List PV → MH → Res PV) (E : XK) (l : List Mi.St) : TS := fun D σ H => ∃ r e m, RE S r H e σ ∧ RH S r m H ∧ GE S (Rfl S) r H (QD D) E (Mi.execs S.P C l e m)
section
variable {X : Cx} {C : Nat → List PV → MH → Res PV} {E : XK}
theorem ps_mono {s : Stmt} {t t' : TS} (h : PS X s t) (i : ∀ D σ H, t' D σ H → t D σ H) : PS X s t' := ⟨fun pins s σ H D I q => h.run pins s σ H D I (i D σ H q)⟩
theorem pss_mono {s : List Stmt} {t t' : TS} (h : PSs X s t) (i : ∀ D σ H, t' D σ H → t D σ H) : PSs X s t' := ⟨fun pins s σ H D I q => h.run pins s σ H D I (i D σ H q)⟩
theorem pss_nilE : PSs X [] (tSs S C E []) := pss_mono pss_nil fun D σ H ⟨r, e, m, k1, k2, g⟩ => g r H (.inl σ) (Ext.refl _ _) k2 k1
theorem pss_consE {st : Stmt} {rest : List Stmt} {a : Mi.St} {l : List Mi.St} (h1 : PS X st (tS S C E a)) (h2 : PSs X rest (tSs S C E l)) : PSs X (st :: rest) (tSs S C E (a :: l)) := by
  refine pss_mono (pss_cons h1 h2) fun D σ H ⟨r, e, m, k1, k2, g⟩ => ?_
  refine ⟨r, e, m, k1, k2, ?_⟩
  rw [Mi.execs] at g
  refine GE.bind g (fun f m1 r1 H1 b _ e1 k3 q g1 => ?_) anti_f
  cases f with
  | next e2 =>
    cases b with
    | inl σ2 => exact ⟨r1, e2, m1, q, k3, g1⟩
    | inr y => exact (show False from q).elim
  | ret v =>
    cases b with
    | inl σ2 => exact (show False from q).elim
    | inr y => exact g1 r1 H1 (.inr y) (Ext.refl _ _) k3 q
theorem ps_passE {pos : Pos} : PS X (.Pass pos) (tS S C E .pas) := ps_mono ps_pass fun D σ H ⟨r, e, m, k1, k2, g⟩ => g r H (.inl σ) (Ext.refl _ _) k2 k1
theorem ps_docE {x : Str} {j : Nat} {pos pos' : Pos} : PS X (.Expr (.Constant (.str x) j pos) pos') (tS S C E .pas) := ps_mono ps_doc fun D σ H ⟨r, e, m, k1, k2, g⟩ => g r H (.inl σ) (Ext.refl _ _) k2 k1
theorem ps_retE {e : Expr} {a : Ex} {pos : Pos} (he : PE X e (tX S C E a)) : PS X (.Return (some e) pos) (tS S C E (.ret a)) := by
  refine ps_mono (ps_ret (pe_val he)) fun D σ H ⟨r, n, m, k1, k2, g⟩ => ?_
  rw [Mi.exec] at g
  exact ⟨r, n, m, k1, k2, GE.bind (x := (evX S.P C a n m).bind toV) g (fun v m1 r1 H1 y _ e1 k3 q g1 => g1 r1 H1 (.inr y) (Ext.refl _ _) k3 q) anti_f⟩
theorem ps_retNE {pos : Pos} : PS X (.Return none pos) (tS S C E (.ret (.cst .non))) := by
  refine ps_mono ps_retN fun D σ H ⟨r, n, m, k1, k2, g⟩ => ?_
  rw [Mi.exec, ev, evX] at g
  exact g r H (.inr .non) (Ext.refl _ _) k2 .non
theorem ps_setE {i : Nat} {x : Str} {e : Expr} {a : Ex} {pos pos' : Pos} (hN : X.N.Nodup) (h : Sto X i x) (he : PE X e (tX S C E a)) (hs : swapsWith e (some (.Name x pos')) pos.line X.env = Pure.pure false) : PS X (.Assign [.Name x pos'] e pos) (tS S C E (.set i a)) := by
  refine ps_mono (ps_set hN h.ix h.lc (pe_val he) hs h.fn) fun D σ H ⟨r, n, m, k1, k2, g⟩ => ?_
  rw [Mi.exec] at g
  exact ⟨r, n, m, k1, k2, GE.bind (x := (evX S.P C a n m).bind toV) g (fun v m1 r1 H1 y _ e1 k3 q g1 => g1 r1 H1 (.inl _) (Ext.refl _ _) k3 ((k1.ext e1).set i q)) anti_f⟩
theorem ps_setLcE {i : Nat} {y : Str} {elt tge iter : Expr} {ifs : List Expr} {scope : Scope} {own : List (Str × Nat)} {ownM : List Nat} {pos spos py : Pos} {tg : Tgt} {cs : List Ex} {a it : Ex} (hK : X.K = S.K) (hc : X.calm = true) (hN : X.N.Nodup) (hy : X.N[i]? = some y) (hyl : X.env.scope.names.lookup y = some .local)
    (hsw : swapsWith (.ListComp elt [⟨tge, iter, ifs, 0⟩] scope pos) (some (.Name y py)) spos.line X.env = Pure.pure true)
    (hi : PI X tge iter (iX S tg C E it)) (ok : BlkOk X.N X.env.scope scope own) (hvo : ∀ i ∈ own.map (·.2), i ∈ ownM) (hsl : ∀ i ∈ slotsT tg, i ∈ own.map (·.2))
    (hg : ∀ (s : Shared) (H : Hp) (Ca : Addr) (cl : List (Str × Addr)) (fp : List Addr), TgE (X.blk s H scope (compEnvC scope cl Ca X.env) fp) tg tge)
    (ht : ∀ (s : Shared) (H : Hp) (Ca : Addr) (cl : List (Str × Addr)) (fp : List Addr), PTs (X.blk s H scope (compEnvC scope cl Ca X.env) fp) ifs (tTs S C E0 cs))
    (he : ∀ (s : Shared) (H : Hp) (Ca : Addr) (cl : List (Str × Addr)) (fp : List Addr), PE (X.blk s H scope (compEnvC scope cl Ca X.env) fp) elt (tX S C E0 a))
    (hs : ∀ x, foldedSetIterable iter X.env x = (Pure.pure x : Sem Value)) : PS X (.Assign [.Name y py] (.ListComp elt [⟨tge, iter, ifs, 0⟩] scope pos) spos) (tS S C E (.set i (.lcm ownM tg it cs a))) := by
  refine ps_mono (ps_setLc hc hN hy hyl hsw hi ok (fun s H Ca cl fp => pg_any (X := X.blk s H scope (compEnvC scope cl Ca X.env) fp) hK hc hN (hg s H Ca cl fp)) ht (fun s H Ca cl fp => pe_val (he s H Ca cl fp)) hs) fun D σ H ⟨r, n, m, k1, k2, g⟩ => ?_
  rw [Mi.exec] at g
  refine t_lcm (S := S) (C := C) (E := E) (own := ownM) hvo hsl (tV_tX ⟨r, n, m, k1, k2, GE.bind (x := (evX S.P C (.lcm ownM tg it cs a) n m).bind toV) g (fun v m1 r1 H1 y _ e1 k3 q g1 => g1 r1 H1 (.inl _) (Ext.refl _ _) k3 ((k1.ext e1).set i q)) anti_f⟩)
theorem ps_expE {e : Expr} {a : Ex} {pos : Pos} (he : PE X e (tX S C E a)) (hs : swapsWith e none pos.line X.env = Pure.pure false) : PS X (.Expr e pos) (tS S C E (.exp a)) := by
  refine ps_mono (ps_expr he hs) fun D σ H ⟨r, n, m, k1, k2, g⟩ => ?_
  rw [Mi.exec] at g
  exact ⟨r, n, m, k1, k2, GE.bind g (fun v m1 r1 H1 y _ e1 k3 q g1 => g1 r1 H1 (.inl _) (Ext.refl _ _) k3 (k1.ext e1)) anti_f⟩
theorem ps_augE {i : Nat} {x : Str} {e : Expr} {a : Ex} {pos pos' : Pos} (hN : X.N.Nodup) (h : Sto X i x) (he : PE X e (tX S C E a)) : PS X (.AugAssign (.Name x pos') .Add e pos) (tS S C E (.aug i a)) := by
  refine ps_mono (ps_aug hN h.ix h.lc (pe_val he) ip_add h.fn) fun D σ H ⟨r, n, m, k1, k2, g⟩ => ?_
  rw [Mi.exec] at g
  cases q : n[i]? with
  | none => rw [q] at g; exact (show False from g).elim
  | some o =>
    rw [q] at g
    cases o with
    | none => exact (show False from g).elim
    | some v =>
      cases v with
      | int z =>
        obtain ⟨y, hy, hv⟩ := k1.get i _ q
        cases hv.int_inv
        refine ⟨_, hy, r, n, m, k1, k2, GE.bind (x := (evX S.P C a n m).bind toV) g (fun v m1 r1 H1 y _ e1 k3 q g1 => ?_) anti_f⟩
        cases v with
        | int w =>
          cases RV.int_inv q
          exact ⟨z, w, rfl, rfl, g1 r1 H1 (.inl _) (Ext.refl _ _) k3 ((k1.ext e1).set i (.int _))⟩
        | _ => exact (show False from g1).elim
      | _ => exact (show False from g).elim
theorem ps_ifE {c : Expr} {a b : List Stmt} {z : Ex} {l1 l2 : List Mi.St} {pos : Pos} (hc : PT X c (tB2 S C E z)) (ha : PSs X a (tSs S C E l1)) (hb : PSs X b (tSs S C E l2)) : PS X (.If c a b pos) (tS S C E (.ife z l1 l2)) := by
  refine ps_mono (ps_if hc ha hb) fun D σ H ⟨r, n, m, k1, k2, g⟩ => ?_
  rw [Mi.exec] at g
  refine ⟨r, n, m, k1, k2, (as_t (x := (evX S.P C z n m).bind toV) anti_f g).imp fun t H1 ⟨r1, m1, e1, k3, g1⟩ => ?_⟩
  cases t with
  | true =>
    rw [if_pos rfl] at g1 ⊢
    exact ⟨r1, n, m1, k1.ext e1, k3, g1⟩
  | false =>
    rw [if_neg Bool.false_ne_true] at g1 ⊢
    exact ⟨r1, n, m1, k1.ext e1, k3, g1⟩
theorem ps_whileE' {c : Expr} {b : List Stmt} {z : Ex} {l : List Mi.St} {pos : Pos} (hp : PassesOwn (model X.prog X.w) X.A X.env X.xe) (hc : PT X c (tB2 S C E z)) (hb : PSs X b (tSs S C E l)) : PS X (.While c b [] pos) (tS S C E (.wle z l)) := by
  refine ps_mono (ps_while hp hc hb) fun D σ H ⟨r, n, m, k1, k2, g⟩ => ?_
  rw [Mi.exec] at g
  refine ⟨fun k σ' H' => ∃ r' n' m', RE S r' H' n' σ' ∧ RH S r' m' H' ∧ GE S (Rfl S) r' H' (QD D) E (whileLoop (fun e m => asB (ev S.P C z e m)) (fun e m => Mi.execs S.P C l e m) k n' m'), ⟨fuelW, r, n, m, k1, k2, g⟩, ?_⟩
  rintro k σ' H' ⟨r', n', m', q1, q2, g'⟩
  cases k with
  | zero => exact (show False from g').elim
  | succ k =>
    rw [whileLoop] at g'
    refine ⟨r', n', m', q1, q2, (as_t (x := (evX S.P C z n' m').bind toV) anti_f g').imp fun t H1 ⟨r1, m1, e1, k3, g1⟩ => ?_⟩
    cases t with
    | true =>
      rw [if_pos rfl] at g1 ⊢
      refine ⟨fun σ'' H'' => ∃ r' n' m', RE S r' H'' n' σ'' ∧ RH S r' m' H'' ∧ GE S (Rfl S) r' H'' (QD D) E (whileLoop (fun e m => asB (ev S.P C z e m)) (fun e m => Mi.execs S.P C l e m) k n' m'), fun σ'' H'' h => ⟨k, by omega, h⟩, ?_⟩
      refine ⟨r1, n', m1, q1.ext e1, k3, GE.bind g1 (fun f m2 r2 H2 b _ e2 k4 q g2 => ?_) anti_f⟩
      cases f with
      | next e3 =>
        cases b with
        | inl σ2 => exact ⟨r2, e3, m2, q, k4, g2⟩
        | inr y => exact (show False from q).elim
      | ret v =>
        cases b with
        | inl σ2 => exact (show False from q).elim
        | inr y => exact g2 r2 H2 (.inr y) (Ext.refl _ _) k4 q
    | false =>
      rw [if_neg Bool.false_ne_true] at g1 ⊢
      exact g1 r1 H1 (.inl _) (Ext.refl _ _) k3 (q1.ext e1)
/-- the turns of a for -/
theorem for_turns {tg : Tgt} {l : List Mi.St} {src : List (Nat × List PV)} {xs : List PV} {J : It} {r0 : List Addr} {H0 : Hp} {σ : L2.St} {e : Env} {D : Ends} {m0 : MH}
    (hf : Feeds S tg r0 H0 src xs J) (he : RE S r0 H0 e σ) (hR : RH S r0 m0 H0) (g : GE S (Rfl S) r0 H0 (QD D) E (forLoop src tg (fun e m => Mi.execs S.P C l e m) xs e m0)) :
    ∃ W : Nat → Nat → L2.St → Hp → Prop, (∃ m, W 0 m σ H0) ∧ ∀ i m σ H, W i m σ H → (J.stop i H ∧ D.nx σ H) ∨ (J.go i H ∧ ∃ N : L2.St → Hp → Prop, (∀ σ' H', N σ' H' → ∃ m', m' < m ∧ W (i + 1) m' σ' H') ∧ ∀ x H', J.yld i H x H' → gB S tg x σ H' fun σ2 H2 => tSs S C E l { D with nx := N, ct := N, bk := D.nx } σ2 H2) := by
  refine ⟨fun i k σ H => k = xs.length - i ∧ i ≤ xs.length ∧ ∃ r m e, Ext r0 r H0 H ∧ RH S r m H ∧ RE S r H e σ ∧ GE S (Rfl S) r H (QD D) E (forLoop src tg (fun e m => Mi.execs S.P C l e m) (xs.drop i) e m),
    ⟨_, rfl, Nat.zero_le _, r0, m0, e, Ext.refl _ _, hR, he, g⟩, ?_⟩
  rintro i k σ H ⟨rfl, hi, r, m, e, x1, R1, he1, g1⟩
  by_cases hlt : i < xs.length
  · rw [List.drop_eq_getElem_cons hlt, forLoop] at g1
    have hx : xs[i]? = some xs[i] := List.getElem?_eq_getElem hlt
    generalize xs[i] = x at g1 hx
    obtain ⟨hsrc, g1⟩ := g1.guard
    obtain ⟨hgo, hy⟩ := (hf i r m H x1 R1 hsrc).1 x hx
    refine .inr ⟨hgo, fun σ' H' => ∃ r m e, Ext r0 r H0 H' ∧ RH S r m H' ∧ RE S r H' e σ' ∧ GE S (Rfl S) r H' (QD D) E (forLoop src tg (fun e m => Mi.execs S.P C l e m) (xs.drop (i + 1)) e m), fun σ' H' h => ⟨_, by omega, rfl, hlt, h⟩, fun y H' hyy => ?_⟩
    obtain ⟨x2, R2, hv⟩ := hy y H' hyy
    cases hb : bindT tg x e with
    | none => rw [hb] at g1; exact (show False from g1).elim
    | some e1 =>
      rw [hb] at g1
      have g1 : GE S (Rfl S) r H (QD D) E ((Mi.execs S.P C l e1 m).bind fun fl m1 => match fl with
        | .next e2 => forLoop src tg (fun e m => Mi.execs S.P C l e m) (xs.drop (i + 1)) e2 m1
        | .ret v => .ok (.ret v) m1) := g1
      refine ⟨r, e, x, e1, he1.ext x2, hv, hb, fun σ1 hσ but => ⟨r, e1, m, hσ, R2, GE.bind (GE.ext anti_f g1 x2) (fun f m2 r2 H2 b _ e2 k4 q g2 => ?_) anti_f⟩⟩
      cases f with
      | next e3 =>
        cases b with
        | inl σ2 => exact ⟨r2, m2, e3, (x1.trans x2).trans e2, k4, q, g2⟩
        | inr y => exact (show False from q).elim
      | ret v =>
        cases b with
        | inl σ2 => exact (show False from q).elim
        | inr y => exact g2 r2 H2 (.inr y) (Ext.refl _ _) k4 q
  · rw [List.drop_of_length_le (by omega), forLoop] at g1
    obtain ⟨hsrc, g1⟩ := g1.guard
    exact .inl ⟨(hf i r m H x1 R1 hsrc).2 (by omega), g1 r H (.inl _) (Ext.refl _ _) R1 he1⟩
theorem ps_forE' {tge iter : Expr} {body : List Stmt} {tg : Tgt} {it : Ex} {l : List Mi.St} {pos : Pos} (hK : X.K = S.K) (hN : X.N.Nodup) (hp : PassesOwn (model X.prog X.w) X.A X.env X.xe) (hc : X.calm = true)
    (hi : PI X tge iter (iX S tg C E it)) (hg : TgE X tg tge) (hb : PSs X body (tSs S C E l)) (hs : ∀ x, foldedSetIterable iter X.env x = (Pure.pure x : Sem Value)) : PS X (.For tge iter body [] pos) (tS S C E (.for tg it l)) := by
  refine ps_mono (ps_for hp hc hi (pg_any hK hc hN hg) hb hs) fun D σ H ⟨r, n, m, k1, k2, g⟩ => ?_
  rw [Mi.exec] at g
  have g := (evI_bind (P := S.P) (C := C) (a := it) (e := n) (m := m) (k := fun src xs m => forLoop src tg (fun e m => Mi.execs S.P C l e m) xs n m)) ▸ g
  exact ⟨r, n, m, k1, k2, GE.bind g (fun p m1 r1 H1 J _ e1 k3 q g1 => for_turns q (k1.ext e1) k3 g1) anti_f⟩
def gUs (S : Fx) (is : List Nat) : TGs := fun vs σ H Q => ∃ r e xs e1, RE S r H e σ ∧ RVs S.K r H xs vs ∧ unpack is xs e = some e1 ∧ ∀ σ1, RE S r H e1 σ1 → Q σ1 H
/-- names and their slots -/
inductive Nms (X : Cx) : List Nat → List Expr → Prop where
  | nil : Nms X [] []
  | cons {i : Nat} {x : Str} {p : Pos} {is : List Nat} {es : List Expr} (h : Sto X i x) (t : Nms X is es) : Nms X (i :: is) (.Name x p :: es)
theorem pgs_mono {es : List Expr} {t t' : TGs} (h : PGs X es t) (i : ∀ v σ H Q, t' v σ H Q → t v σ H Q) : PGs X es t' := ⟨fun pins s σ H v u Q I r q => h.run pins s σ H v u Q I r (i v σ H Q q)⟩
theorem pgs_names (hN : X.N.Nodup) : ∀ {is : List Nat} {es : List Expr}, Nms X is es → PGs X es (gUs S is)
  | _, _, .nil => pgs_mono pgs_nil fun vs σ H Q ⟨r, e, xs, e1, k1, k2, hu, q⟩ => by
    cases xs with
    | nil =>
      cases k2
      cases hu
      exact ⟨rfl, q σ k1⟩
    | cons x xs => simp [unpack] at hu
  | _, _, .cons h t => pgs_mono (pgs_cons (pg_name hN h.ix h.lc h.fn) (pgs_names hN t)) fun vs σ H Q ⟨r, e, xs, e1, k1, k2, hu, q⟩ => by
    cases xs with
    | nil => simp [unpack] at hu
    | cons x xs =>
      cases k2 with
      | cons k2 k3 =>
        rw [unpack] at hu
        exact ⟨_, _, rfl, r, _, xs, e1, k1.set _ k2, k3, hu, q⟩
theorem nms_len : ∀ {is : List Nat} {es : List Expr}, Nms X is es → (assignEach es X.env).length = is.length
  | _, _, .nil => rfl
  | _, _, .cons h t => by
    show (assignEach _ X.env).length + 1 = _ + 1
    rw [nms_len t]
theorem nms_star : ∀ {is : List Nat} {es : List Expr}, Nms X is es → (assignEach es X.env).findIdx? (·.1) = none
  | _, _, .nil => rfl
  | _, _, .cons (p := p) (x := x) (es := es) h t => by
    show List.findIdx? _ ((false, assign (.Name x p) X.env) :: assignEach es X.env) = none
    rw [List.findIdx?_cons, if_neg Bool.false_ne_true, nms_star t]
    rfl
def gU (S : Fx) (is : List Nat) : TG := fun v σ H Q => ∃ r e xs e1, RE S r H e σ ∧ RV S.K r H (.tup xs) v ∧ unpack is xs e = some e1 ∧ ∀ σ1, RE S r H e1 σ1 → Q σ1 H
theorem unpack_len : ∀ {is : List Nat} {xs : List PV} {e e1 : Env}, unpack is xs e = some e1 → xs.length = is.length
  | [], [], _, _, _ => rfl
  | [], _ :: _, _, _, h => by simp [unpack] at h
  | _ :: _, [], _, _, h => by simp [unpack] at h
  | i :: is, x :: xs, e, e1, h => by
    rw [unpack] at h
    rw [List.length_cons, List.length_cons, unpack_len h]
theorem pg_names (hK : X.K = S.K) (hc : X.calm = true) (hN : X.N.Nodup) {is : List Nat} {es : List Expr} {k : Nat} {pos : Pos} (h : Nms X is es) : PG X (.Tuple es k pos) (gU S is) :=
  pg_mono (pg_tup hc (pgs_names (S := S) hN h) (nms_len h) (nms_star h)) fun v σ H Q ⟨r, e, xs, e1, k1, k2, hu, q⟩ => by
    obtain ⟨a, ys, rfl, h1, h2⟩ := k2.tup_inv
    rw [← hK] at h1
    exact ⟨a, ys, rfl, h1, by rw [← h2.length, unpack_len hu], r, e, xs, e1, k1, h2, hu, q⟩
theorem ps_unpE {es : List Expr} {is : List Nat} {e : Expr} {a : Ex} {k : Nat} {pos p2 : Pos} (hK : X.K = S.K) (hc : X.calm = true) (hN : X.N.Nodup) (h : Nms X is es) (he : PE X e (tX S C E a))
    (hs : swapsWithSole [.Tuple es k p2] e pos.line X.env = Pure.pure false) (hw : swappedStores [.Tuple es k p2] e X.env = Pure.pure none) : PS X (.Assign [.Tuple es k p2] e pos) (tS S C E (.unp is a)) := by
  refine ps_mono (ps_asg (pe_val he) (pg_names (S := S) hK hc hN h) hs hw) fun D σ H ⟨r, n, m, k1, k2, g⟩ => ?_
  rw [Mi.exec] at g
  refine ⟨r, n, m, k1, k2, GE.bind (x := (evX S.P C a n m).bind toV) g (fun v m1 r1 H1 y _ e1 k3 q g1 => ?_) anti_f⟩
  cases v with
  | tup xs =>
    have g1 : GE S (Rfl S) r1 H1 (QD D) E ((ofO (unpack is xs n) m1).bind fun e m => .ok (.next e) m) := g1
    cases hu : unpack is xs n with
    | none => rw [hu] at g1; exact (show False from g1).elim
    | some e2 =>
      rw [hu] at g1
      exact ⟨r1, n, xs, e2, k1.ext e1, q, hu, fun σ1 hσ => g1 r1 H1 (.inl σ1) (Ext.refl _ _) k3 hσ⟩
  | _ => exact (show False from g1).elim
/-- a tuple of targets = a tuple of terms, stored from the tuple -/
theorem ps_parE {es es2 : List Expr} {is : List Nat} {as : List Ex} {k k2' : Nat} {pos p2 p3 : Pos} (hK : X.K = S.K) (hc : X.calm = true) (hN : X.N.Nodup) (h : Nms X is es) (ha : PA X es2 (tVs S C E as)) (hl : as.length ≤ 1000)
    (hw : swappedStores [.Tuple es k p2] (.Tuple es2 k2' p3) X.env = Pure.pure none) : PS X (.Assign [.Tuple es k p2] (.Tuple es2 k2' p3) pos) (tS S C E (.par is as)) := by
  refine ps_mono (ps_asg (pe_val (pe_tupE ha hl)) (pg_names (S := S) hK hc hN h) rfl hw) fun D σ H ⟨r, n, m, k1, k2, g⟩ => ?_
  rw [Mi.exec] at g
  refine ⟨r, n, m, k1, k2, ?_⟩
  rw [evX]
  cases q : evs S.P C as n m with
  | exc c v m1 => rw [q] at g; exact g
  | stuck => rw [q] at g; exact g
  | ok vs m1 =>
    rw [q] at g
    intro r1 H1 y e1 k3 hv
    have g := GE.ext anti_f g e1
    cases hu : unpack is vs n with
    | none =>
      simp only [Res.bind_ok, hu] at g
      exact (show False from g).elim
    | some e2 =>
      simp only [Res.bind_ok, hu] at g
      exact ⟨r1, n, vs, e2, k1.ext e1, hv, hu, fun σ1 hσ => g r1 H1 (.inl σ1) (Ext.refl _ _) k3 hσ⟩
theorem ps_par2E {i j : Nat} {x y : Str} {a b : Expr} {as : List Ex} {px py pt : Pos} {kt k2 : Nat} {pt2 pos : Pos} (hc : X.calm = true) (hN : X.N.Nodup) (hi : X.N[i]? = some x) (hj : X.N[j]? = some y) (hij : i ≠ j)
    (hx : X.env.scope.names.lookup x = some .local) (hy : X.env.scope.names.lookup y = some .local) (ha : PA X [a, b] (tVs S C E as)) (hw : swappedStores [.Tuple [.Name x px, .Name y py] kt pt] (.Tuple [a, b] k2 pt2) X.env = Pure.pure (some [x, y])) :
    PS X (.Assign [.Tuple [.Name x px, .Name y py] kt pt] (.Tuple [a, b] k2 pt2) pos) (tS S C E (.par [i, j] as)) := by
  refine ps_mono (ps_par hc hN hi hj hij hx hy ha hw rfl) fun D σ H ⟨r, n, m, k1, k2, g⟩ => ?_
  rw [Mi.exec] at g
  refine ⟨r, n, m, k1, k2, GE.bind g (fun vs m1 r1 H1 ys _ e1 k3 q g1 => ?_) anti_f⟩
  cases hu : unpack [i, j] vs n with
  | none => rw [hu] at g1; exact (show False from g1).elim
  | some e2 =>
    rw [hu] at g1
    match vs, q, hu with
    | [u, v], q, hu =>
      obtain ⟨y1, y2, rfl, q1, q2⟩ := RVs.two_inv q
      cases hu
      exact ⟨y1, y2, rfl, g1 r1 H1 (.inl _) (Ext.refl _ _) k3 (((k1.ext e1).set _ q1).set _ q2)⟩
    | [], _, hu => simp [unpack] at hu
    | [_], _, hu => simp [unpack] at hu
    | _ :: _ :: _ :: _, _, hu => simp [unpack] at hu
theorem ps_par3E {i j l : Nat} {x y z : Str} {a b c : Expr} {as : List Ex} {px py pz pt : Pos} {kt k2 : Nat} {pt2 pos : Pos} (hc : X.calm = true) (hN : X.N.Nodup) (hi : X.N[i]? = some x) (hj : X.N[j]? = some y) (hl : X.N[l]? = some z) (hij : i ≠ j) (hil : i ≠ l) (hjl : j ≠ l)
    (hx : X.env.scope.names.lookup x = some .local) (hy : X.env.scope.names.lookup y = some .local) (hz : X.env.scope.names.lookup z = some .local) (ha : PA X [a, b, c] (tVs S C E as)) (hw : swappedStores [.Tuple [.Name x px, .Name y py, .Name z pz] kt pt] (.Tuple [a, b, c] k2 pt2) X.env = Pure.pure (some [x, y, z])) :
    PS X (.Assign [.Tuple [.Name x px, .Name y py, .Name z pz] kt pt] (.Tuple [a, b, c] k2 pt2) pos) (tS S C E (.par [i, j, l] as)) := by
  refine ps_mono (ps_par3 hc hN hi hj hl hij hil hjl hx hy hz ha hw rfl) fun D σ H ⟨r, n, m, k1, k2, g⟩ => ?_
  rw [Mi.exec] at g
  refine ⟨r, n, m, k1, k2, GE.bind g (fun vs m1 r1 H1 ys _ e1 k3 q g1 => ?_) anti_f⟩
  cases hu : unpack [i, j, l] vs n with
  | none => rw [hu] at g1; exact (show False from g1).elim
  | some e2 =>
    rw [hu] at g1
    match vs, q, hu with
    | [u, v, w], q, hu =>
      obtain ⟨y1, y2, y3, rfl, q1, q2, q3⟩ := RVs.three_inv q
      cases hu
      exact ⟨y1, y2, y3, rfl, g1 r1 H1 (.inl _) (Ext.refl _ _) k3 ((((k1.ext e1).set _ q1).set _ q2).set _ q3)⟩
    | [], _, hu => simp [unpack] at hu
    | [_], _, hu => simp [unpack] at hu
    | [_, _], _, hu => simp [unpack] at hu
    | _ :: _ :: _ :: _ :: _, _, hu => simp [unpack] at hu
end
end Mi
end

section
set_option autoImplicit false
set_option Elab.async false
set_option linter.all false
set_option maxRecDepth 100000
namespace Mi
open PySem PySem.Spec PyProof.Rows L2
variable {S : Fx}
/-- o.m is plain where o is no call without arguments of a name -/
def baseOk : Expr → Bool
  | .Call (.Name _ _) [] [] _ => false
  | _ => true
theorem base_ok {o : Expr} {f : Str} {env : PySem.Env} {w : Sem Value} (h : baseOk o = true) : attributeBase o f env w = w := by
  cases o with
  | Call g as ks p =>
    cases g with
    | Name x q =>
      cases as with
      | nil =>
        cases ks with
        | nil => cases h
        | cons k ks => rfl
      | cons a as => rfl
    | _ => rfl
  | _ => rfl
/-- the value is of that built-in type, without a dict of its own -/
def TyG (X : Cx) (T : String) (x : V) (H : Hp) : Prop := ∀ (pins : List (Addr × Obj)) (σ : L2.St) (s : Shared) (v : Value), Inv X pins σ H s → RelV x v → s.TypeIs v T ∧ ∀ a, v = .ref a → ∃ ob, s.heap.get? a = some ob ∧ ob.dict = none
def tMG (X : Cx) (T : String) (r : V → List V → Hp → VK → Prop) (to : TE) (t : TA) : TE := fun σ H Q => to σ H fun x H1 => TyG X T x H1 ∧ t σ H1 fun vs H2 => r x vs H2 Q
section
variable {X : Cx} {C : Nat → List PV → MH → Res PV} {E : XK}
theorem few_ok {es : List Expr} {pos : Pos} (hp : es.all plainX = true) (hl : es.length < 20) :
    ((backTo pos (starEach es X.env)).all (fun x => !x.1) && (backToKw pos (keywordEach [] X.env)).all (fun x => x.1.isSome) && decide (es.length + ([] : List Keyword).length + (if ([] : List Keyword).isEmpty then 0 else 1) < 30)) = true := by
  have h1 : ∀ {es : List Expr}, es.all plainX = true → (backTo pos (starEach es X.env)).all (fun x => !x.1) = true := by
    intro es
    induction es with
    | nil => exact fun _ => rfl
    | cons e es ih =>
      intro h
      rw [List.all_cons, Bool.and_eq_true] at h
      rw [star_plain h.1]
      unfold backTo
      rw [List.map_cons, List.all_cons]
      exact ih h.2
  rw [h1 hp, Bool.true_and, Bool.and_eq_true]
  refine ⟨rfl, decide_eq_true ?_⟩
  show es.length + 0 + 0 < 30
  omega
/-- the call of a built-in's method on these values -/
def CallM (X : Cx) (id : String) (x : V) (vs : List V) (H : Hp) (Q : VK) : Prop := ∀ (pins : List (Addr × Obj)) (s : Shared) (σ : L2.St) (v : Value) (us : List Value), Inv X pins σ H s → RelV x v → Vals vs us → wpAny (model X.prog X.w) X.A (call (.builtin id) (v :: us)) (EP X pins σ Q) X.xe s
/-- the method is that of the value's type -/
structure MtO (name : Str) (T id : String) : Prop where
  pa : PlainAttrs T
  slot : Slot T name id
  ty : typeOf (.builtin id) = Pure.pure (.type "method_descriptor")
def tMA (X : Cx) (name : Str) (to : TE) (t : TA) : TE := fun σ H Q => to σ H fun x H1 => ∃ T id, MtO name T id ∧ TyG X T x H1 ∧ t σ H1 fun vs H2 => CallM X id x vs H2 Q
theorem pe_mtA {name : Str} {o e : Expr} {es : List Expr} {to : TE} {t : TA} {apos cpos : Pos}
    (ho : PE X o to) (ha : PA X (e :: es) t) (hb : baseOk o = true) (hp : (e :: es).all plainX = true) (hl : (e :: es).length < 20) (hline : (apos.endLine == cpos.line) = true) :
    PE X (.Call (.Attribute o name apos) (e :: es) [] cpos) (tMA X name to t) := by
  refine ⟨fun pins s σ H Q I h => ?_⟩
  have hp2 := hp
  rw [List.all_cons, Bool.and_eq_true] at hp2
  refine wpAny_Call_method_late (base_ok hb) (few_ok hp hl) hline rfl (thn (ho.run pins s σ H _ I h) fun v s1 ⟨x, H1, I1, r1, T, id, mo, ty, q1⟩ => ?_)
  obtain ⟨t1, t2⟩ := ty pins σ s1 v I1 r1
  refine ⟨T, id, mo.pa, mo.slot, mo.ty, t1, t2, ?_⟩
  have hA := ha.run cpos pins s1 σ H1 _ I1 q1
  rw [star_plain hp2.1] at hA ⊢
  refine Calls.callWith_builtin ?_ (Calls.evalArgs_plain ?_)
  · show (false || (backTo cpos (starEach es X.env)).any (·.1)) = false
    rw [Bool.false_or]
    exact no_star hp2.2
  · exact thn hA fun us s2 ⟨vs, H2, I2, r2, q2⟩ => q2 pins s2 σ v us I2 r1 r2
theorem pe_mtA0 {name : Str} {o : Expr} {to : TE} {apos cpos : Pos} (ho : PE X o to) (hb : baseOk o = true) (hline : (apos.endLine == cpos.line) = true) :
    PE X (.Call (.Attribute o name apos) [] [] cpos) (tMA X name to tNil) := by
  refine ⟨fun pins s σ H Q I h => ?_⟩
  refine wpAny_Call_method0_late (base_ok hb) hline (thn (ho.run pins s σ H _ I h) fun v s1 ⟨x, H1, I1, r1, T, id, mo, ty, q1⟩ => ?_)
  obtain ⟨t1, t2⟩ := ty pins σ s1 v I1 r1
  exact ⟨T, id, mo.pa, mo.slot, mo.ty, t1, t2, Calls.callWith_builtin rfl (PySem.evalArgs_none (q1 pins s1 σ v [] I1 r1 .nil))⟩
theorem tyG_list {x : V} {H : Hp} {a : Addr} {ys : List V} (e : x = .ref a) (h : SqL X.K H a ys) : TyG X "list" x H := by
  subst e
  intro pins σ s v I rv
  exact tyV_is I rv (.inl ⟨rfl, ys, h⟩)
theorem tyG_tup {H : Hp} {a : Addr} {ys : List V} (h : SqT X.K H a ys) (d : NoD X.K H a) : TyG X "tuple" (.ref a) H := by
  intro pins σ s v I rv
  cases rv
  obtain ⟨is, _, ht, _⟩ := I.tuple h
  refine ⟨ht.typeIs, fun b e => ?_⟩
  cases e
  rcases d with ⟨o, u, e, hd⟩ | ⟨o, e, hd⟩
  · exact ⟨o, (show ObjOk X.prog X.w H s.heap a (.frz o u) from I.hok a _ e).1, hd⟩
  · exact ⟨o, I.kIn a o e, hd⟩
/-- a location's list is replaced -/
theorem ge_wlist {r : List Addr} {m : MH} {H : Hp} {Q : VK} {l : Nat} {a : Addr} {zs : List PV} {ys ws : List V} {v : PV} {y : V} (R : RH S r m H) (hl : r[l]? = some a) (ha : H a = some (.lst ys)) (hz : RVs S.K r H zs ws) (hv : RV S.K r H v y)
    (g : GE S (Rv S) r H Q E (.ok v (m.set l (.lst zs)))) : Q y (upd H a (.lst ws)) := by
  have x : Ext r r H (upd H a (.lst ws)) := ext_write hl ha fun z => z
  exact g r _ y x (R.write hl ha (fun z => z) (fun _ z => by cases z) (fun _ z => by cases z) ⟨ws, upd_same, hz.ext x⟩) (hv.ext x)
theorem GE.ofW {α β : Type} {R : Rel α β} {r : List Addr} {m : MH} {H : Hp} {Q : β → Hp → Prop} {l : Nat} {k : List PV → Res α} (g : GE S R r H Q E (match wlistAt m l with | some xs => k xs | none => .stuck)) : ∃ xs, wlistAt m l = some xs ∧ GE S R r H Q E (k xs) := by
  cases e : wlistAt m l with
  | none => rw [e] at g; exact (show False from g).elim
  | some xs => rw [e] at g; exact ⟨xs, rfl, g⟩
theorem app_run {r : List Addr} {m : MH} {H : Hp} {Q : VK} {o : PV} {vs : List PV} {x : V} {xs : List V} (R : RH S r m H) (ho : RV S.K r H o x) (hvs : RVs S.K r H vs xs) (g : GE S (Rv S) r H Q E (appV o vs m)) : CallM X "list.append" x xs H Q := by
  cases o with
  | loc l =>
    match vs, hvs, g with
    | [v0], hvs, g =>
      obtain ⟨zs, hw, g⟩ := GE.ofW g
      obtain ⟨b, g⟩ := GE.guard g
      obtain ⟨a, rfl, ha⟩ := ho.loc_inv
      obtain ⟨y, rfl, hy⟩ := hvs.one_inv
      obtain ⟨ys, h1, h2⟩ := R.wlist ha hw
      exact fun pins s σ v us I rx rv => mt_append pins s σ H _ _ v us Q I rx rv ⟨a, ys, y, rfl, rfl, h1, by rw [← h2.length]; exact of_decide_eq_true b, ge_wlist R ha h1 (h2.append (.one hy)) .non g⟩
    | [], _, g => exact (show False from g).elim
    | _ :: _ :: _, _, g => exact (show False from g).elim
  | _ => exact (show False from g).elim
theorem RVs.last {K : PySem.W.Frag} {r : List Addr} {H : Hp} {xs : List PV} {ys : List V} {v : PV} (h : RVs K r H xs ys) (e : xs.getLast? = some v) : ∃ y, ys[ys.length - 1]? = some y ∧ RV K r H v y := by
  rw [List.getLast?_eq_getElem?] at e
  rw [← h.length]
  exact h.get e
theorem pop_run {r : List Addr} {m : MH} {H : Hp} {Q : VK} {o : PV} {vs : List PV} {x : V} {xs : List V} (R : RH S r m H) (ho : RV S.K r H o x) (hvs : RVs S.K r H vs xs) (g : GE S (Rv S) r H Q E (popV o vs m)) : CallM X "list.pop" x xs H Q := by
  cases o with
  | loc l =>
    match vs, hvs, g with
    | [], hvs, g =>
      obtain ⟨zs, hw, g⟩ := GE.ofW g
      cases e : zs.getLast? with
      | none => rw [e] at g; exact (show False from g).elim
      | some w =>
        rw [e] at g
        obtain ⟨a, rfl, ha⟩ := ho.loc_inv
        cases hvs
        obtain ⟨ys, h1, h2⟩ := R.wlist ha hw
        obtain ⟨y, hy, hv⟩ := h2.last e
        exact fun pins s σ v us I rx rv => mt_pop pins s σ H _ _ v us Q I rx rv ⟨a, ys, y, rfl, rfl, h1, hy, ge_wlist R ha h1 h2.dropLast hv g⟩
    | _ :: _, _, g => exact (show False from g).elim
  | _ => exact (show False from g).elim
/-- the first equal item's place, as data -/
theorem idx_place {v : PV} (p : pure v = true) : ∀ {xs : List PV} {k j : Nat}, pures xs = true → indexOf v xs k = some j → ∃ i z, j = k + i ∧ (toDs xs)[i]? = some z ∧ PyData.eqv z (toD v) = true ∧ ∀ (m : Nat) (z' : PyData), m < i → (toDs xs)[m]? = some z' → PyData.eqv z' (toD v) = false
  | [], k, j, _, h => by simp [indexOf] at h
  | x :: xs, k, j, hp, h => by
    rw [pures, Bool.and_eq_true] at hp
    rw [indexOf] at h
    cases e : eqv x v with
    | true =>
      rw [e, if_pos rfl] at h
      cases h
      exact ⟨0, toD x, rfl, rfl, by rw [eqv_of x v hp.1 p]; exact e, fun m z' hm => absurd hm (by omega)⟩
    | false =>
      rw [e, if_neg Bool.false_ne_true] at h
      obtain ⟨i, z, h1, h2, h3, h4⟩ := idx_place p hp.2 h
      refine ⟨i + 1, z, by omega, h2, h3, fun m z' hm hz => ?_⟩
      cases m with
      | zero =>
        have hz : some (toD x) = some z' := hz
        cases hz
        rw [eqv_of x v hp.1 p]
        exact e
      | succ m => exact h4 m z' (by omega) hz
theorem plain_in {v : PV} {xs : List PV} (h : plainIn v xs = true) : pure v = true ∧ pures xs = true ∧ depth v ≤ 60 ∧ depths xs ≤ 60 := by
  unfold plainIn at h
  rw [Bool.and_eq_true, Bool.and_eq_true, decide_eq_true_eq] at h
  have := h.2
  rw [depths] at this
  exact ⟨h.1.1, h.1.2, by omega, by omega⟩
theorem GE.ofMap {α : Type} {r : List Addr} {m : MH} {H : Hp} {Q : VK} {o : Option α} {f : α → PV} (g : GE S (Rv S) r H Q E (ofO (o.map f) m)) : ∃ v, o = some v ∧ GE S (Rv S) r H Q E (.ok (f v) m) := by
  cases o with
  | none => exact (show False from g).elim
  | some v => exact ⟨v, rfl, g⟩
theorem indexL_run {r : List Addr} {m : MH} {H : Hp} {Q : VK} {l : Nat} {vs : List PV} {x : V} {xs : List V} (hK : X.K = S.K) (hu : X.A.units + 65 < cLine) (R : RH S r m H) (ho : RV S.K r H (.loc l) x) (hvs : RVs S.K r H vs xs) (g : GE S (Rv S) r H Q E (indexV (.loc l) vs m)) : CallM X "list.index" x xs H Q := by
  match vs, hvs, g with
  | [v0], hvs, g =>
    obtain ⟨zs, hw, g⟩ := GE.ofW g
    obtain ⟨b, g⟩ := GE.guard g
    obtain ⟨p1, p2, p3, p4⟩ := plain_in b
    obtain ⟨j, e2, g⟩ := GE.ofMap g
    obtain ⟨a, rfl, ha⟩ := ho.loc_inv
    obtain ⟨y, rfl, hy⟩ := hvs.one_inv
    obtain ⟨ys, h1, h2⟩ := R.wlist ha hw
    obtain ⟨i, z, e3, f1, f2, f3⟩ := idx_place p1 p2 e2
    have e3 : j = i := by omega
    subst e3
    have d1 : Dp X.K H y (toD v0) := by rw [hK]; exact dp_of hy p1
    have d2 : Dp X.K H (.ref a) (.list (toDs zs)) := by rw [hK]; exact .lst (.inl (.inl h1)) (dps_of h2 p2)
    exact fun pins s σ v us I rx rv => mt_indexD hu pins s σ H _ _ v us Q I rx rv ⟨a, y, toD v0, toDs zs, j, z, rfl, rfl, d2, d1, shaped_ofL p2 p4, shaped_of p1 (by omega), f1, f2, f3, g.here R (.int _)⟩
  | [], _, g => exact (show False from g).elim
  | _ :: _ :: _, _, g => exact (show False from g).elim
theorem count_data {v : PV} (p : pure v = true) : ∀ {xs : List PV}, pures xs = true → countOf v xs = (toDs xs).countP fun z => PyData.eqv z (toD v)
  | [], _ => rfl
  | x :: xs, h => by
    rw [pures, Bool.and_eq_true] at h
    rw [countOf, toDs, List.countP_cons, count_data p h.2, eqv_of x v h.1 p]
    cases eqv x v <;> simp <;> omega
theorem count_run {r : List Addr} {m : MH} {H : Hp} {Q : VK} {zs : List PV} {vs : List PV} {x : V} {xs : List V} (hK : X.K = S.K) (hu : X.A.units + 65 < cLine) (R : RH S r m H) (ho : RV S.K r H (.tup zs) x) (hvs : RVs S.K r H vs xs) (g : GE S (Rv S) r H Q E (countV (.tup zs) vs m)) : CallM X "tuple.count" x xs H Q := by
  match vs, hvs, g with
  | [v0], hvs, g =>
    obtain ⟨b, g⟩ := GE.guard g
    obtain ⟨p1, p2, p3, p4⟩ := plain_in b
    obtain ⟨a, ys, rfl, h1, h2⟩ := ho.tup_inv
    obtain ⟨y, rfl, hy⟩ := hvs.one_inv
    have d1 : Dp X.K H y (toD v0) := by rw [hK]; exact dp_of hy p1
    have d2 := dps_of h2 p2
    rw [← hK] at h1 d2
    intro pins s σ v us I rx rv
    cases rx
    obtain ⟨u, rfl, ru⟩ := vals1 rv
    obtain ⟨as, r1⟩ := Dp.reads I _ y u d1 ru
    obtain ⟨is, v1, ⟨oo, e1, e2, n, e3⟩, hz⟩ := I.tuple h1
    obtain ⟨bs, r2⟩ := Dp.readsAll I _ _ is d2 v1
    obtain ⟨cls, dd, data, sl⟩ := oo
    simp only at e2 e3
    subst e2 e3
    have lay := lays_of zs p2
    have room := room_in_shaped (A := X.A) (xs := toDs zs) (shaped_of p1 (by omega)) (by omega)
    refine PySem.call_meets PySem.F.slot_tuple_count ⟨_, e1, rfl⟩ PySem.F.entry_tuple_count (PySem.F.args_tuple_count_2 _ _)
      (SeqAt.tuple_countAt a is.toArray n dd sl u (fun z => PyData.eqv (SeqAt.readOf s.heap z) (toD v0))) ⟨e1, SeqAt.items_eqAt (vs := is.toArray) (show ReadsAll s.heap is.toArray.toList (toDs zs) bs from r2) r1 lay (lay_of v0 p1) room, ?_⟩
    have e4 : is.toArray.toList.countP (fun z => PyData.eqv (SeqAt.readOf s.heap z) (toD v0)) = countOf v0 zs := by
      rw [count_data p1 p2, ← SeqAt.readsAll_map (toDs zs) is bs lay r2, List.countP_map]
      rfl
    rw [e4]
    exact ⟨.int (countOf v0 zs : Nat), H, I.tok _, ⟨_, rfl⟩, g.here R (.int _)⟩
  | [], _, g => exact (show False from g).elim
  | _ :: _ :: _, _, g => exact (show False from g).elim
end
end Mi
end

section
set_option autoImplicit false
set_option Elab.async false
set_option linter.all false
set_option maxRecDepth 100000
namespace Mi
open PySem PySem.Spec PyProof.Rows L2
variable {S : Fx}
section
variable {X : Cx} {C : Nat → List PV → MH → Res PV} {E : XK}
theorem indexT_run {r : List Addr} {m : MH} {H : Hp} {Q : VK} {zs : List PV} {vs : List PV} {x : V} {xs : List V} (hK : X.K = S.K) (hu : X.A.units + 65 < cLine) (R : RH S r m H) (ho : RV S.K r H (.tup zs) x) (hvs : RVs S.K r H vs xs) (g : GE S (Rv S) r H Q E (indexV (.tup zs) vs m)) : CallM X "tuple.index" x xs H Q := by
  match vs, hvs, g with
  | [v0], hvs, g =>
    obtain ⟨b, g⟩ := GE.guard g
    obtain ⟨p1, p2, p3, p4⟩ := plain_in b
    obtain ⟨j, e2, g⟩ := GE.ofMap g
    obtain ⟨a, ys, rfl, h1, h2⟩ := ho.tup_inv
    obtain ⟨y, rfl, hy⟩ := hvs.one_inv
    obtain ⟨i, z, e3, f1, f2, f3⟩ := idx_place p1 p2 e2
    have e3 : j = i := by omega
    subst e3
    have d1 : Dp X.K H y (toD v0) := by rw [hK]; exact dp_of hy p1
    have d2 := dps_of h2 p2
    rw [← hK] at h1 d2
    intro pins s σ v us I rx rv
    cases rx
    obtain ⟨u, rfl, ru⟩ := vals1 rv
    obtain ⟨as, r1⟩ := Dp.reads I _ y u d1 ru
    obtain ⟨is, v1, ⟨oo, e1, e2, n, e3⟩, hz⟩ := I.tuple h1
    obtain ⟨bs, r2⟩ := Dp.readsAll I _ _ is d2 v1
    obtain ⟨cls, dd, data, sl⟩ := oo
    simp only at e2 e3
    subst e2 e3
    have lay := lays_of zs p2
    have room := room_in_shaped (A := X.A) (xs := toDs zs) (shaped_of p1 (by omega)) (by omega)
    have hmap := SeqAt.readsAll_map (toDs zs) is bs lay r2
    have hlen : is.length = (toDs zs).length := by rw [← hmap, List.length_map]
    have hj : j < is.toArray.size := by
      rw [List.size_toArray, hlen]
      exact (List.getElem?_eq_some_iff.mp f1).1
    have at_ : ∀ (k : Nat) (hk : k < is.toArray.size) (w : PyData), (toDs zs)[k]? = some w → SeqAt.readOf s.heap is.toArray[k] = w := fun k hk w hw => by
      have hk2 : k < is.length := by simpa using hk
      rw [← hmap, List.getElem?_map, List.getElem?_eq_getElem hk2] at hw
      exact Option.some.inj hw
    refine PySem.call_meets PySem.F.slot_tuple_index ⟨_, e1, rfl⟩ PySem.F.entry_tuple_index (PySem.F.args_tuple_index_2 _ _)
      (TI.tuple_indexAt a is.toArray n dd sl u (fun z => PyData.eqv (SeqAt.readOf s.heap z) (toD v0)) j hj ?_ ?_) ⟨e1, SeqAt.items_eqAt (vs := is.toArray) (show ReadsAll s.heap is.toArray.toList (toDs zs) bs from r2) r1 lay (lay_of v0 p1) room, ⟨.int (j : Nat), H, I.tok _, ⟨_, rfl⟩, g.here R (.int _)⟩⟩
    · show PyData.eqv (SeqAt.readOf s.heap is.toArray[j]) (toD v0) = true
      rw [at_ j hj z f1]
      exact f2
    · intro k hk hkj
      show PyData.eqv (SeqAt.readOf s.heap is.toArray[k]) (toD v0) = false
      have hk2 : k < (toDs zs).length := by rw [← hlen]; simpa using hk
      rw [at_ k hk _ (List.getElem?_eq_getElem hk2)]
      exact f3 k _ hkj (List.getElem?_eq_getElem hk2)
  | [], _, g => exact (show False from g).elim
  | _ :: _ :: _, _, g => exact (show False from g).elim
def mtName : Mt → Str
  | .append => "append"
  | .pop => "pop"
  | .index => "index"
  | .count => "count"
  | .get => "get"
theorem mo_append : MtO "append" "list" "list.append" := ⟨PySem.F.plainAttrs_list, PySem.F.slot_list_append, PySem.F.type_list_append⟩
theorem mo_pop : MtO "pop" "list" "list.pop" := ⟨PySem.F.plainAttrs_list, PySem.F.slot_list_pop, PySem.F.type_list_pop⟩
theorem mo_index : MtO "index" "list" "list.index" := ⟨PySem.F.plainAttrs_list, PySem.F.slot_list_index, PySem.F.type_list_index⟩
theorem mo_extend : MtO "extend" "list" "list.extend" := ⟨PySem.F.plainAttrs_list, PySem.F.slot_list_extend, PySem.F.type_list_extend⟩
theorem mo_count : MtO "count" "tuple" "tuple.count" := ⟨PySem.F.plainAttrs_tuple, PySem.F.slot_tuple_count, PySem.F.type_tuple_count⟩
theorem mo_indexT : MtO "index" "tuple" "tuple.index" := ⟨PySem.F.plainAttrs_tuple, PySem.F.slot_tuple_index, PySem.F.type_tuple_index⟩
theorem recv_list {r : List Addr} {m : MH} {H : Hp} {l : Nat} {x : V} (hK : X.K = S.K) (R : RH S r m H) (ho : RV S.K r H (.loc l) x) (h : (listAt m l).isSome = true) : TyG X "list" x H := by
  obtain ⟨a, rfl, ha⟩ := ho.loc_inv
  cases e : listAt m l with
  | none => rw [e] at h; cases h
  | some xs =>
    obtain ⟨ys, h1, h2⟩ := R.list ha e
    rw [← hK] at h1
    exact tyG_list rfl h1
theorem recv_tup {r : List Addr} {H : Hp} {zs : List PV} {x : V} (hK : X.K = S.K) (ho : RV S.K r H (.tup zs) x) : TyG X "tuple" x H := by
  obtain ⟨a, ys, rfl, h1, h2⟩ := ho.tup_inv
  have d := ho.noD
  rw [← hK] at h1 d
  exact tyG_tup h1 d
theorem t_mt {t : Mt} {o : Ex} {es : List Ex} {σ : L2.St} {H : Hp} {Q : VK} (hK : X.K = S.K) (hu : X.A.units + 65 < cLine) (h : tX S C E (.mt t o es) σ H Q) : tMA X (mtName t) (tV S C E o) (tVs S C E es) σ H Q := by
  obtain ⟨r, n, m, k1, k2, g⟩ := h
  rw [evX] at g
  refine ⟨r, n, m, k1, k2, g.bind fun v m1 r1 H1 x _ e1 k3 q g1 => ?_⟩
  obtain ⟨b, g1⟩ := g1.guard
  have rest : ∀ (id : String), (∀ (r2 : List Addr) (m2 : MH) (H2 : Hp) (Q2 : VK) (vs : List PV) (xs : List V), RH S r2 m2 H2 → RV S.K r2 H2 v x → RVs S.K r2 H2 vs xs → GE S (Rv S) r2 H2 Q2 E (mtV t v vs m2) → CallM X id x xs H2 Q2) →
      tVs S C E es σ H1 fun xs H2 => CallM X id x xs H2 Q := fun id hr => ⟨r1, n, m1, k1.ext e1, k3, g1.bind fun vs m2 r2 H2 xs _ e2 k4 q2 g2 => hr r2 m2 H2 Q vs xs k4 (RV.ext e2 q) q2 (gx_val g2)⟩
  cases t with
  | append =>
    cases v with
    | loc l => exact ⟨_, _, mo_append, recv_list hK k3 q b, rest _ fun r2 m2 H2 Q2 vs xs R ho hvs g => app_run R ho hvs g⟩
    | _ => cases b
  | pop =>
    cases v with
    | loc l => exact ⟨_, _, mo_pop, recv_list hK k3 q b, rest _ fun r2 m2 H2 Q2 vs xs R ho hvs g => pop_run R ho hvs g⟩
    | _ => cases b
  | index =>
    cases v with
    | loc l => exact ⟨_, _, mo_index, recv_list hK k3 q b, rest _ fun r2 m2 H2 Q2 vs xs R ho hvs g => indexL_run hK hu R ho hvs g⟩
    | tup zs => exact ⟨_, _, mo_indexT, recv_tup hK q, rest _ fun r2 m2 H2 Q2 vs xs R ho hvs g => indexT_run hK hu R ho hvs g⟩
    | _ => cases b
  | count =>
    cases v with
    | tup zs => exact ⟨_, _, mo_count, recv_tup hK q, rest _ fun r2 m2 H2 Q2 vs xs R ho hvs g => count_run hK hu R ho hvs g⟩
    | _ => cases b
  | get =>
    cases v with
    | _ => cases b
end
end Mi
end

section
set_option autoImplicit false
set_option Elab.async false
set_option linter.all false
set_option maxRecDepth 100000
namespace Mi
open PySem PySem.Spec PyProof.Rows L2
variable {S : Fx}
/-- a def's promise: what the interpreter gives -/
def spOf (S : Fx) (C : Nat → List PV → MH → Res PV) (f : Nat) : Sp := fun xs H Q E => ∃ r m vs, RH S r m H ∧ RVs S.K r H vs xs ∧ GE S (Rv S) r H Q E (C f vs m)
/-- what stands behind a def's name -/
structure FnG (S : Fx) (X : Cx) (C : Nat → List PV → MH → Res PV) (x : Str) (f : Nat) (k : Nat) (a : Addr) (fd : FuncData) (ps : List Str) : Prop where
  mg : X.mg x = some (.ref a)
  kp : PySem.W.keepIn X.K (.ref a) = true
  ok : FnOk X.prog X.w X.K X.mg X.base (L2.CX X.prog X.w) k a fd ps (spOf S C f)
  bd : Binds X.K fd ps []
/-- a call's place -/
structure Cal (X : Cx) (x : Str) (es : List Expr) : Prop where
  gl : Gl X x
  db : (x == ("__debug__" : Str)) = false
  pl : es.all plainX = true
section
variable {X : Cx} {C : Nat → List PV → MH → Res PV} {E : XK}
theorem pe_callE {x : Str} {f k : Nat} {a : Addr} {fd : FuncData} {ps : List Str} {es : List Expr} {as : List Ex} {p pos : Pos} (F : FnG S X C x f k a fd ps) (hr : Room k X.A) (hx : Passes (L2.CX X.prog X.w) X E) (c : Cal X x es) (hl : es.length = as.length) (ha : PA X es (tVs S C E as)) :
    PE X (.Call (.Name x p) es [] pos) (tX S C E (.call f as)) := by
  have key : ∀ {σ H Q}, tX S C E (.call f as) σ H Q → tCall (spOf S C f) [] E (tVs S C E as) σ H Q := fun {σ H Q} ⟨r, n, m, k1, k2, g⟩ => by
    rw [evX] at g
    refine ⟨r, n, m, k1, k2, g.bind fun vs m1 r1 H1 xs _ e1 k3 q g1 => ?_⟩
    rw [List.append_nil]
    exact ⟨r1, m1, vs, k3, q, gx_val g1⟩
  cases es with
  | nil =>
    refine pe_mono (pe_call0 F.ok hr c.gl F.mg F.kp F.bd .nil hx c.db) fun σ H Q h => ?_
    obtain ⟨r, n, m, k1, k2, g⟩ := key h
    cases as with
    | nil => exact g r H [] (Ext.refl _ _) k2 .nil
    | cons a as => simp at hl
  | cons e es =>
    have hp := c.pl
    rw [List.all_cons, Bool.and_eq_true] at hp
    exact pe_mono (pe_call F.ok hr c.gl F.mg F.kp F.bd .nil hx ha c.db (star_plain hp.1 _ _) (no_star hp.2)) fun σ H Q h => key h
/-- the values in the parameters' order -/
def pick {α : Type} (np nk : Nat) (pm : List Nat) (us ws : List α) : List α := if us.length = np ∧ ws.length = nk then pm.filterMap fun i => (us ++ ws)[i]? else []
theorem vals_pick {np nk : Nat} {pm : List Nat} {vs : List V} {us : List Value} {zs : List V} {ws : List Value} (h1 : Vals vs us) (h2 : Vals zs ws) : Vals (pick np nk pm vs zs) (pick np nk pm us ws) := by
  unfold pick
  rw [h1.length, h2.length]
  split
  · have h := h1.append h2
    induction pm with
    | nil => exact .nil
    | cons i pm ih =>
      cases e : (vs ++ zs)[i]? with
      | none =>
        have e2 : (us ++ ws)[i]? = none := by
          rw [List.getElem?_eq_none_iff] at e ⊢
          rw [← h.length]
          exact e
        rw [List.filterMap_cons_none e, List.filterMap_cons_none e2]
        exact ih
      | some v =>
        obtain ⟨u, e2, r⟩ := h.get e
        rw [List.filterMap_cons_some e, List.filterMap_cons_some e2]
        exact .cons r ih
  · exact .nil
/-- this def binds np positional values and keywords ks so -/
def KForm (fd : FuncData) (ps : List Str) (np : Nat) (ks : List Str) (pm : List Nat) : Prop :=
  ∀ (us ws : List Value), us.length = np → ws.length = ks.length → bindArgs fd ⟨us, ks.zip ws⟩ = Pure.pure (ps.zip (pm.filterMap fun i => (us ++ ws)[i]?))
theorem KForm.binds {K : PySem.W.Frag} {fd : FuncData} {ps ks : List Str} {np : Nat} {pm : List Nat} (h : KForm fd ps np ks pm) (hp : ps ≠ []) : KBinds K fd ps ks (pick np ks.length pm) (pick np ks.length pm) where
  to := fun s us ws _ hl => by
    unfold pick at hl ⊢
    split at hl
    · rename_i c
      rw [if_pos c]
      exact BindsTo.of_eq (h us ws c.1 c.2)
    · exact absurd (List.eq_nil_of_length_eq_zero hl.symm) hp
  rel := fun h1 h2 => vals_pick h1 h2
theorem rvs_pick {K : PySem.W.Frag} {r : List Addr} {H : Hp} {vs : List PV} {ys : List V} (h : RVs K r H vs ys) : ∀ {pm : List Nat} {ws : List PV}, permute pm vs = some ws → RVs K r H ws (pm.filterMap fun i => ys[i]?)
  | [], ws, e => by
    cases e
    exact .nil
  | i :: pm, ws, e => by
    unfold permute at e
    rw [List.mapM_cons] at e
    cases e1 : vs[i]? with
    | none => rw [e1] at e; cases e
    | some v =>
      rw [e1] at e
      cases e2 : List.mapM (fun i => vs[i]?) pm with
      | none => rw [e2] at e; cases e
      | some us =>
        rw [e2] at e
        cases e
        obtain ⟨y, hy, hv⟩ := h.get e1
        rw [List.filterMap_cons_some hy]
        exact .cons hv (rvs_pick h (pm := pm) e2)
theorem evs_app {as bs : List Ex} {n : Env} {m : MH} : evs S.P C (as ++ bs) n m = (evs S.P C as n m).bind fun vs m => (evs S.P C bs n m).bind fun ws m => .ok (vs ++ ws) m := by
  induction as generalizing m with
  | nil =>
    rw [List.nil_append, evs, Res.bind_ok]
    cases evs S.P C bs n m <;> rfl
  | cons a as ih =>
    rw [List.cons_append, evs, evs]
    cases (evX S.P C a n m).bind toV with
    | ok v m1 =>
      simp only [Res.bind_ok]
      rw [ih]
      cases evs S.P C as n m1 with
      | ok vs m2 =>
        simp only [Res.bind_ok]
        cases evs S.P C bs n m2 <;> rfl
      | exc => rfl
      | stuck => rfl
    | exc => rfl
    | stuck => rfl
/-- keyword values -/
theorem pk_mono {ks : List Keyword} {t t' : TA} (h : PK X ks t) (i : ∀ σ H Q, t' σ H Q → t σ H Q) : PK X ks t' := ⟨fun pos pins s σ H Q I q => h.run pos pins s σ H Q I (i σ H Q q)⟩
def kwE : Keyword → Expr
  | ⟨_, e, _⟩ => e
def kwN : Keyword → Option Str
  | ⟨n, _, _⟩ => n
theorem pk_evs : ∀ {ks : List Keyword} {as : List Ex}, (∀ p ∈ ks.zip as, PE X (kwE p.1) (tV S C E p.2)) → ks.length = as.length → PK X ks (tVs S C E as)
  | [], [], _, _ => pk_mono pk_nil fun σ H Q ⟨r, n, m, k1, k2, g⟩ => g r H [] (Ext.refl _ _) k2 .nil
  | ⟨nm, e, kp⟩ :: ks, a :: as, h, hl => by
    have h1 := h (⟨nm, e, kp⟩, a) (by simp)
    have h2 := pk_evs (ks := ks) (as := as) (fun p hm => h p (by simp [hm])) (by simpa using hl)
    refine pk_mono (pk_cons (nm := nm) (kpos := kp) h1 h2) fun σ H Q ⟨r, n, m, k1, k2, g⟩ => ?_
    refine ⟨r, n, m, k1, k2, GE.bind (k := fun v m => (evs S.P C as n m).bind fun vs m => .ok (v :: vs) m) g fun v m1 r1 H1 x _ e1 k3 q g1 => ?_⟩
    refine ⟨r1, n, m1, k1.ext e1, k3, g1.bind fun vs m2 r2 H2 xs _ e2 k4 q2 g2 => ?_⟩
    exact g2 r2 H2 _ (Ext.refl _ _) k4 (.cons (RV.ext e2 q) q2)
  | [], _ :: _, _, hl => by simp at hl
  | _ :: _, [], _, hl => by simp at hl
theorem kw_some : ∀ {ks : List Keyword} {ns : List Str} {pos : Pos}, ks.map kwN = ns.map some →
    (backToKw pos (keywordEach ks X.env)).all (·.1.isSome) = true ∧ (backToKw pos (keywordEach ks X.env)).filterMap (·.1) = ns ∧ (backToKw pos (keywordEach ks X.env)).any (·.1.isNone) = false
  | [], [], pos, _ => ⟨rfl, rfl, rfl⟩
  | ⟨nm, e, kp⟩ :: ks, n :: ns, pos, h => by
    simp only [List.map_cons, List.cons.injEq] at h
    have hn : nm = some n := h.1
    subst hn
    obtain ⟨h1, h2, h3⟩ := kw_some (ks := ks) (ns := ns) (pos := pos) h.2
    unfold backToKw at h1 h2 h3 ⊢
    unfold keywordEach
    exact ⟨h1, congrArg (n :: ·) h2, h3⟩
  | [], _ :: _, _, h => by simp at h
  | _ :: _, [], _, h => by simp at h
theorem t_callk {f np : Nat} {ks : List Str} {as bs : List Ex} {pm : List Nat} {σ : L2.St} {H : Hp} {Q : VK} (h1 : as.length = np) (h2 : bs.length = ks.length) (h : tX S C E (.callk f (as ++ bs) pm) σ H Q) :
    tCallK (spOf S C f) (pick np ks.length pm) E (tVs S C E as) (tVs S C E bs) σ H Q := by
  obtain ⟨r, n, m, k1, k2, g⟩ := h
  rw [evX, evs_app] at g
  have g : GE S (Rx S) r H Q E ((evs S.P C as n m).bind fun vs m => (evs S.P C bs n m).bind fun ws m => (ofO (permute pm (vs ++ ws)) m).bind fun ws m => (C f ws m).bind fun v m => .ok (.val v) m) := by
    cases q1 : evs S.P C as n m with
    | ok vs m1 =>
      rw [q1] at g
      simp only [Res.bind_ok] at g ⊢
      cases q2 : evs S.P C bs n m1 with
      | ok ws m2 => rw [q2] at g; exact g
      | exc => rw [q2] at g; exact g
      | stuck => rw [q2] at g; exact g
    | exc => rw [q1] at g; exact g
    | stuck => rw [q1] at g; exact g
  refine ⟨r, n, m, k1, k2, g.bind fun vs m1 r1 H1 xs f1 e1 k3 q1 g1 => ⟨r1, n, m1, k1.ext e1, k3, g1.bind fun ws m2 r2 H2 zs f2 e2 k4 q2 g2 => ?_⟩⟩
  cases e : permute pm (vs ++ ws) with
  | none => rw [e] at g2; exact (show False from g2).elim
  | some us =>
    rw [e] at g2
    refine ⟨r2, m2, us, k4, ?_, gx_val g2⟩
    unfold pick
    rw [if_pos ⟨by rw [← q1.length, evs_len f1, h1], by rw [← q2.length, evs_len f2, h2]⟩]
    exact rvs_pick ((RVs.ext e2 q1).append q2) e
theorem pe_callkE {x : Str} {f k np : Nat} {a : Addr} {fd : FuncData} {ps ks : List Str} {es : List Expr} {kws : List Keyword} {as bs : List Ex} {pm : List Nat} {p pos : Pos} (F : FnG S X C x f k a fd ps) (hr : Room k X.A) (hx : Passes (L2.CX X.prog X.w) X E) (c : Cal X x es)
    (kf : KForm fd ps np ks pm) (hps : ps ≠ []) (hks : kws.map kwN = ks.map some) (h1 : as.length = np) (h2 : bs.length = ks.length) (ha : PA X es (tVs S C E as)) (hb : PK X kws (tVs S C E bs)) (h0 : es = [] → as = []) :
    PE X (.Call (.Name x p) es kws pos) (tX S C E (.callk f (as ++ bs) pm)) := by
  obtain ⟨w1, w2, w3⟩ := kw_some (X := X) (pos := pos) hks
  cases es with
  | nil =>
    cases h0 rfl
    refine ⟨fun pins s σ H Q I h => ?_⟩
    have h := t_callk (ks := ks) h1 h2 h
    refine wpAny_Call_Name_kw (ld_glob I c.gl F.mg ?_ c.db)
    refine PySem.W.callWith_KW0 (h₀ := X.base) I.ok.mod.kin F.kp w1 ?_ (by rw [w3]; rfl)
    obtain ⟨r, n, m, k1, k2, g⟩ := h
    have g := g r H [] (Ext.refl _ _) k2 .nil
    refine thn (hb.run pos pins s σ H _ I g) fun ws s2 ⟨zs, H2, I2, rz, q2⟩ => ⟨I2.kIn, ?_⟩
    rw [w2, List.append_nil]
    exact run_fnk F.ok hr (kf.binds hps) hx I2 .nil rz q2
  | cons e es =>
    have hp := c.pl
    rw [List.all_cons, Bool.and_eq_true] at hp
    exact pe_mono (pe_callK F.ok hr c.gl F.mg F.kp (kf.binds hps) hx ha hb w1 w2 c.db (star_plain hp.1 _ _) (by rw [no_star c.pl, w3]; rfl)) fun σ H Q h => t_callk h1 h2 h
end
end Mi
end

section
set_option autoImplicit false
set_option Elab.async false
set_option linter.all false
set_option maxRecDepth 100000
set_option maxHeartbeats 2000000
namespace Mi
open PySem PySem.Spec PyProof.Rows L2
/-- what stands of such a class behind the top: C the class, fI its __init__, cc the cell of __class__, cda the code -/
structure ExD (P : Program) (K : PySem.W.Frag) (C fI : Addr) (fd : FuncData) (f : Str) : Prop where
  cls : OexC K C
  init : PySem.W.findIn K (.ref C) "__init__" = some (some (.ref fI))
  tyI : PySem.W.typeIn K (.ref fI) = some (.type "function")
  fn : ∃ (oc : Value) (od : Option Addr) (osl : Array (Option Value)) (qual : Str) (params : Arguments) (body : List Stmt) (scope : Scope) (kV doc pm ct : Value) (an : Option Addr) (cda cc : Addr) (self x : Str) (p1 p2 p3 p4 p5 p6 p7 p8 p9 p10 : Pos) (ar : Arg),
    fd = PySem.W.ksFn "__init__" qual params body scope .none kV doc pm an (.ref cda) ct cc ∧ K.lookup fI = some ⟨oc, od, .func fd, osl⟩ ∧ PySem.W.codeIn K (.ref cda) qual = true ∧
    (∃ (ccl : Value) (cdd : Option Addr) (vs : Array Value) (ccs : Array (Option Value)) (file : Str) (tf : Tok), K.lookup cda = some ⟨ccl, cdd, .fields vs, ccs⟩ ∧ vs[2]? = some (.str file tf) ∧ ((P.main.file : Str) == file) = true) ∧
    (∃ (cl : Value) (cld : Option Addr) (csl : Array (Option Value)), K.lookup cc = some ⟨cl, cld, .cell (some (.ref C)), csl⟩) ∧
    body = [.Expr (.Call (.Attribute (.Call (.Name "super" p1) [] [] p2) "__init__" p3) [.Name x p4] [] p5) p6, .Assign [.Attribute (.Name self p7) f p8] (.Name x p9) p10] ∧
    (params.posonlyargs ++ params.args).head? = some ar ∧ ar.arg = self ∧ (p3.endLine == p5.line) = true ∧ (self == x) = false ∧ (x == ("__debug__" : Str)) = false ∧ (self == ("__debug__" : Str)) = false ∧
    scope.kind = .function ∧ scope.isCoroutine = false ∧ scope.isGenerator = false ∧ (∀ y ∈ scope.names, y.2 ≠ .cell) ∧ scope.names.lookup self = some .local ∧ scope.names.lookup x = some .local ∧ scope.names.lookup ("super" : Str) = some .globalImplicit ∧ scope.names.lookup ("__class__" : Str) = some .free ∧
    Binds K fd [self, x] []
  top : (P.main.scope.names.lookup ("super" : Str)).isSome = false
  any : PySem.W.nsIn K cStatics "thirdparty.any" = some none
  sup : PySem.W.ks_superIn K C C "__init__" = some (some (.builtin "ValueError.__init__"))
  sub : PySem.W.subIn K (.ref C) (.type "ValueError") = some true
  own : PySem.W.mroIn K C (.ref C) = some true
  nof : PySem.W.findIn K (.ref C) f = some none
def spI (C : Addr) (f : Str) : Sp := fun xs H Q _ => ∃ (a : Addr) (y : V), xs = [.ref a, y] ∧ H a = some (exo a C none) ∧ ∀ dx, H dx = none → dx ≠ a → Q .non (upd (upd H dx (exd dx [(f, y)])) a (exo a C (some dx)))
section
variable {prog : Program} {w : World} {A : Around} {E : Value → Shared → Prop} {h : Heap} {g : Array GenState} {d : Drawn} {t : Nat} {os : OsState}
/-- ValueError.__init__ bound to the exception, called -/
theorem call_mw {nm q : Str} {C N : Addr} {bs bm : List Value} {hdct : Bool} {sn : List Str} {sub : List Value} {ab : Bool} {col : Option Bool} {dd : Option Addr} {k0 k1 k2 k3 k5 : Option Value} {u e t0 : Addr} {rest : List Value} {Q : Value → Shared → Prop}
    (hC : h.get? C = some (excClassObj nm q C N bs bm hdct sn sub ab col dd k0 k1 k2 k3 k5 "ValueError.__new__")) (hbm : PySem.HandSPX.refsVE bm = true) (he : h.get? e = some (PySem.HandSPX.excO C t0)) (hu : h.get? u = some (PySem.W.kxs_mw "ValueError.__init__" e)) (hz : rest.length ≤ sizeLine)
    (hq : ∀ h' t1, (∀ b o, b ≠ e → h.get? b = some o → h'.get? b = some o) → h'.get? e = some (PySem.HandSPX.excO C t1) → Q .none ⟨h', g, d, t, os⟩) :
    wpAny (model prog w) A (call (.ref u) rest) Q E ⟨h, g, d, t, os⟩ := by
  refine wpAny_call (codeAny_of_tree ?_)
  show wpAny _ A.in1 (callAny (.ref u) ⟨rest, []⟩) _ _ _
  simp only [callAny]
  refine wpAny_bind (wpAny_load hu ?_)
  simp only [PySem.W.kxs_mw]
  refine PySem.W.KFB.if_so (by decide) ?_
  refine wpAny_bind (PySem.W.check_bound_init PySem.F.excBase_ValueError.toExcCallFacts hC he rfl ?_)
  refine wpAny_bind (wpAny_pure (wpAny_pure ?_))
  refine ⟨plainId_quiet PySem.F.excBase_ValueError.init.plain _, ?_⟩
  refine codeAny_builtin PySem.F.excBase_ValueError.initEntry ?_
  rw [Around.under_plainId PySem.F.excBase_ValueError.init.plain _]
  wp_walk
  refine hq _ h.objs.size (fun b o ne eo => ?_) ?_
  · rw [Heap.get?_update_other _ _ fun z => ne z.symm]
    exact Heap.get?_push_of_some _ eo
  · rw [Heap.get?_update_self _ (Heap.get?_push_of_some _ he) rfl] <;> rfl
end

theorem call1_eq {o : Expr} {nm x : Str} {p3 p4 p5 : Pos} {env : PySem.Env} (hl : (p3.endLine == p5.line) = true) : eval (.Call (.Attribute o nm p3) [.Name x p4] [] p5) env = (do
    let ov ← attributeBase o nm env (eval o env)
    standAt p3.atName
    let (f, first) ← holding [ov] (getMethod ov nm (do return (← importBound o env).getD true))
    callWith p5 f first (backTo p5 (starEach [.Name x p4] env)) []) := by
  rw [arm_eval_Call]
  have e : ∀ b, methodCallPos b o env p3 p5 = Pure.pure p5 := fun b => by
    unfold methodCallPos
    rw [hl, Bool.or_true, if_pos rfl]
  unfold methodCall
  have e2 : methodCallForm ([Expr.Name x p4].length + ([] : List Keyword).length) (backTo p5 (starEach [.Name x p4] env)) (backToKw p5 (keywordEach [] env)) = true := rfl
  simp only [e, e2]
  rfl
/-- the __init__ keeps its promise -/
theorem init_fn {P : Program} {w : World} {K : PySem.W.Frag} {mg : Str → Option Value} {base : Heap} {CX : CXT} {C fI : Addr} {fd : FuncData} {f : Str} (D : ExD P K C fI fd f) (hms : mg "super" = none) :
    ∃ ps, FnOk P w K mg base CX 1 fI fd ps (spI C f) ∧ Binds K fd ps [] := by
  obtain ⟨oc, od, osl, qual, params, body, scope, kV, doc, pm, ct, an, cda, cc, self, x, p1, p2, p3, p4, p5, p6, p7, p8, p9, p10, ar, efd, lk, hcd, ⟨ccl, cdd, vs0, ccs, file, tf, hcode, hvs, hfile⟩, ⟨cl, cld, csl, hcell⟩, ebody, har, earg, hln, hsx, hxd, hsd, kf, kco, kgen, knc, ks, kx, ksu, kcl, hb⟩ := D.fn
  refine ⟨[self, x], ⟨fun vs H Q E ⟨a, y, e, _⟩ => by rw [e]; rfl, fun A outer s H args us vs Q E hr e0 hbind rv ⟨a, y, e, ea, q⟩ => ?_⟩, hb⟩
  subst e
  obtain ⟨ua, uy, rfl, ra, ry⟩ := rv.two
  cases ra
  have KX : K.In s.heap := e0.mod.kin.keeps fun b o e => (e0.bs b o e).1
  have lim : s.heap.NoLimit := e0.mod.nolimit.keeps fun b o e => (e0.bs b o e).1
  have hG : s.heap.Ns mainGlobals mg := e0.mod.glob.keeps fun b o e => (e0.bs b o e).1
  obtain ⟨mb, hB0, hbb⟩ := e0.mod.blt
  have hB : s.heap.Ns builtinsNs mb := hB0.keeps fun b o e => (e0.bs b o e).1
  obtain ⟨nm, q1, N, bs, bm, sn, sub, ab, col, dd, k0, k1, k2, k3, k5, hC, hbm⟩ := D.cls.cls
  have hcls : PySem.W.clsIn K C = some { name := nm, bases := bs, mro := .ref C :: bm, ns := N, qualname := q1, hasDict := true, slotNames := sn, subclasses := sub, abstract := ab, collection := col, hasDel := false } := by unfold PySem.W.clsIn; rw [hC] <;> rfl
  obtain ⟨t1, ho⟩ := exo_at e0.hok ea
  subst efd
  refine ks_codeAny_call_defAt (fd := PySem.W.ksFn "__init__" qual params body scope .none kV doc pm an (.ref cda) ct cc) (body := body) hr.depth (KX _ _ lk) rfl lim (PySem.W.codeRec_of KX hcd) rfl hbind knc (fun b hb' => ?_) (fun h1 hns k1 => ?_) kco kgen kf
  · have : b = (self, Value.ref a) ∨ b = (x, uy) := by simpa using hb'
    rcases this with e | e <;> subst e
    · exact ks
    · exact kx
  obtain ⟨hp, g0, d0, tk0, os0⟩ := s
  simp only at ho KX lim hG hB hns k1 ⊢
  -- the frame's own part
  have mSelf : (fun y => ([self, x].zip [Value.ref a, uy]).reverse.lookup y) self = some (.ref a) := by
    have e : (self == x) = false := hsx
    show List.lookup self [(x, uy), (self, Value.ref a)] = _
    rw [List.lookup_cons, e, List.lookup_cons, beq_self_eq_true]
  have mX : (fun y => ([self, x].zip [Value.ref a, uy]).reverse.lookup y) x = some uy := by
    show List.lookup x [(x, uy), (self, Value.ref a)] = _
    rw [List.lookup_cons, beq_self_eq_true]
  have ho1 : h1.get? a = some ({ cls := .ref C, dict := none, data := .fields #[.ref t1, .none, .none, .none, .bool false, .none] } : Obj) := k1 _ _ ho
  have haC : a ≠ C := fun e => by
    have := KX _ _ hC
    rw [← e, ho] at this
    cases this
  have alt : a < hp.objs.size := Heap.lt_size ho
  have aL : a ≠ hp.objs.size := Nat.ne_of_lt alt
  subst ebody
  have hD1 := KX _ _ hC
  refine PySem.ks_wpAt_execs_cons (PySem.ks_wpAt_Expr_any (PySem.ks_wpAt_MethodCall (pl := _) ?_ (call1_eq hln)) ?hi ?hs)
  case hi =>
    show (scope.kind == .module && _) = false
    rw [kf] <;> rfl
  case hs => rfl
  refine PySem.ks_wpAt_super_base (env := PySem.W.ksEnv qual scope hp.objs.size fI (.ref cda) cc) ksu kcl (by decide) rfl (k1 _ _ (KX _ _ lk)) rfl har rfl (k1 _ _ (KX _ _ hcode)) rfl hvs hfile D.top ?_
  refine PySem.W.ks_loadName_global kf ksu (PySem.Calls.loadGlobal_builtin (env := PySem.W.ksEnv qual scope hp.objs.size fI (.ref cda) cc) (hG.keeps k1) hms (hB.keeps k1) ((hbb _ (by decide +kernel)).trans (by decide +kernel : bootBuiltins "super" = some (.type "super"))) ⟨rfl, ?_⟩)
  refine wpAny_loadName_free kf kcl rfl ⟨_, k1 _ _ (KX _ _ hcell), rfl⟩ ?_
  rw [earg]
  refine wpAny_loadName_local kf ks hns mSelf ?_
  refine PySem.ks_wpAny_isType_cls (k1 _ _ hD1) rfl ⟨rfl, ?_⟩
  have KX1 : K.In h1 := KX.keeps k1
  refine PySem.ks_wpAny_call_super (k1 _ _ hD1) rfl ho1 rfl (fun c e => by cases e) (PySem.W.looks_mroIn KX1 D.own) fun h2 eso k2 => ?_
  -- super().__init__
  have KX2 : K.In h2 := KX1.keeps k2
  have ho2 := k2 _ _ ho1
  refine PySem.W.kxs_getMethod PySem.W.kxs_ValueError eso (PySem.W.looks_opaque KX2 D.any) (l₀ := .ref C :: bm) ?_ rfl KX2 ?_ ?_ haC (by decide) ?_
  · exact fun A Q E s k q => wpAny_bind ((PySem.W.looks_clsIn KX2 hcls) A _ E s k (wpAny_pure q))
  · have := D.sup
    unfold PySem.W.ks_superIn at this
    rw [hcls] at this
    exact this
  · have I2 : PySem.W.InstAt h2 a ({ cls := .ref C, dict := none, data := .fields #[.ref t1, .none, .none, .none, .bool false, .none] } : Obj) C none := ⟨ho2, rfl, rfl, trivial⟩
    exact I2.type.andThen (PySem.W.looks_subIn KX2 D.sub)
  -- its call
  generalize hu : h2.objs.size = u
  have k3 : ∀ b o, h2.get? b = some o → (h2.push (PySem.W.kxs_mw "ValueError.__init__" a)).get? b = some o := fun b o e => Heap.get?_push_of_some _ e
  have hu3 : (h2.push (PySem.W.kxs_mw "ValueError.__init__" a)).get? u = some (PySem.W.kxs_mw "ValueError.__init__" a) := by
    rw [← hu]
    exact Heap.get?_push_size _ rfl
  generalize h2.push (PySem.W.kxs_mw "ValueError.__init__" a) = h3 at k3 hu3 ⊢
  have ho3 := k3 _ _ ho2
  have KX3 : K.In h3 := KX2.keeps k3
  have k13 : ∀ b o, h1.get? b = some o → h3.get? b = some o := fun b o e => k3 _ _ (k2 _ _ e)
  have hns3 : h3.Ns hp.objs.size (fun y => ([self, x].zip [Value.ref a, uy]).reverse.lookup y) := hns.keeps k13
  show wpAny _ _ (callWith p5 (.ref u) [] (backTo p5 (starEach [.Name x p4] (PySem.W.ksEnv qual scope hp.objs.size fI (.ref cda) cc))) []) _ _ _
  refine PySem.W.kxs_callWith (i := "ValueError.__init__") (x := a) rfl (PySem.Calls.evalArgs_plain ?_)
  refine Calls.spliced_cons (wpAny_Name (wpAny_loadName_local kf kx hns3 mX (Calls.spliced_nil ⟨hu3, ?_⟩)) hxd)
  refine call_mw (KX3 _ _ hC) hbm ho3 hu3 (by show 1 ≤ sizeLine; decide) fun h4 t4 k4 ho4 => ?_
  -- self.x = x
  refine PySem.ks_wpAt_execs_cons (PySem.ks_wpAt_Assign_Attr (PySem.wpAt_of_wpAny ?_) rfl)
  have k14 : ∀ b o, b ≠ a → h1.get? b = some o → h4.get? b = some o := fun b o ne e => k4 b o ne (k13 b o e)
  have kn : ∀ b o, K.lookup b = some o → b ≠ a := fun b o e z => by
    have := KX b o e
    rw [z, ho] at this
    have ed := (e0.bs a o (e0.mod.kin a o (by rw [← z]; exact e))).2
    rw [ea] at ed
    cases ed
  have KX4 : K.In h4 := fun b o e => k14 b o (kn b o e) (k1 b o (KX b o e))
  have hns4 : h4.Ns hp.objs.size (fun y => ([self, x].zip [Value.ref a, uy]).reverse.lookup y) := by
    obtain ⟨oL, es, ep, e1, e2⟩ := hns
    exact ⟨oL, es, ep, k14 _ _ aL.symm e1, e2⟩
  refine wpAny_Name (wpAny_loadName_local kf kx hns4 mX ?_) hxd
  refine wpAny_Name (wpAny_loadName_local kf ks hns4 mSelf ?_) hsd
  refine PySem.W.set_plain KX4 (ox := { cls := .ref C, dict := none, data := .fields #[.ref t4, .none, .none, .none, .bool false, .none] }) (od := none) ⟨ho4, rfl, rfl, trivial⟩ D.cls.sa ?_
  refine PySem.HandSPX.exc_osa KX4 ho4 hcls (show PySem.HandSPX.refsVE (.ref C :: bm) = true from hbm) rfl D.nof fun h5 tk5 dx k5 dn dne hx hn => ?_
  refine PySem.wpAt_of_wpAny (wpAny_execs_nil ?_)
  have kk : ∀ b o, b ≠ a → hp.get? b = some o → h5.get? b = some o := fun b o ne e => k5 b o ne (k14 b o ne (k1 b o e))
  have dbig : hp.objs.size ≤ dx := Nat.le_trans (Nat.le_of_lt hns4.lt) dn
  have hd0 : H dx = none := e0.hok.fresh dbig
  have old : ∀ {b : Addr} {o : Obj}, hp.get? b = some o → b ≠ dx := fun {b o} z => Nat.ne_of_lt (Nat.lt_of_lt_of_le (Heap.lt_size z) dbig)
  have noA : ∀ {b : Addr}, H b = none → b ≠ a := fun {b} n z => by
    rw [z, ea] at n
    cases n
  have U : Un (frs outer) [] H (upd (upd H dx (exd dx [(f, y)])) a (exo a C (some dx))) hp h5 := {
    keep := fun b o z n _ _ => kk b o (noA n) z
    slot := fun b o z n _ _ => ⟨o.slots, kk b o (noA n) z⟩
    free := fun b o z n _ => by
      rw [upd_ne (noA n), upd_ne (old z)]
      exact n
    there := fun b o z _ => by
      by_cases hb : b = a
      · exact ⟨_, by rw [hb]; exact hx⟩
      · exact ⟨o, kk b o hb z⟩
    tups := fun b xs z => by
      rw [upd_ne (at_ne ea z exo_tup), upd_ne (ne_of_none z hd0)]
      exact z
    frzs := fun b o v z => by
      rw [upd_ne (at_ne ea z exo_frz), upd_ne (ne_of_none z hd0)]
      exact z
    tbls := fun b ps z => ⟨#[], by
      rw [upd_ne (at_ne ea z exo_tbl), upd_ne (ne_of_none z hd0), z]
      simp⟩ }
  refine ⟨.non, _, rfl, e0.bare, U, fun b o z => ?_, rfl, q dx hd0 dne⟩
  by_cases hb : b = a
  · subst hb
    rw [upd_same] at z
    cases z
    exact exo_ok hx
  · rw [upd_ne hb] at z
    by_cases hd : b = dx
    · subst hd
      rw [upd_same] at z
      cases z
      exact exd_ok hn (relO_put (fs := []) ry fun g => True.intro)
    · rw [upd_ne hd] at z
      refine (e0.hok b o z).stay (fun c v hc e => kk c v ?_ e) (fun c hc => ?_) (fun c xs hc => ?_)
      · rcases hc with hc | hc
        · rw [hc]
          exact hb
        · exact at_ne ea hc exo_own
      · rw [upd_ne (at_ne ea hc exo_own), upd_ne (ne_of_none hc hd0)]
        exact hc
      · rw [upd_ne (at_ne ea hc exo_tup), upd_ne (ne_of_none hc hd0)]
        exact hc
end Mi
end

section
set_option autoImplicit false
set_option Elab.async false
set_option linter.all false
set_option maxRecDepth 100000
namespace Mi
open PySem PySem.Spec PyProof.Rows L2
variable {S : Fx}
section
variable {X : Cx} {C : Nat → List PV → MH → Res PV} {E : XK}
theorem xd_heap {H1 : Hp} {a dx A : Addr} {fs : List (Str × V)} (ha : H1 a = none) (hd : H1 dx = none) (ne : dx ≠ a) :
    upd (del (upd (upd (upd H1 a (exo a A none)) dx (exd dx fs)) a (exo a A (some dx))) a) dx (.xd fs) = upd H1 dx (.xd fs) := by
  funext b
  by_cases h : b = dx
  · rw [h, upd_same, upd_same]
  · rw [upd_ne h, upd_ne h]
    by_cases h2 : b = a
    · rw [h2, del_same, ha]
    · rw [del_ne h2, upd_ne h2, upd_ne h, upd_ne h2]
theorem ps_rseE {c : Nat} {x f : Str} {Cc fI : Addr} {fd : FuncData} {e : Expr} {a : Ex} {p pos pos2 : Pos} (Dx : ExD X.prog X.K Cc fI fd f) (hms : X.mg "super" = none) (hg : Gl X x) (hm : X.mg x = some (.ref Cc)) (hdb : (x == ("__debug__" : Str)) = false)
    (ec : S.xc c = Cc) (ef : S.xf c = f) (hc : X.calm = true) (tk : Takes X (fun cls d _ H => E cls d H)) (hr : Room 2 X.A) (hp : plainX e = true) (he : PE X e (tX S C E a)) :
    PS X (.Raise (some (.Call (.Name x p) [e] [] pos)) none pos2) (tS S C E (.rse c a)) := by
  obtain ⟨ps, F, hb⟩ := init_fn (P := X.prog) (w := X.w) (K := X.K) (mg := X.mg) (base := X.base) (CX := L2.CX X.prog X.w) Dx hms
  have hx : Passes (L2.CX X.prog X.w) X (fun _ _ _ => False) := fun pins σ H s e s' I h => by
    obtain ⟨_, _, _, _, _, _, _, _, _, _, _, _, z⟩ := h
    exact z.elim
  refine ps_mono (ps_raise hc tk (pmk_oex Dx.cls Dx.init Dx.tyI F hr hb .nil hx hg hm (pa_one (pe_val he) hp) hdb (star_plain hp _ _) rfl)) fun D σ H ⟨r, n, m, k1, k2, g⟩ => ?_
  rw [Mi.exec] at g
  refine ⟨r, n, m, k1, k2, GE.bind (x := (evX S.P C a n m).bind toV) g (fun v m1 r1 H1 y _ e1 k3 q g1 => ?_) anti_f⟩
  refine ⟨by show 1 ≤ 1000; decide, fun ad had => ⟨ad, y, rfl, upd_same, fun dx hdx ne => ⟨rfl, dx, [(f, y)], upd_same, ?_, ?_, ?_⟩⟩⟩
  · rw [upd_ne ne, upd_same]
  · rw [upd_ne ne] at hdx
    exact hdx
  · rw [upd_ne ne] at hdx
    rw [xd_heap had hdx ne, ← ec, ← ef]
    exact g1 r1 _ dx y (ext_new hdx) (k3.beside hdx) upd_same (RV.ext (ext_new hdx) q)
/-- what the def that asks makes of a lambda's reading -/
def TTr (CS : Addr) (f : Str) : (XK → Hp → VK → Prop) → Hp → VK → Prop := fun tl H Q =>
  tl (fun cls d H' => cls = .ref CS ∧ ∃ (dd : Addr) (fs : List (Str × V)) (v : V), d = some dd ∧ H' dd = some (.xd fs) ∧ fs.lookup f = some v ∧ Q v H') H fun _ H' => Q (.str ⟨#[]⟩) H'
theorem ref_gives {Ng : List Str} {x a n en f q : Str} {sg : Scope} {g CS : Addr} {cdg : Value} {j : Nat} {p1 p2 p3 p4 p5 p6 p7 p8 p9 p10 p11 : Pos} (hN : Ng.Nodup) (hNg : Ng = [a, n]) (hln : sg.names.lookup n = some .local)
    (hge : sg.names.lookup en = some .globalImplicit) (hme : X.mg en = some (.ref CS)) (hde : (en == ("__debug__" : Str)) = false) (hnd : (n == ("__debug__" : Str)) = false) (hnc : (n == ("__classdict__" : Str)) = false)
    (T : XfC X.K CS) (hno : PySem.W.findIn X.K (.ref CS) f = some none) (hex : PySem.W.exmOne X.K (.ref CS) (.ref CS) = some true) :
    LamX.GivesTo X Ng x sg g cdg [.Try [.Expr (.Call (.Name a p1) [] [] p2) p3] [.ExceptHandler (some (.Name en p4)) (some n) [.Return (some (.Attribute (.Name n p5) f p6)) p7] p8] [] [] p9, .Return (some (.Constant (.str ⟨#[]⟩) j p10)) p11] a q (TTr CS f) := by
  intro fl c' s H Q tl act hc h
  have hgl : Gl (cxOf C8.CX0 X.prog X.w X.K X.mg X.base Ng x sg g cdg X.A X.stack s H C8.E0).nox en := hge
  have lenN : (cxOf C8.CX0 X.prog X.w X.K X.mg X.base Ng x sg g cdg X.A X.stack s H C8.E0).nox.N = Ng := rfl
  have h1 : Ng[1]? = some n := by rw [hNg] <;> rfl
  have htry := ps_try_as (X := (cxOf C8.CX0 X.prog X.w X.K X.mg X.base Ng x sg g cdg X.A X.stack s H C8.E0).nox) (x := en) (n := n) (c := .ref CS) (i := 1) (np := p4) (pos' := p8) (pos := p9) (body := [.Expr (.Call (.Name a p1) [] [] p2) p3]) (b₀ := .Return (some (.Attribute (.Name n p5) f p6)) p7) (suite := [])
    (Wout := fun _ _ _ _ => False)
    (tb := fun W D σ H => ∃ Ech : XK, (∀ cls d σ' H', Ech cls d H' → W cls d σ' H') ∧ σ[0]? = some (some (.ref fl)) ∧ H c' = some (LamX.CodeO c' q) ∧ tl Ech H fun _ H' => D.nx σ H')
    (ts := fun ad cls d D σ H => σ.length = Ng.length → tRet (tXf ad cls d CS f (tVar 1)) D σ H)
    rfl rfl hN h1 hln ⟨hgl, hde, .inl hme⟩ LamX.takes0 (fun W pn xe tk _ => ?_) (fun ad oe cls d pn hz hv => ?_)
  · refine ⟨_, pss_cons htry (pss_one (ps_ret pe_str)), ?_⟩
    refine ⟨fun cls d H' => cls = .ref CS ∧ ∃ (dd : Addr) (fs : List (Str × V)) (v : V), d = some dd ∧ H' dd = some (.xd fs) ∧ fs.lookup f = some v ∧ Q v H', fun cls d σ' H' hh => ?_, ?_, hc, h⟩
    · obtain ⟨rfl, dd, fs, v, rfl, e1, e2, e3⟩ := hh
      refine ⟨true, hex, fun _ ad had hlen => ?_, fun z => by cases z⟩
      refine ⟨.ref ad, ?_, rfl, rfl, dd, fs, v, rfl, e1, e2, e3⟩
      rw [List.getElem?_set_self]
      rw [List.length_set, hNg] at hlen
      rw [hlen]
      exact Nat.lt_succ_self 1
    · rw [hNg] <;> rfl
  · refine ⟨fun pins s' σ H' D I h' => ?_⟩
    obtain ⟨Ech, hW, g1, g2, g3⟩ := h'
    have hp := act W pn xe Ech p1 p2 tk hW
    exact (pss_one (ps_expr (pos := p3) hp rfl)).run pins s' σ H' D I ⟨g1, g2, g3⟩
  · refine ⟨fun pins s' σ H' D I h' => ?_⟩
    exact (pss_one (ps_ret (pos := p7) (pe_xf (X := (cxOf C8.CX0 X.prog X.w X.K X.mg X.base Ng x sg g cdg X.A X.stack s H C8.E0).nox) (pos := p6) T hno hz hv (pe_var (i := 1) (x := n) (pos := p5) h1 (.inl hln) hnd hnc)))).run pins s' σ H' D I (h' I.len)
/-- tables alone may have grown -/
theorem ext_tables {r : List Addr} {H H1 : Hp} (e : LamX.ExtN H H1) : Ext r r H H1 := ⟨⟨[], by simp, fun b hb => by simp at hb⟩, fun b o _ h n => e b o h n, fun b o h s => e b o h fun ps z => by rw [z] at s; exact s⟩
theorem RO.tables {r : List Addr} {H H1 : Hp} {a : Addr} {o : MO} (h : RO S r H a o) (e : LamX.ExtN H H1) : RO S r H1 a o := by
  have x : Ext r r H H1 := ext_tables e
  cases o with
  | lst xs =>
    obtain ⟨ys, h1, h2⟩ := h
    exact ⟨ys, e _ _ h1 (fun ps z => by cases z), h2.ext x⟩
  | dct kvs =>
    obtain ⟨u, h0, _, ns, nt, _⟩ := DctR.o h
    exact DctR.to h ((e _ _ h0 nt).trans h0.symm) fun v y z => z.ext x
  | ins c fs =>
    obtain ⟨dx, gs, h1, h2⟩ := h
    exact ⟨dx, gs, e _ _ h1 (fun ps z => by cases z), h2.ext x⟩
theorem RH.tables {r : List Addr} {m : MH} {H H1 : Hp} (R : RH S r m H) (e : LamX.ExtN H H1) (t : LamX.Tabs S.T H1) : RH S r m H1 := ⟨R.len, R.nd, fun l a o h1 h2 => (R.obj l a o h1 h2).tables e, t⟩
/-- the def that asks, as it stands behind the top -/
structure RefD (X : Cx) (x : Str) (g CS : Addr) (f : Str) : Prop where
  mg : X.mg x = some (.ref g)
  kp : PySem.W.keepIn X.K (.ref g) = true
  xf : XfC X.K CS
  nof : PySem.W.findIn X.K (.ref CS) f = some none
  exm : PySem.W.exmOne X.K (.ref CS) (.ref CS) = some true
  fn : ∃ (oc : Value) (od : Option Addr) (osl : Array (Option Value)) (pg : Arguments) (bg : List Stmt) (sg : Scope) (dV kV doc pm cdv ct : Value) (an : Option Addr) (a n en : Str) (j : Nat) (p1 p2 p3 p4 p5 p6 p7 p8 p9 p10 p11 : Pos),
    X.K.lookup g = some ⟨oc, od, .func (PySem.W.fnOf x x pg bg sg dV kV doc pm an cdv ct), osl⟩ ∧ PySem.W.codeIn X.K cdv x = true ∧ L2.Binds X.K (PySem.W.fnOf x x pg bg sg dV kV doc pm an cdv ct) [a] [] ∧ FnScope [a, n] [a] sg ∧
    sg.names.lookup a = some .local ∧ sg.names.lookup n = some .local ∧ sg.names.lookup en = some .globalImplicit ∧ X.mg en = some (.ref CS) ∧ (en == ("__debug__" : Str)) = false ∧ (n == ("__debug__" : Str)) = false ∧ (n == ("__classdict__" : Str)) = false ∧ (a == ("__debug__" : Str)) = false ∧ (a == ("__classdict__" : Str)) = false ∧
    bg = [.Try [.Expr (.Call (.Name a p1) [] [] p2) p3] [.ExceptHandler (some (.Name en p4)) (some n) [.Return (some (.Attribute (.Name n p5) f p6)) p7] p8] [] [] p9, .Return (some (.Constant (.str ⟨#[]⟩) j p10)) p11]
/-- where lambdas are made -/
structure LamP (S : Fx) (X : Cx) (scope : Scope) (params : Arguments) : Prop where
  tab : ∃ c P, LamX.TabB X.base X.mg c P ∧ X.env.code = .ref c ∧ (P, X.env.qual ++ "<lambda>") ∈ S.T ∧ ∀ p ∈ S.T, p.1 = P → p.2 = X.env.qual ++ "<lambda>"
  sc : LamX.LamS X.env.scope scope
  dfl : defaultsOf params X.env = ([], [])
  bind : ∀ (q : Str) (body : Expr) (cl : List (Str × Addr)) (pm cv ctv : Value), bindArgs (PySem.W.kla_fn "<lambda>" q params body scope cl pm cv ctv) ⟨[], []⟩ = Pure.pure []
theorem pe_lamE {c k : Nat} {x f : Str} {g CS : Addr} {a : Ex} {params : Arguments} {body : Expr} {scope : Scope} {p lpos pos : Pos} (hg : Gl X x) (hdb : (x == ("__debug__" : Str)) = false) (G : RefD X x g CS f) (ec : S.xc c = CS) (ef : S.xf c = f) (L : LamP S X scope params) (hr : Room (k + 2) X.A)
    (hbody : ∀ (A : Around) (outer : List PySem.Env) (s : Shared) (H : Hp) (E : XK) (fl c' : Addr), Room k (A.deeper (LamX.lamEnv X scope s.heap.objs.size fl c')) → PE (LamX.lamCx X A outer s H E scope fl c') body (tX S C E a)) :
    PE X (.Call (.Name x p) [.Lambda params body scope lpos] [] pos) (tX S C E (.lam c a)) := by
  obtain ⟨oc, od, osl, pg, bg, sg, dV, kV, doc, pm, cdv, ct, an, al, n, en, j, p1, p2, p3, p4, p5, p6, p7, p8, p9, p10, p11, lk, hcg, hb, Sg, hla, hln, hge, hme, hde, hnd, hnc, had, hac, ebg⟩ := G.fn
  obtain ⟨cd, P, TB, hcode, hmT, hu⟩ := L.tab
  subst ebg
  refine pe_mono (LamX.pe_lamcall (T := S.T) (t := fun E => tX S C E a) hg G.mg G.kp lk hcg hb Sg rfl (.inl hla) (ref_gives (X := X) (f := f) Sg.nd rfl hln hge hme hde hnd hnc G.xf G.nof G.exm) TB hcode hmT hu hr L.sc L.dfl (fun q cl pm cv ctv => L.bind q body cl pm cv ctv) hbody hdb had hac) fun σ H Q ⟨r, e, m, k1, k2, g⟩ => ?_
  refine ⟨k2.tabs, fun H1 eN T1 => ?_⟩
  have x1 : Ext r r H H1 := ext_tables eN
  rw [evX] at g
  refine tV_tX ⟨r, e, m, k1.ext x1, k2.tables eN T1, ?_⟩
  cases q : (evX S.P C a e m).bind toV with
  | stuck => rw [q] at g; exact g
  | ok v m1 =>
    rw [q] at g
    intro r2 H2 y e2 k3 hv
    exact g r2 H2 (.str ⟨#[]⟩) (x1.trans e2) k3 (.str _)
  | exc d v m1 =>
    rw [q] at g
    simp only at g
    split at g
    · rename_i hd
      subst hd
      intro r2 H2 dd y e2 k3 hd hv
      exact ⟨congrArg Value.ref ec, dd, _, y, rfl, hd, by rw [ef]; simp [List.lookup], g r2 H2 y (x1.trans e2) k3 hv⟩
    · exact (show False from g).elim
end
end Mi
end

section
set_option autoImplicit false
set_option Elab.async false
set_option linter.all false
set_option maxRecDepth 100000
set_option maxHeartbeats 4000000
namespace Mi
open PySem PySem.Spec PyProof.Rows L2
/-- an empty set, just made -/
abbrev setO0 (w : World) : Obj := { cls := .type "set", dict := none, data := .set #[] 0 (.fresh 0 0 (!w.params.followText "set-order")) }
/-- how a set at S takes the items Pv, one after another; g: what stood before -/
structure SetM (P : Program) (w : World) (ul : Nat) (g : Heap) (n : Nat) (Pv : Nat → Value → Prop) (S : Addr) (SI : Nat → Heap → Prop) : Prop where
  start : ∀ h : Heap, (∀ b o, g.get? b = some o → h.get? b = some o) → h.get? S = some (setO0 w) → SI 0 h
  keep : ∀ i (h h' : Heap), SI i h → (∀ o, h.get? S = some o → h'.get? S = some o) → (∀ b o, g.get? b = some o → h'.get? b = some o) → SI i h'
  step : ∀ (A : Around) (E : Value → Shared → Prop) i v (s : Shared) (Q : Bool → Shared → Prop), A.units < ul → i < n → Pv i v → SI i s.heap → (∀ b o, g.get? b = some o → s.heap.get? b = some o) →
    (∀ h' tk b, Heap.SameBut S s.heap h' → s.toks ≤ tk → SI (i + 1) h' → Q b { s with heap := h', toks := tk }) → wpAny (model P w) A (setAdd S v) Q E s
section
variable {P : Program} {w : World} {A : Around} {E : Value → Shared → Prop}
theorem set_loop {ul : Nat} {I : Addr} {fp wr : List Addr} {G : Array GenState → Array GenState → Prop} {n : Nat} {Pv : Nat → Value → Prop} {St : Nat → Shared → Prop} {R : Result → Shared → Prop} {S : Addr} {g0 : Heap} {SI : Nat → Heap → Prop}
    (W : WalksS P w A.in1 I fp wr G n Pv St) (hSf : S ∉ fp) (M : SetM P w ul g0 n Pv S SI) (hS0 : g0.get? S = none) (hw0 : ∀ b ∈ wr, g0.get? b = none) (hu : A.in1.units < ul) :
    ∀ (k i : Nat) (s : Shared), n - i = k → i ≤ n → St i s → (∀ b o, g0.get? b = some o → s.heap.get? b = some o) → SI i s.heap →
      (∀ s', Moved (S :: wr) G s s' → SI n s'.heap → (∀ b o, g0.get? b = some o → s'.heap.get? b = some o) → R (.ok (.ret .none)) s') →
      codeAny (model P w) A (.builtin "set.update.loop" ⟨[.ref S, .ref I], []⟩) R s := by
  have nSw : S ∉ wr := fun h => hSf (W.sub _ h)
  have more : ∀ b ∈ wr, b ∈ S :: wr := fun b hb => List.mem_cons_of_mem _ hb
  have old : ∀ {s s' : Shared}, Moved wr G s s' → (∀ b o, g0.get? b = some o → s.heap.get? b = some o) → ∀ b o, g0.get? b = some o → s'.heap.get? b = some o := fun mv kp b o e =>
    mv.heap b o (fun hb => by rw [hw0 b hb] at e; cases e) (kp b o e)
  intro k
  induction k with
  | zero =>
    intro i s ek hi st kp si fin
    have ei : i = n := by omega
    subst ei
    refine codeAny_builtin F.entry_set_update_loop ?_
    rw [Around.under_plainId F.plain_set_update_loop _]
    show wpAny (model P w) A.in1 (pyNext (.ref I) >>= _) _ _ s
    refine wpAny_bind (W.done s _ _ st fun s' mv => ?_)
    show wpAny (model P w) A.in1 (ret Value.none) _ _ s'
    exact wpAny_pure (fin s' (mv.mono more) (M.keep _ _ _ si (fun o e => mv.heap S o nSw e) (old mv kp)) (old mv kp))
  | succ k ih =>
    intro i s ek hi st kp si fin
    have lt : i < n := by omega
    refine codeAny_builtin F.entry_set_update_loop ?_
    rw [Around.under_plainId F.plain_set_update_loop _]
    show wpAny (model P w) A.in1 (pyNext (.ref I) >>= _) _ _ s
    refine wpAny_bind (W.item i s _ _ lt st fun v s' pv st' mv => ?_)
    have kp' := old mv kp
    show wpAny (model P w) A.in1 (holding [v] (setAdd S v) >>= _) _ _ s'
    refine wpAny_bind (wpAny_holding (M.step A.in1 _ i v s' _ hu lt pv (M.keep _ _ _ si (fun o e => mv.heap S o nSw e) kp') kp' fun h' tk b sb ht si' => ?_))
    have kp2 : ∀ c o, g0.get? c = some o → h'.get? c = some o := fun c o e => (sb.2 c (fun z => by rw [z, hS0] at e; cases e)).trans (kp' c o e)
    refine wpAny_pure ⟨plainId_quiet F.plain_set_update_loop _, ih (i + 1) _ (by omega) lt (W.frame _ s' _ _ st' ht fun c hc o e => ?_) kp2 si' fun s2 mv2 si2 kp3 => ?_⟩
    · rw [sb.2 c fun z : c = S => hSf (by rw [← z]; exact hc)]
      exact e
    · refine fin s2 (Moved.trans W.gtrans ((mv.mono more).then_heap ht fun c o hc e => ?_) mv2) si2 kp3
      rw [sb.2 c fun z : c = S => hc (by rw [z]; exact List.mem_cons_self)]
      exact e
end
section
variable {P : Program} {w : World} {A : Around} {E : Value → Shared → Prop} {s : Shared}
/-- set(l), l a list or a tuple -/
theorem call_set_any {ul : Nat} {l : Addr} {items : Array Value} {SI : Nat → Heap → Prop} {Q : Value → Shared → Prop} (hh : A.handled = none) (hl : s.heap.IsList l items ∨ s.heap.IsTuple l items)
    (M : SetM P w ul s.heap items.size (fun i v => items[i]? = some v) s.heap.objs.size SI) (hu : A.units + 8 < ul)
    (h : ∀ (h' : Heap) (tk : Nat), SI items.size h' → (∀ b o, s.heap.get? b = some o → h'.get? b = some o) → Q (.ref s.heap.objs.size) { s with heap := h', toks := tk }) :
    wpAny (model P w) A (call (.type "set") [.ref l]) Q E s := by
  obtain ⟨c0, tl0, hmro0⟩ := PySem.F.called_set.mro
  have hmade0 := PySem.F.called_set.made
  have hsub0 := PySem.F.called_set.sub
  refine wpAny_call (codeAny_of_tree ?_)
  show wpAny (model P w) _ (callAny (.type "set") _) _ _ _
  refine wpAny_pure ⟨Code.quiet_builtin _ (by decide +kernel), codeAny_builtin PySem.F.entry_type_call ?_⟩
  rw [Around.under_plain (weight_type_call_type "set" [.ref l] []) rfl]
  have c1 := PySem.F.called_set.notType
  have c2 := PySem.F.called_set.canCreate
  have c3 := PySem.F.typeCall_set_1 (.ref l)
  repeat (any_goals (first | assumption | wp_step))
  refine codeAny_mono (code_set_led1 (.ref l) (E := E) (Q₁ := fun obj s1 => obj = .ref s.heap.objs.size ∧ s1 = { s with heap := s.heap.push (setO0 w) }) ⟨rfl, rfl⟩) fun r s1 hr => ?_
  cases r with
  | error e => exact hr
  | ok fl =>
    cases fl with
    | ret obj =>
      obtain ⟨rfl, rfl⟩ := hr
      have atS : (s.heap.push (setO0 w)).get? s.heap.objs.size = some (setO0 w) := Heap.get?_push_size _ rfl
      have tyS : Shared.TypeIs { s with heap := s.heap.push (setO0 w) } (.ref s.heap.objs.size) "set" := ⟨_, atS, rfl⟩
      have c4 := PySem.F.called_set.init.lookup
      have c5 := PySem.F.called_set.init.bind (.ref s.heap.objs.size)
      repeat (any_goals (first | assumption | wp_step))
      refine codeAny_mono (codeAny_call_builtin (R := wants (fun r s2 => r = .none ∧ ∃ h' tk, s2 = { s with heap := h', toks := tk } ∧ SI items.size h' ∧ (∀ b o, s.heap.get? b = some o → h'.get? b = some o)) E) PySem.F.called_set.init.plain PySem.F.entry_set_init (check_set_init_1 tyS ?_)) fun r2 s2 hr2 => ?_
      · have none_of : ∀ b, s.heap.objs.size ≤ b → s.heap.get? b = none := fun b hb => by
          cases q : s.heap.get? b with
          | none => rfl
          | some o => exact absurd (Nat.lt_of_lt_of_le (Heap.lt_size q) hb) (Nat.lt_irrefl _)
        have hh3 : A.in1.in1.in1.handled = none := by simp [hh]
        have fin : ∀ (it : Obj) (St : Nat → Shared → Prop) (W : WalksS P w A.in1.in1.in1 (s.heap.push (setO0 w)).objs.size [(s.heap.push (setO0 w)).objs.size, l] [(s.heap.push (setO0 w)).objs.size] (fun a b => b = a) items.size (fun i v => items[i]? = some v) St), l < s.heap.objs.size →
            St 0 { s with heap := (s.heap.push (setO0 w)).push it } →
            codeAny (model P w) A.in1.in1 (.builtin "set.update.loop" ⟨[.ref s.heap.objs.size, .ref (s.heap.push (setO0 w)).objs.size], []⟩)
              (fun r s' => r = .ok (.ret .none) ∧ ∃ h' tk, s' = { s with heap := h', toks := tk } ∧ SI items.size h' ∧ ∀ b o, s.heap.get? b = some o → h'.get? b = some o) { s with heap := (s.heap.push (setO0 w)).push it } := fun it St W hl0 st => by
          have kp : ∀ b o, s.heap.get? b = some o → ((s.heap.push (setO0 w)).push it).get? b = some o := fun b o e => Heap.get?_push_of_some _ (Heap.get?_push_of_some _ e)
          have nf : s.heap.objs.size ∉ [(s.heap.push (setO0 w)).objs.size, l] := by
            rw [Heap.size_push]
            simp only [List.mem_cons, List.mem_singleton, List.not_mem_nil, or_false, not_or]
            exact ⟨Nat.ne_of_lt (Nat.lt_succ_self _), Nat.ne_of_gt hl0⟩
          refine set_loop W nf M (none_of _ (Nat.le_refl _)) (fun b hb => none_of b (by rw [List.mem_singleton.mp hb, Heap.size_push]; exact Nat.le_succ _)) (by show A.units + 1 + 1 + 1 < ul; omega) (items.size - 0) 0 _ (by omega) (Nat.zero_le _) st kp
            (M.start _ kp (Heap.get?_push_of_some _ atS)) fun s2 mv si kp2 => ?_
          obtain ⟨h2, g2, d2, t2, o2⟩ := s2
          have e1 : g2 = s.gens := mv.gens
          have e2 : d2 = s.drawn := mv.drawn
          have e3 : o2 = s.os := mv.os
          subst e1; subst e2; subst e3
          exact ⟨rfl, h2, t2, rfl, si, kp2⟩
        rcases hl with hl | hl
        · obtain ⟨ol, hol, hcl, nl, hdl⟩ := hl
          obtain ⟨ocls, odict, odata, oslots⟩ := ol
          simp only at hcl hdl
          subst hcl; subst hdl
          have hol2 : (s.heap.push (setO0 w)).get? l = some { cls := .type "list", dict := odict, data := .seq items nl, slots := oslots } := Heap.get?_push_of_some _ hol
          have f1 := PySem.F.sub_list_set
          have f2 := PySem.F.sub_list_frozenset
          have f3 : (Value.type "list" == Value.type "dict") = false := by decide
          have il : (s.heap.push (setO0 w)).IsList l items := ⟨_, hol2, rfl, nl, rfl⟩
          have lt : l < s.heap.objs.size := Heap.lt_size hol
          have ne : l ≠ (s.heap.push (setO0 w)).objs.size := by
            rw [Heap.size_push]
            exact Nat.ne_of_lt (Nat.lt_succ_of_lt lt)
          unfold Builtin.«set.__init__» noKeywords Builtin.Frozenset.updateFrom
          generalize hPI : pyIter = PI
          wp_walk
          subst hPI
          refine wpAny_pyIter_list il (wpAny_bind (wpAny_runValue (codeAny_mono (fin _ _ ((Walks.list hh3 _ l ne items).toS) lt ⟨⟨_, Heap.get?_push_size _ rfl, rfl, rfl⟩, il.push _⟩) fun r s' hr => ?_)))
          obtain ⟨rfl, h', tk, rfl, si, kp⟩ := hr
          show wpAny _ _ _ _ _ _
          refine wpAny_pure ?_
          show wpAny _ _ (ret Value.none) _ _ _
          exact wpAny_pure ⟨rfl, h', tk, rfl, si, kp⟩
        · obtain ⟨ol, hol, hcl, nl, hdl⟩ := hl
          obtain ⟨ocls, odict, odata, oslots⟩ := ol
          simp only at hcl hdl
          subst hcl; subst hdl
          have hol2 : (s.heap.push (setO0 w)).get? l = some { cls := .type "tuple", dict := odict, data := .seq items nl, slots := oslots } := Heap.get?_push_of_some _ hol
          have f1 := PySem.F.sub_tuple_set
          have f2 := PySem.F.sub_tuple_frozenset
          have f3 : (Value.type "tuple" == Value.type "dict") = false := by decide
          have il : (s.heap.push (setO0 w)).IsTuple l items := ⟨_, hol2, rfl, nl, rfl⟩
          have lt : l < s.heap.objs.size := Heap.lt_size hol
          have ne : l ≠ (s.heap.push (setO0 w)).objs.size := by
            rw [Heap.size_push]
            exact Nat.ne_of_lt (Nat.lt_succ_of_lt lt)
          unfold Builtin.«set.__init__» noKeywords Builtin.Frozenset.updateFrom
          generalize hPI : pyIter = PI
          wp_walk
          subst hPI
          refine wpAny_pyIter_tuple il (wpAny_bind (wpAny_runValue (codeAny_mono (fin _ _ ((Walks.tuple hh3 _ l ne items).toS) lt ⟨⟨_, Heap.get?_push_size _ rfl, rfl, rfl⟩, il.push _⟩) fun r s' hr => ?_)))
          obtain ⟨rfl, h', tk, rfl, si, kp⟩ := hr
          show wpAny _ _ _ _ _ _
          refine wpAny_pure ?_
          show wpAny _ _ (ret Value.none) _ _ _
          exact wpAny_pure ⟨rfl, h', tk, rfl, si, kp⟩
      · cases r2 with
        | error e => exact hr2
        | ok fl2 =>
          cases fl2 with
          | ret r =>
            obtain ⟨rfl, h', tk, rfl, si, kp⟩ := hr2
            repeat (any_goals (first | assumption | wp_step))
            exact h _ _ si kp
          | _ => exact hr2.elim
    | _ => exact hr.elim
end
end Mi
end

section
set_option autoImplicit false
set_option Elab.async false
set_option linter.all false
set_option maxRecDepth 100000
set_option maxHeartbeats 1000000
namespace Mi
open PySem PySem.Spec PyProof.Rows L2
section
variable {α : Type} [DecidableEq α]
/-- each once, in the order of the first places -/
def uniq (l : List α) : List α := l.foldl (fun acc x => if x ∈ acc then acc else acc ++ [x]) []
theorem uniq_snoc (l : List α) (x : α) : uniq (l ++ [x]) = if x ∈ uniq l then uniq l else uniq l ++ [x] := by
  unfold uniq
  rw [List.foldl_append]
  rfl
theorem mem_foldl (l : List α) : ∀ (acc : List α) (y : α), y ∈ l.foldl (fun acc x => if x ∈ acc then acc else acc ++ [x]) acc ↔ y ∈ acc ∨ y ∈ l := by
  induction l with
  | nil => simp
  | cons x l ih =>
    intro acc y
    rw [List.foldl_cons, ih]
    by_cases h : x ∈ acc
    · rw [if_pos h]
      constructor
      · rintro (h1 | h1)
        · exact .inl h1
        · exact .inr (List.mem_cons_of_mem _ h1)
      · rintro (h1 | h1)
        · exact .inl h1
        · rcases List.mem_cons.mp h1 with h1 | h1
          · exact .inl (h1 ▸ h)
          · exact .inr h1
    · rw [if_neg h, List.mem_append, List.mem_singleton, List.mem_cons]
      constructor
      · rintro ((h1 | h1) | h1)
        · exact .inl h1
        · exact .inr (.inl h1)
        · exact .inr (.inr h1)
      · rintro (h1 | h1 | h1)
        · exact .inl (.inl h1)
        · exact .inl (.inr h1)
        · exact .inr h1
theorem mem_uniq {l : List α} {y : α} : y ∈ uniq l ↔ y ∈ l := by
  unfold uniq
  rw [mem_foldl]
  simp
theorem nodup_foldl (l : List α) : ∀ (acc : List α), acc.Nodup → (l.foldl (fun acc x => if x ∈ acc then acc else acc ++ [x]) acc).Nodup := by
  induction l with
  | nil => exact fun _ h => h
  | cons x l ih =>
    intro acc h
    rw [List.foldl_cons]
    refine ih _ ?_
    by_cases hx : x ∈ acc
    · rw [if_pos hx]
      exact h
    · rw [if_neg hx, List.nodup_append]
      exact ⟨h, by simp, fun a ha b hb z => hx (by rw [List.mem_singleton.mp hb] at z; exact z ▸ ha)⟩
theorem nodup_uniq (l : List α) : (uniq l).Nodup := nodup_foldl l [] List.nodup_nil
theorem foldl_len (l : List α) : ∀ (acc : List α), acc.length ≤ (l.foldl (fun acc x => if x ∈ acc then acc else acc ++ [x]) acc).length := by
  induction l with
  | nil => exact fun _ => Nat.le_refl _
  | cons x l ih =>
    intro acc
    rw [List.foldl_cons]
    refine Nat.le_trans ?_ (ih _)
    split
    · exact Nat.le_refl _
    · rw [List.length_append]
      exact Nat.le_add_right _ _
theorem uniq_len_take (l : List α) (i : Nat) : (uniq (l.take i)).length ≤ (uniq l).length := by
  conv => rhs; rw [← List.take_append_drop i l]
  unfold uniq
  rw [List.foldl_append]
  exact foldl_len _ _
theorem sub_len : ∀ {l m : List α}, l.Nodup → (∀ a ∈ l, a ∈ m) → l.length ≤ m.length
  | [], _, _, _ => Nat.zero_le _
  | x :: l, m, h, hs => by
    rw [List.nodup_cons] at h
    have hx : x ∈ m := hs x List.mem_cons_self
    have ih := sub_len (l := l) (m := m.erase x) h.2 fun a ha => (List.mem_erase_of_ne (fun z : a = x => h.1 (z ▸ ha))).mpr (hs a (List.mem_cons_of_mem _ ha))
    rw [List.length_erase_of_mem hx] at ih
    have := List.length_pos_of_mem hx
    rw [List.length_cons]
    omega
end
def IsI (v : Value) (i : Int) : Prop := ∃ t, v = .int i t
theorem setM_ints {P : Program} {w : World} {ul : Nat} {g : Heap} {S : Addr} {n : Nat} {Pv : Nat → Value → Prop} (ns : List Int) (hn : n = ns.length) (hv : ∀ i v, Pv i v → ∃ k, ns[i]? = some k ∧ IsI v k) (h64 : (uniq ns).length < 64) (hS : g.get? S = none) :
    SetM P w ul g n Pv S (fun i h => SetR w h S (fun k => decide (k ∈ uniq (ns.take i))) (uniq (ns.take i)).length) where
  start := fun h _ e => by
    obtain ⟨o, es, ep, t, ho, r⟩ := setR_fresh (h := h) w
    rw [Heap.get?_push_size _ rfl] at ho
    cases ho
    exact ⟨_, es, ep, t, e, r⟩
  keep := fun i h h' R k _ => R.at k
  step := fun A E i v s Q hu hi pv R kp hQ => by
    obtain ⟨k, hk, t, rfl⟩ := hv i v pv
    have e1 : ns.take (i + 1) = ns.take i ++ [k] := take_next hk
    have hle := uniq_len_take ns i
    unfold setAdd
    refine wpAny_holding ?_
    refine wpAny_bind ((intKind P w).pyHash (intKind_is P w k t) ?_)
    refine setR_add_hashed (s := { s with toks := s.toks + 1 }) R (by unfold scanBound; omega) fun h' sb r => ?_
    refine hQ h' (s.toks + 1) _ sb (Nat.le_succ _) ?_
    show SetR w h' S (fun j => decide (j ∈ uniq (ns.take (i + 1)))) (uniq (ns.take (i + 1))).length
    rw [e1, uniq_snoc]
    by_cases hm : k ∈ uniq (ns.take i)
    · rw [if_pos hm]
      rw [if_pos (decide_eq_true hm)] at r
      exact r.congr fun j => by
        by_cases z : j = k
        · subst z
          simp [hm]
        · simp [z]
    · rw [if_neg hm]
      rw [if_neg (by simpa using hm)] at r
      rw [List.length_append]
      exact r.congr fun j => by
        simp [Bool.or_comm, List.mem_append]
theorem setM_tups {P : Program} {w : World} {g : Heap} {S : Addr} {n : Nat} {Pv : Nat → Value → Prop} (ks : List (Addr × List Int)) (hn : n = ks.length) (hv : ∀ i v, Pv i v → ∃ p, ks[i]? = some p ∧ v = .ref p.1) (hk : ∀ p ∈ ks, IsT P w g p.2 p.1) (h64 : (uniq (ks.map (·.2))).length < 63) (hS : g.get? S = none) :
    SetM P w cLine g n Pv S (fun i h => ∃ L es ep t, SetTR P w h S L es ep t ∧ Got ks i L) where
  start := fun h _ e => ⟨[], _, _, _, setTR_fresh e, Got.zero ks⟩
  keep := fun i h h' ⟨L, es, ep, t, R, G⟩ k kp => ⟨L, es, ep, t, R.keep k fun p hp => isT_keep (hk p (List.mem_of_mem_take (G.sub p hp))) kp, G⟩
  step := fun A E i v s Q hu hi pv ⟨L, es, ep, t, R, G⟩ kp hQ => by
    obtain ⟨p, hp, rfl⟩ := hv i v pv
    have hx : IsT P w s.heap p.2 p.1 := isT_keep (hk p (List.mem_of_getElem? hp)) kp
    have hl : L.length ≤ (uniq (ks.map (·.2))).length := by
      rw [← List.length_map (f := (·.2))]
      refine sub_len R.nd fun a ha => mem_uniq.mpr ?_
      obtain ⟨q, hq, e⟩ := List.mem_map.mp ha
      exact List.mem_map.mpr ⟨q, List.mem_of_mem_take (G.sub q hq), e⟩
    unfold setAdd
    refine wpAny_holding ?_
    refine wpAny_bind (wpAny_pyHash_tuple hu hx ?_)
    refine add_at (s := { s with toks := s.toks + (p.2.length + 1) }) R hx hu (by omega) fun b h' L' es' ep' t' sb R2 c1 c2 => ?_
    refine hQ h' _ b sb (Nat.le_add_right _ _) ⟨L', es', ep', t', R2, ?_⟩
    rcases Classical.em (p.2 ∈ L.map (·.2)) with c | c
    · rw [c1 c]
      exact G.same hp c
    · exact G.more hp (c2 c)
end Mi
end

section
set_option autoImplicit false
set_option Elab.async false
set_option linter.all false
set_option maxRecDepth 100000
set_option maxHeartbeats 1000000
namespace Mi
open PySem PySem.Spec PyProof.Rows L2
/-- an order told by a comparison, and how its members stand as trees -/
structure Ordr (α : Type) [DecidableEq α] (c : α → α → Ordering) (f : α → PV) : Prop where
  cmp : ∀ a b, cmpP (f a) (f b) = some (c a b)
  beq : ∀ a b, beqP (f a) (f b) = decide (a = b)
  eq : ∀ a b, c a b = .eq → a = b
  swap : ∀ a b, c b a = (c a b).swap
  trans : ∀ a b d, c a b = .lt → c b d = .lt → c a d = .lt
section
variable {α : Type} [DecidableEq α] {c : α → α → Ordering} {f : α → PV}
theorem insF_is (O : Ordr α c f) {x : α} : ∀ {zs : List α} {ys : List PV}, sortP.insF (f x) (zs.map f) = some ys → zs.Pairwise (fun a b => c a b = .lt) → x ∉ zs → ∃ ws : List α, ys = ws.map f ∧ ws.Perm (x :: zs) ∧ ws.Pairwise (fun a b => c a b = .lt)
  | [], ys, h, _, _ => by
    cases h
    exact ⟨[x], rfl, List.Perm.refl _, by simp⟩
  | z :: zs, ys, h, hp, hx => by
    rw [List.map_cons, sortP.insF, O.cmp z x] at h
    rw [List.pairwise_cons] at hp
    cases e : c z x with
    | lt =>
      rw [e] at h
      cases h2 : sortP.insF (f x) (zs.map f) with
      | none => rw [h2] at h; cases h
      | some us =>
        rw [h2] at h
        cases h
        obtain ⟨ws, rfl, k2, k3⟩ := insF_is O h2 hp.2 (fun q => hx (List.mem_cons_of_mem _ q))
        refine ⟨z :: ws, rfl, (List.Perm.cons z k2).trans (List.Perm.swap x z zs), ?_⟩
        rw [List.pairwise_cons]
        refine ⟨fun b hb => ?_, k3⟩
        rcases List.mem_cons.mp (k2.mem_iff.mp hb) with hb | hb
        · rw [hb]; exact e
        · exact hp.1 b hb
    | eq => exact absurd (O.eq _ _ e) fun q => hx (q ▸ List.mem_cons_self)
    | gt =>
      rw [e] at h
      cases h
      have e2 : c x z = .lt := by rw [O.swap z x, e]; rfl
      refine ⟨x :: z :: zs, rfl, List.Perm.refl _, ?_⟩
      rw [List.pairwise_cons, List.pairwise_cons]
      refine ⟨fun b hb => ?_, hp⟩
      rcases List.mem_cons.mp hb with hb | hb
      · rw [hb]; exact e2
      · exact O.trans _ _ _ e2 (hp.1 b hb)
theorem sortP_is (O : Ordr α c f) : ∀ {zs : List α} {ys : List PV}, sortP (zs.map f) = some ys → zs.Nodup → ∃ ws : List α, ys = ws.map f ∧ ws.Perm zs ∧ ws.Pairwise (fun a b => c a b = .lt)
  | [], ys, h, _ => by
    cases h
    exact ⟨[], rfl, List.Perm.refl _, List.Pairwise.nil⟩
  | z :: zs, ys, h, hn => by
    rw [List.map_cons, sortP] at h
    rw [List.nodup_cons] at hn
    cases h2 : sortP (zs.map f) with
    | none => rw [h2] at h; cases h
    | some us =>
      rw [h2] at h
      obtain ⟨ws, rfl, k2, k3⟩ := sortP_is O h2 hn.2
      obtain ⟨vs, rfl, j2, j3⟩ := insF_is O h k3 (fun q => hn.1 (k2.mem_iff.mp q))
      exact ⟨vs, rfl, j2.trans (List.Perm.cons z k2), j3⟩
theorem memP_map (O : Ordr α c f) (x : α) : ∀ l : List α, memP (f x) (l.map f) = decide (x ∈ l)
  | [] => rfl
  | y :: l => by
    rw [List.map_cons, memP, O.beq, memP_map O x l]
    by_cases h1 : x = y <;> by_cases h2 : x ∈ l <;> simp [h1, h2]
theorem dedup_is (O : Ordr α c f) : ∀ (zs acc : List α), dedup (zs.map f) (acc.map f) = (zs.foldl (fun acc x => if x ∈ acc then acc else acc ++ [x]) acc.reverse).map f
  | [], acc => by rw [List.map_nil, dedup, List.foldl_nil, List.map_reverse]
  | z :: zs, acc => by
    rw [List.map_cons, dedup, memP_map O, List.foldl_cons]
    by_cases h : z ∈ acc
    · rw [if_pos (decide_eq_true h), if_pos (List.mem_reverse.mpr h)]
      exact dedup_is O zs acc
    · rw [if_neg (by simpa using h), if_neg (by simpa using h)]
      have := dedup_is O zs (z :: acc)
      rw [List.map_cons, List.reverse_cons] at this
      exact this
theorem dedup_uniq (O : Ordr α c f) (zs : List α) : dedup (zs.map f) [] = (uniq zs).map f := dedup_is O zs []
/-- two rising lists of the same members -/
theorem rising_eq (O : Ordr α c f) : ∀ {l m : List α}, l.Pairwise (fun a b => c a b = .lt) → m.Pairwise (fun a b => c a b = .lt) → (∀ a, a ∈ l ↔ a ∈ m) → l = m
  | [], [], _, _, _ => rfl
  | [], y :: m, _, _, h => by have := (h y).mpr List.mem_cons_self; cases this
  | x :: l, [], _, _, h => by have := (h x).mp List.mem_cons_self; cases this
  | x :: l, y :: m, hl, hm, h => by
    rw [List.pairwise_cons] at hl hm
    have irr : ∀ a, c a a ≠ .lt := fun a e => by
      have := O.swap a a
      rw [e] at this
      cases this
    have e : x = y := by
      apply Classical.byContradiction
      intro ne
      have h1 : x ∈ m := by
        rcases List.mem_cons.mp ((h x).mp List.mem_cons_self) with q | q
        · exact absurd q ne
        · exact q
      have h2 : y ∈ l := by
        rcases List.mem_cons.mp ((h y).mpr List.mem_cons_self) with q | q
        · exact absurd q.symm ne
        · exact q
      exact irr _ (O.trans _ _ _ (hl.1 y h2) (hm.1 x h1))
    subst e
    rw [rising_eq O hl.2 hm.2 fun a => ?_]
    constructor
    · intro ha
      rcases List.mem_cons.mp ((h a).mp (List.mem_cons_of_mem _ ha)) with q | q
      · subst q; exact absurd (hl.1 _ ha) (irr _)
      · exact q
    · intro ha
      rcases List.mem_cons.mp ((h a).mpr (List.mem_cons_of_mem _ ha)) with q | q
      · subst q; exact absurd (hm.1 _ ha) (irr _)
      · exact q
/-- sorted(set(zs)) -/
theorem srs_is (O : Ordr α c f) {zs : List α} {ys : List PV} (h : sortP (dedup (zs.map f) []) = some ys) {ws : List α} (h1 : ws.Pairwise (fun a b => c a b = .lt)) (h2 : ∀ a, a ∈ ws ↔ a ∈ zs) : ys = ws.map f := by
  rw [dedup_uniq O] at h
  obtain ⟨vs, rfl, k2, k3⟩ := sortP_is O h (nodup_uniq _)
  rw [rising_eq O k3 h1 fun a => by rw [k2.mem_iff, mem_uniq, h2]]
end
def cmpI (a b : Int) : Ordering := if a < b then .lt else if a = b then .eq else .gt
theorem cmpI_swap (a b : Int) : cmpI b a = (cmpI a b).swap := by
  unfold cmpI
  rcases Int.lt_trichotomy a b with h | h | h
  · rw [if_pos h, if_neg (by omega), if_neg (by omega)]; rfl
  · subst h; rw [if_neg (by omega), if_pos rfl]; rfl
  · rw [if_pos h, if_neg (by omega), if_neg (by omega)]; rfl
theorem cmpI_lt {a b : Int} : cmpI a b = .lt ↔ a < b := by
  unfold cmpI
  constructor
  · intro h
    split at h
    · assumption
    · split at h <;> cases h
  · intro h
    rw [if_pos h]
theorem cmpI_eq {a b : Int} : cmpI a b = .eq ↔ a = b := by
  unfold cmpI
  constructor
  · intro h
    split at h
    · cases h
    · split at h
      · assumption
      · cases h
  · intro h
    subst h
    rw [if_neg (by omega), if_pos rfl]
theorem ordI : Ordr Int cmpI PV.int where
  cmp := fun a b => rfl
  beq := fun a b => rfl
  eq := fun a b h => cmpI_eq.mp h
  swap := cmpI_swap
  trans := fun a b d h1 h2 => cmpI_lt.mpr (Int.lt_trans (cmpI_lt.mp h1) (cmpI_lt.mp h2))
def lexC : List Int → List Int → Ordering
  | [], [] => .eq
  | [], _ :: _ => .lt
  | _ :: _, [] => .gt
  | a :: k, b :: l => match cmpI a b with
    | .eq => lexC k l
    | o => o
def tupI (k : List Int) : PV := .tup (k.map PV.int)
theorem lexC_cmp : ∀ k l : List Int, cmpPs (k.map PV.int) (l.map PV.int) = some (lexC k l)
  | [], [] => rfl
  | [], _ :: _ => rfl
  | _ :: _, [] => rfl
  | a :: k, b :: l => by
    rw [List.map_cons, List.map_cons, cmpPs, ordI.cmp, lexC]
    cases e : cmpI a b with
    | eq => exact lexC_cmp k l
    | lt => rw [lexC_cmp k l]; rfl
    | gt => rw [lexC_cmp k l]; rfl
theorem lexC_eq : ∀ k l : List Int, lexC k l = .eq → k = l
  | [], [], _ => rfl
  | [], _ :: _, h => by cases h
  | _ :: _, [], h => by cases h
  | a :: k, b :: l, h => by
    rw [lexC] at h
    cases e : cmpI a b with
    | eq =>
      rw [e] at h
      rw [cmpI_eq.mp e, lexC_eq k l h]
    | lt => rw [e] at h; cases h
    | gt => rw [e] at h; cases h
theorem lexC_swap : ∀ k l : List Int, lexC l k = (lexC k l).swap
  | [], [] => rfl
  | [], _ :: _ => rfl
  | _ :: _, [] => rfl
  | a :: k, b :: l => by
    rw [lexC, lexC, cmpI_swap a b]
    cases e : cmpI a b with
    | eq => exact lexC_swap k l
    | lt => rfl
    | gt => rfl
theorem lexC_trans : ∀ k l m : List Int, lexC k l = .lt → lexC l m = .lt → lexC k m = .lt
  | _, [], [], _, h => by cases h
  | [], _, _ :: _, _, _ => rfl
  | _ :: _, [], _ :: _, h, _ => by cases h
  | _, _ :: _, [], _, h => by cases h
  | a :: k, b :: l, d :: m, h1, h2 => by
    rw [lexC] at h1 h2 ⊢
    cases e1 : cmpI a b with
    | gt => rw [e1] at h1; cases h1
    | lt =>
      have a1 := cmpI_lt.mp e1
      cases e2 : cmpI b d with
      | gt => rw [e2] at h2; cases h2
      | lt => rw [cmpI_lt.mpr (Int.lt_trans a1 (cmpI_lt.mp e2))]
      | eq => rw [← cmpI_eq.mp e2, e1]
    | eq =>
      rw [e1] at h1
      rw [cmpI_eq.mp e1]
      cases e2 : cmpI b d with
      | gt => rw [e2] at h2; cases h2
      | lt => rfl
      | eq =>
        rw [e2] at h2
        exact lexC_trans k l m h1 h2
theorem beq_tupI : ∀ k l : List Int, beqPs (k.map PV.int) (l.map PV.int) = decide (k = l)
  | [], [] => rfl
  | [], _ :: _ => rfl
  | _ :: _, [] => rfl
  | a :: k, b :: l => by
    rw [List.map_cons, List.map_cons, beqPs, ordI.beq, beq_tupI k l]
    by_cases h1 : a = b <;> by_cases h2 : k = l <;> simp [h1, h2]
theorem ordT : Ordr (List Int) lexC tupI where
  cmp := fun a b => by unfold tupI; rw [cmpP]; exact lexC_cmp a b
  beq := fun a b => by unfold tupI; rw [beqP]; exact beq_tupI a b
  eq := lexC_eq
  swap := lexC_swap
  trans := lexC_trans
end Mi
end

section
set_option autoImplicit false
set_option Elab.async false
set_option linter.all false
set_option maxRecDepth 100000
set_option maxHeartbeats 1000000
namespace Mi
open PySem PySem.Spec PyProof.Rows L2
variable {S : Fx}
theorem ands {a b : Bool} (h : (a && b) = true) : a = true ∧ b = true := Bool.and_eq_true_iff.mp h
def rSetA (K : PySem.W.Frag) (P : Program) (w : World) : List V → Hp → VK → Prop := fun vs H Q => ∃ l, vs = [V.ref l] ∧
  ((∃ ns : List Int, (SqL K H l (ns.map V.int) ∨ SqT K H l (ns.map V.int)) ∧ (uniq ns).length < 64 ∧ ∀ p, H p = none → Q (.ref p) (upd H p (SetO w p (fun k => decide (k ∈ uniq ns)) (uniq ns).length))) ∨
   ∃ ks : List (Addr × List Int), (SqL K H l (ks.map fun p => V.ref p.1) ∨ SqT K H l (ks.map fun p => V.ref p.1)) ∧ (∀ p ∈ ks, SqT K H p.1 (p.2.map V.int)) ∧ (uniq (ks.map (·.2))).length < 63 ∧
     ∀ p L, H p = none → (∀ q ∈ L, q ∈ ks) → (∀ q ∈ ks, q.2 ∈ L.map (·.2)) → Q (.ref p) (upd H p (SetTO P w p L)))
def rSortA (K : PySem.W.Frag) (P : Program) (w : World) : List V → Hp → VK → Prop := fun vs H Q => rSortedSet w vs H Q ∨ rSortedT K P w vs H Q
section
variable {X : Cx} {C : Nat → List PV → MH → Res PV} {E : XK}
theorem vals_get {vs : List V} {us : List Value} (r : Vals vs us) {i : Nat} {u : Value} (h : us[i]? = some u) : ∃ v, vs[i]? = some v ∧ RelV v u := by
  induction r generalizing i with
  | nil => simp at h
  | cons a b ih =>
    cases i with
    | zero => simp at h; subst h; exact ⟨_, rfl, a⟩
    | succ i => simp at h; exact ih h
theorem call_setA (hc : X.calm = true) (hu : X.A.units + 65 < cLine) : CallR X (.type "set") (rSetA X.K X.prog X.w) := by
  intro pins s σ H vs us Q I r h
  obtain ⟨l, rfl, h⟩ := h
  rw [Vals.ref1 r]
  have hn : H s.heap.objs.size = none := I.hok.fresh (Nat.le_refl _)
  have hg : s.heap.get? s.heap.objs.size = none := by
    cases q : s.heap.get? s.heap.objs.size with
    | none => rfl
    | some o => exact absurd (Heap.lt_size q) (Nat.lt_irrefl _)
  have seq : ∀ {ys : List V}, (SqL X.K H l ys ∨ SqT X.K H l ys) → ∃ its : List Value, Vals ys its ∧ (s.heap.IsList l its.toArray ∨ s.heap.IsTuple l its.toArray) := fun {ys} hs => by
    rcases hs with hs | hs
    · obtain ⟨its, rv, pl, _⟩ := I.list hs
      exact ⟨its, rv, .inl pl.isList⟩
    · obtain ⟨its, rv, pl, _⟩ := I.tuple hs
      exact ⟨its, rv, .inr pl⟩
  rcases h with ⟨ns, hs, h64, q⟩ | ⟨ks, hs, hk, h64, q⟩
  · obtain ⟨its, rv, pl⟩ := seq hs
    have hlen : its.toArray.size = ns.length := by rw [List.size_toArray, ← rv.length, List.length_map]
    refine call_set_any (ul := cLine) (I.ok.hd hc) pl (setM_ints ns hlen (fun i v hv => ?_) h64 hg) (by omega) fun h' tk si kp => ?_
    · rw [List.getElem?_toArray] at hv
      obtain ⟨w0, e1, e2⟩ := vals_get rv hv
      rw [List.getElem?_map] at e1
      cases e3 : ns[i]? with
      | none => rw [e3] at e1; cases e1
      | some k =>
        rw [e3] at e1
        cases e1
        exact ⟨k, rfl, e2⟩
    · rw [hlen, List.take_length] at si
      exact ⟨.ref s.heap.objs.size, _, I.laid (t' := tk) kp (Nat.le_refl _) (setO_new si), rfl, q _ hn⟩
  · obtain ⟨its, rv, pl⟩ := seq hs
    have hits := refs_of_vals rv
    have hlen : its.toArray.size = ks.length := by rw [List.size_toArray, ← rv.length, List.length_map]
    refine call_set_any (ul := cLine) (I.ok.hd hc) pl (setM_tups ks hlen (fun i v hv => ?_) (fun p hp => I.isT (hk p hp)) h64 hg) (by omega) fun h' tk si kp => ?_
    · rw [List.getElem?_toArray, hits, List.getElem?_map] at hv
      cases e3 : ks[i]? with
      | none => rw [e3] at hv; cases hv
      | some k =>
        rw [e3] at hv
        cases hv
        exact ⟨k, rfl, rfl⟩
    · obtain ⟨L, es, ep, t, R, g⟩ := si
      rw [hlen] at g
      refine ⟨.ref s.heap.objs.size, _, I.laid (t' := tk) kp (Nat.le_refl _) (setTO_new R.t0), rfl, q _ L hn (fun p hp => List.mem_of_mem_take (g.sub p hp)) fun p hp => g.all p (by rw [List.take_length]; exact hp)⟩
theorem call_sortA (hc : X.calm = true) : CallR X (.builtin "sorted") (rSortA X.K X.prog X.w) := by
  intro pins s σ H vs us Q I r h
  rcases h with h | h
  · exact cr_sortedSet hc pins s σ H vs us Q I r h
  · exact cr_sortedT hc pins s σ H vs us Q I r h
/-- a list, a tuple, with what is in it -/
theorem seq_end {H0 H : Hp} {r : List Addr} {m : MH} {x : XV} {y : V} {b : Bool} {xs : List PV} (q : Rx S H0 r H x y) (R : RH S r m H) (k : kindX x m = some b) (t : toL x m = .ok xs m) : ∃ a ys, y = .ref a ∧ (SqL S.K H a ys ∨ SqT S.K H a ys) ∧ RVs S.K r H xs ys := by
  cases x with
  | tmp zs =>
    cases t
    obtain ⟨a, ys, rfl, h1, h2, _, _⟩ := q
    exact ⟨a, ys, rfl, .inl (.inl (.inl h1)), h2⟩
  | its s zs => cases k
  | val v =>
    cases v with
    | tup zs =>
      cases t
      obtain ⟨a, ys, rfl, h1, h2⟩ := RV.tup_inv q
      exact ⟨a, ys, rfl, .inr h1, h2⟩
    | loc l =>
      obtain ⟨a, rfl, ha⟩ := RV.loc_inv q
      simp only [kindX] at k
      cases f : listAt m l with
      | none => rw [f] at k; cases k
      | some zs =>
        simp only [toL, itemsOf, f] at t
        cases t
        obtain ⟨ys, h1, h2⟩ := R.list ha f
        exact ⟨a, ys, rfl, .inl h1, h2⟩
    | seq ns =>
      cases t
      obtain ⟨a, rfl, ha⟩ := RV.seq_inv q
      exact ⟨a, _, rfl, .inl ha.sql, RVs.ints ns⟩
    | _ => cases k
theorem rvs_ints {K : PySem.W.Frag} {r : List Addr} {H : Hp} : ∀ {ns : List Int} {ys : List V}, RVs K r H (ns.map PV.int) ys → ys = ns.map V.int
  | [], _, .nil => rfl
  | n :: ns, _, .cons h t => by
    cases RV.int_inv h
    rw [rvs_ints t]
    rfl
theorem rvs_tups {K : PySem.W.Frag} {r : List Addr} {H : Hp} : ∀ {ks : List (List Int)} {ys : List V}, RVs K r H (ks.map tupI) ys → ∃ kas : List (Addr × List Int), ys = kas.map (fun p => V.ref p.1) ∧ kas.map (·.2) = ks ∧ ∀ p ∈ kas, SqT K H p.1 (p.2.map V.int) ∧ NoD K H p.1
  | [], _, .nil => ⟨[], rfl, rfl, fun p hp => by cases hp⟩
  | k :: ks, _, .cons h t => by
    obtain ⟨kas, rfl, e2, e3⟩ := rvs_tups t
    have h' : RV K r H (.tup (k.map PV.int)) _ := h
    obtain ⟨a, zs, rfl, h1, h2⟩ := RV.tup_inv h'
    have d := RV.noD h'
    rw [rvs_ints h2] at h1
    refine ⟨(a, k) :: kas, rfl, by rw [List.map_cons, e2], fun p hp => ?_⟩
    rcases List.mem_cons.mp hp with hp | hp
    · rw [hp]; exact ⟨h1, d⟩
    · exact e3 p hp
end
end Mi
end

section
set_option autoImplicit false
set_option Elab.async false
set_option linter.all false
set_option maxRecDepth 100000
set_option maxHeartbeats 1000000
namespace Mi
open PySem PySem.Spec PyProof.Rows L2
variable {S : Fx}
theorem ints_of : ∀ {xs : List PV}, intsB xs = true → ∃ ns : List Int, xs = ns.map PV.int
  | [], _ => ⟨[], rfl⟩
  | x :: xs, h => by
    unfold intsB at h
    rw [List.all_cons, Bool.and_eq_true] at h
    obtain ⟨ns, rfl⟩ := ints_of (xs := xs) h.2
    cases x with
    | int i => exact ⟨i :: ns, rfl⟩
    | _ => cases h.1
theorem small_of : ∀ {xs : List PV}, (xs.all fun z => match z with | .int i => decide (0 ≤ i) && decide (i < 4096) | _ => false) = true → ∃ ns : List Int, xs = ns.map PV.int ∧ TS.Bd 4096 ns
  | [], _ => ⟨[], rfl, fun m hm => by cases hm⟩
  | x :: xs, h => by
    rw [List.all_cons, Bool.and_eq_true] at h
    obtain ⟨ns, rfl, hb⟩ := small_of (xs := xs) h.2
    cases x with
    | int i =>
      obtain ⟨b1, b2⟩ := Bool.and_eq_true_iff.mp h.1
      refine ⟨i :: ns, rfl, fun m hm => ?_⟩
      rcases List.mem_cons.mp hm with hm | hm
      · rw [hm]; exact ⟨of_decide_eq_true b1, of_decide_eq_true b2⟩
      · exact hb m hm
    | _ => cases h.1
theorem tups_of {d : Nat} : ∀ {xs : List PV}, xs.all (tupIB d) = true → ∃ ks : List (List Int), xs = ks.map tupI ∧ ∀ k ∈ ks, k.length = d ∧ TS.Bd 4096 k
  | [], _ => ⟨[], rfl, fun k hk => by cases hk⟩
  | x :: xs, h => by
    rw [List.all_cons, Bool.and_eq_true] at h
    obtain ⟨ks, rfl, hb⟩ := tups_of (xs := xs) h.2
    cases x with
    | tup l =>
      obtain ⟨b1, b2⟩ := Bool.and_eq_true_iff.mp h.1
      obtain ⟨ns, rfl, hn⟩ := small_of b2
      refine ⟨ns :: ks, rfl, fun k hk => ?_⟩
      rcases List.mem_cons.mp hk with hk | hk
      · rw [hk]
        exact ⟨by have := of_decide_eq_true b1; rw [List.length_map] at this; exact this, hn⟩
      · exact hb k hk
    | _ => cases h.1
/-- ints, or tuples of small ints, as many each -/
theorem set_ok {xs : List PV} (h : setOk xs = true) : (∃ ns : List Int, xs = ns.map PV.int) ∨ ∃ (d : Nat) (ks : List (List Int)), 1 ≤ d ∧ xs = ks.map tupI ∧ ∀ k ∈ ks, k.length = d ∧ TS.Bd 4096 k := by
  unfold setOk at h
  rcases Bool.or_eq_true_iff.mp h with h | h
  · exact .inl (ints_of h)
  · cases xs with
    | nil => cases h
    | cons x xs =>
      cases x with
      | tup l =>
        obtain ⟨b1, b2⟩ := Bool.and_eq_true_iff.mp h
        obtain ⟨ks, e, hk⟩ := tups_of b2
        exact .inr ⟨l.length, ks, of_decide_eq_true b1, e, hk⟩
      | _ => cases h
theorem code_lexC {B : Int} : ∀ {k l : List Int}, k.length = l.length → TS.Bd B k → TS.Bd B l → TS.code B k ≤ TS.code B l → k ≠ l → lexC k l = .lt
  | [], [], _, _, _, _, h => absurd rfl h
  | [], _ :: _, h, _, _, _, _ => by cases h
  | _ :: _, [], h, _, _, _, _ => by cases h
  | a :: k, b :: l, hl, h1, h2, hc, ne => by
    have hl' : k.length = l.length := by simpa using hl
    rw [lexC]
    rcases Int.lt_trichotomy a b with h | h | h
    · rw [cmpI_lt.mpr h]
    · subst h
      rw [cmpI_eq.mpr rfl]
      refine code_lexC hl' h1.tail h2.tail ?_ fun z => ne (by rw [z])
      apply Classical.byContradiction
      intro z
      have := (TS.code_same (d := a) hl'.symm).mpr (by omega : TS.code B l < TS.code B k)
      omega
    · have := TS.code_lt hl'.symm h2.tail h1.tail h
      omega
section
variable {X : Cx} {C : Nat → List PV → MH → Res PV} {E : XK}
theorem pe_srsE {e : Expr} {a : Ex} {p p2 pos pos2 : Pos} (hK : X.K = S.K) (hc : X.calm = true) (hu : X.A.units + 65 < cLine) (bs : Blt X "sorted" [.Call (.Name "set" p2) [e] [] pos2]) (bt : Blt X "set" [e]) (ha : PE X e (tX S C E a)) :
    PE X (.Call (.Name "sorted" p) [.Call (.Name "set" p2) [e] [] pos2] [] pos) (tX S C E (.srs a)) := by
  have inner := pe_callTy (pos := pos2) (p := p2) (call_setA hc hu) bt.gl bt.mg rfl (pa_one ha bt.one) bt.nm bt.db bt.head bt.tail
  refine pe_mono (pe_callB (call_sortA hc) bs.gl bs.mg rfl (pa_one inner bs.one) bs.nm bs.db bs.head bs.tail) fun σ H Q ⟨r, n, m, k1, k2, g⟩ => ?_
  rw [evX] at g
  refine ⟨r, n, m, k1, k2, g.bind fun x m1 r1 H1 y _ e1 k3 q g1 => ?_⟩
  obtain ⟨xs, t1, g1⟩ := g1.toL
  obtain ⟨b, g1⟩ := g1.guard
  obtain ⟨b, b3⟩ := ands b
  obtain ⟨b1, b2⟩ := ands b
  have b3 := of_decide_eq_true b3
  cases hk : kindX x m1 with
  | none => rw [hk] at b1; cases b1
  | some kb =>
    obtain ⟨l, ys, rfl, hs, hv⟩ := seq_end q k3 hk t1
    have fin : ∀ {ws : List PV}, sortP (dedup xs []) = some ws → GE S (Rx S) r1 H1 Q E (.ok (.tmp ws) m1) := fun {ws} hw => by
      rw [hw] at g1
      exact g1
    cases hw : sortP (dedup xs []) with
    | none => rw [hw] at g1; exact (show False from g1).elim
    | some ws =>
      have g2 := fin hw
      rw [hK]
      refine ⟨l, rfl, ?_⟩
      rcases set_ok b2 with ⟨ns, rfl⟩ | ⟨d, ks, hd, rfl, hks⟩
      · rw [dedup_uniq ordI, List.length_map] at b3
        rw [rvs_ints hv] at hs
        refine .inl ⟨ns, hs, by omega, fun p hp => .inl ⟨p, _, _, rfl, upd_same, by omega, fun ns' p' h1 h2 h3 hp' => ?_⟩⟩
        have e := srs_is ordI hw (ws := ns') (h1.imp fun h => cmpI_lt.mpr h) fun i => by rw [h2 i, decide_eq_true_iff, mem_uniq]
        subst e
        exact ge_tmp (k3.beside hp) hp' (RVs.ints ns') (GE.ext anti_x g2 (ext_new hp))
      · rw [dedup_uniq ordT, List.length_map] at b3
        obtain ⟨kas, rfl, rfl, hka⟩ := rvs_tups hv
        refine .inr ⟨kas, hs, fun p hp => (hka p hp).1, b3, fun p L hp hL1 hL2 => .inr ⟨p, L, d, 4096, rfl, upd_same, fun q hq => ?_, hd, fun q hq => ?_, fun L' p' pm nd h64 pw hp' => ?_⟩⟩
        · exact (keep_new hp).sqT (hka q (hL1 q hq)).1
        · exact hks q.2 (List.mem_map.mpr ⟨q, hL1 q hq, rfl⟩)
        · have inL : ∀ q ∈ L', q ∈ kas := fun q hq => hL1 q (pm.mem_iff.mp hq)
          have hk2 : ∀ q ∈ L', q.2.length = d ∧ TS.Bd 4096 q.2 := fun q hq => hks q.2 (List.mem_map.mpr ⟨q, inL q hq, rfl⟩)
          have rise : (L'.map (·.2)).Pairwise (fun a b => lexC a b = .lt) := by
            rw [List.pairwise_map]
            have nd' : L'.Pairwise (fun a b => a.2 ≠ b.2) := List.pairwise_map.mp nd
            refine (List.Pairwise.and pw nd').imp_of_mem fun {u v} hu' hv' h => ?_
            exact code_lexC ((hk2 u hu').1.trans (hk2 v hv').1.symm) (hk2 u hu').2 (hk2 v hv').2 h.1 h.2
          have e := srs_is ordT hw rise fun i => by
            constructor
            · intro hi
              obtain ⟨q, hq, rfl⟩ := List.mem_map.mp hi
              exact List.mem_map.mpr ⟨q, inL q hq, rfl⟩
            · intro hi
              obtain ⟨q, hq, rfl⟩ := List.mem_map.mp hi
              exact ((pm.map (·.2)).mem_iff).mpr (hL2 q hq)
          subst e
          refine ge_tmp (k3.beside hp) hp' ?_ (GE.ext anti_x g2 (ext_new hp))
          have go : ∀ (M : List (Addr × List Int)), (∀ q ∈ M, q ∈ kas) → RVs S.K r1 (upd H1 p (SetTO X.prog X.w p L)) ((M.map (·.2)).map tupI) (M.map fun q => V.ref q.1) := by
            intro M
            induction M with
            | nil => exact fun _ => .nil
            | cons q M ih =>
              intro hM
              have h0 := hka q (hM q List.mem_cons_self)
              exact .cons (.tup ((keep_new hp).sqT h0.1) ((keep_new hp).noD h0.2) (RVs.ints q.2)) (ih fun z hz => hM z (List.mem_cons_of_mem _ hz))
          exact go L' inL
end
end Mi
end

section
set_option autoImplicit false
set_option Elab.async false
set_option linter.all false
set_option maxRecDepth 100000
set_option maxHeartbeats 1000000
namespace Mi
open PySem PySem.Spec PyProof.Rows L2
variable {S : Fx}
section
variable {X : Cx} {C : Nat → List PV → MH → Res PV} {E : XK}
/-- keys of a display, texts -/
def trsK (S : Fx) (C : Nat → List PV → MH → Res PV) (E : XK) : List Str → List Ex → List (TE × TE)
  | k :: ks, a :: as => (tC (.str k), tV S C E a) :: trsK S C E ks as
  | _, _ => []
theorem t_pairs {σ : L2.St} : ∀ {ks : List Str} {as : List Ex} {r : List Addr} {n : Env} {m : MH} {H : Hp} {Q : List (V × V) → Hp → Prop}, ks.length = as.length → RE S r H n σ → RH S r m H →
    GE S (Rvs S) r H (fun ys H1 => Q ((ks.zip ys).map fun p => (V.str p.1, p.2)) H1) E (evs S.P C as n m) → tPairs (trsK S C E ks as) σ H Q
  | [], [], r, n, m, H, Q, _, _, k2, g => g r H [] (Ext.refl _ _) k2 .nil
  | k :: ks, a :: as, r, n, m, H, Q, hl, k1, k2, g => by
    refine ⟨r, n, m, k1, k2, GE.bind (k := fun v m => (evs S.P C as n m).bind fun vs m => .ok (v :: vs) m) g fun v m1 r1 H1 x _ e1 k3 q g1 => ?_⟩
    refine t_pairs (by simpa using hl) (k1.ext e1) k3 (g1.bind fun vs m2 r2 H2 xs _ e2 k4 q2 g2 => ?_)
    exact g2 r2 H2 _ (Ext.refl _ _) k4 (.cons (RV.ext e2 q) q2)
  | [], _ :: _, _, _, _, _, _, hl, _, _, _ => by simp at hl
  | _ :: _, [], _, _, _, _, _, hl, _, _, _ => by simp at hl
theorem RH.tempK {r : List Addr} {m : MH} {H : Hp} {D : Addr} {kvs zs : List (Key × V)} (R : RH S r m H) (hD : D ∉ r) (h : H D = some (.dK kvs)) : RH S r m (upd H D (.dK zs)) := by
  have k : Keep H (upd H D (.dK zs)) := keep_write h fun z => z
  refine ⟨R.len, R.nd, fun l a o h1 h2 => ?_, tabs_keep R.tabs fun b w e hw => ?_⟩
  · refine (R.obj l a o h1 h2).kept k (upd_ne fun e => hD ?_)
    rw [← e]
    exact List.mem_of_getElem? h1
  · by_cases hb : b = D
    · rw [hb, h] at e
      cases e
      rcases hw with ⟨ps, e⟩ | ⟨φ, w2, e⟩ <;> exact HO.noConfusion e
    · rw [upd_ne hb]
      exact e
def kvsOf (ks : List Str) (ys : List V) : List (Key × V) := (ks.zip ys).map fun p => (Sum.inr p.1, p.2)
theorem kvs_any {x : Str} : ∀ {ks : List Str} {ys : List V}, x ∉ ks → ((kvsOf ks ys).any fun kv => decide (kv.1 = (Sum.inr x : Key))) = false
  | [], _, _ => rfl
  | _ :: _, [], _ => rfl
  | k :: ks, y :: ys, h => by
    show (decide ((Sum.inr k : Key) = Sum.inr x) || (kvsOf ks ys).any fun kv => decide (kv.1 = (Sum.inr x : Key))) = false
    rw [kvs_any (fun z => h (List.mem_cons_of_mem _ z)), Bool.or_false]
    exact decide_eq_false fun z => h (by cases z; exact List.mem_cons_self)
theorem merge_app : ∀ {ks : List Str} {ys : List V} {acc : List (Key × V)}, ks.Nodup → (∀ k ∈ ks, (acc.any fun kv => decide (kv.1 = (Sum.inr k : Key))) = false) → mergeK acc (kvsOf ks ys) = acc ++ kvsOf ks ys
  | [], _, acc, _, _ => by
    show acc = acc ++ []
    rw [List.append_nil]
  | _ :: _, [], acc, _, _ => by
    show acc = acc ++ []
    rw [List.append_nil]
  | k :: ks, y :: ys, acc, hn, ha => by
    rw [List.nodup_cons] at hn
    show mergeK (putK acc (Sum.inr k) y) (kvsOf ks ys) = acc ++ ((Sum.inr k, y) :: kvsOf ks ys)
    have e : putK acc (Sum.inr k : Key) y = acc ++ [(Sum.inr k, y)] := by
      unfold putK
      rw [ha k List.mem_cons_self, if_neg Bool.false_ne_true]
    rw [e, merge_app hn.2 fun j hj => ?_]
    · rw [List.append_assoc]; rfl
    · rw [List.any_append, ha j (List.mem_cons_of_mem _ hj)]
      show (false || (decide ((Sum.inr k : Key) = Sum.inr j) || false)) = false
      rw [Bool.false_or, Bool.or_false]
      exact decide_eq_false fun z => hn.1 (by cases z; exact hj)
theorem look_kvs {K : PySem.W.Frag} {r : List Addr} {H : Hp} {x : Str} {v : PV} : ∀ {ks : List Str} {vs : List PV} {ys : List V}, RVs K r H vs ys → lookK x ks vs = some v → ∃ y, valV (kvsOf ks ys) (Sum.inr x : Key) = some y ∧ RV K r H v y
  | [], _, _, _, h => by simp [lookK] at h
  | _ :: _, [], _, _, h => by simp [lookK] at h
  | k :: ks, w :: vs, _, .cons (y := y) (ys := ys) h t, e => by
    rw [lookK] at e
    by_cases hk : k = x
    · rw [if_pos (decide_eq_true hk)] at e
      cases e
      exact ⟨y, valV_pos (by rw [hk] <;> rfl), h⟩
    · rw [if_neg (by simpa using hk)] at e
      obtain ⟨z, h1, h2⟩ := look_kvs t e
      exact ⟨z, (valV_neg (fun q => hk (by cases q; rfl))).trans h1, h2⟩
theorem pe_pickE {keys : List (Option Expr)} {values : List Expr} {i : Expr} {p2 pos : Pos} {ks : List Str} {as : List Ex} {b : Ex} (hu : X.A.units + 65 < cLine) (hp : PPs X p2 keys values (trsK S C E ks as)) (hall : keys.all (·.isSome) = true) (hl : keys.length = values.length) (h0 : keys ≠ [])
    (h15 : keys.length ≤ 15) (hk : ks.length ≤ 15) (hkl : ks.length = as.length) (hnd : ks.Nodup) (hi : PE X i (tX S C E b)) (hs : NoSl i) : PE X (.Subscript (.Dict keys values p2) i pos) (tX S C E (.pick ks as b)) := by
  refine pe_mono (pe_dget (by omega) (pe_disp hp hall hl h0 h15) (pe_val hi) hs) fun σ H Q ⟨r, n, m, k1, k2, g⟩ => ?_
  rw [evX] at g
  intro p hpn
  refine t_pairs hkl (k1.ext (ext_new hpn)) (k2.beside hpn) ?_
  cases hx : evs S.P C as n m with
  | stuck => rw [hx] at g; exact g
  | exc c v m1 =>
    rw [hx] at g
    exact fun r' H' d y e h1 h2 h3 => g r' H' d y ((ext_new hpn).trans e) h1 h2 h3
  | ok vs m1 =>
    rw [hx] at g
    intro r1 H1 ys e1 k3 q
    have e0 : Ext r r1 H H1 := (ext_new hpn).trans e1
    have hpr : p ∉ r1 := e1.notin (k2.out hpn) upd_same
    have h1p : H1 p = some (.dK []) := e1.2.1 p _ (k2.out hpn) upd_same fun ps z => by cases z
    refine ⟨h1p, kvsOf ks ys, ?_, ?_, ?_⟩
    · unfold kvsOf
      rw [List.map_map]
      rfl
    · unfold kvsOf
      rw [List.length_map, List.length_zip]
      omega
    · rw [merge_app (acc := []) hnd fun _ _ => rfl, List.nil_append]
      have e2 : Ext r r1 H (upd H1 p (.dK (kvsOf ks ys))) := e0.temp (nt_none hpn)
      have k4 := k3.tempK (zs := kvsOf ks ys) hpr h1p
      have kp : Keep H1 (upd H1 p (.dK (kvsOf ks ys))) := keep_write h1p fun z => z
      refine ⟨r1, n, m1, k1.ext e2, k4, GE.bind (GE.ext anti_x g e2) fun w m2 r2 H3 y _ e3 k5 q2 g2 => ?_⟩
      cases w with
      | str x =>
        cases RV.str_inv q2
        have g2 : GE S (Rx S) r2 H3 Q E ((ofO (lookK x ks vs) m2).bind fun v m => .ok (.val v) m) := g2
        cases el : lookK x ks vs with
        | none => rw [el] at g2; exact (show False from g2).elim
        | some v =>
          rw [el] at g2
          obtain ⟨z, z1, z2⟩ := look_kvs (q.kept kp) el
          have h3p : H3 p = some (.dK (kvsOf ks ys)) := e3.2.1 p _ hpr upd_same fun ps z => by cases z
          refine ⟨p, z, rfl, ?_, GE.hereX (E := E) (m := m2) g2 k5 (z2.ext e3)⟩
          rw [← z1]
          exact DGet.k (k := Sum.inr x) h3p
      | _ => exact (show False from g2).elim
end
end Mi
end

section
set_option autoImplicit false
set_option Elab.async false
set_option linter.all false
set_option maxRecDepth 100000
set_option maxHeartbeats 1000000
namespace Mi
open PySem PySem.Spec PyProof.Rows L2
section
variable {prog : Program} {w : World} {A : Around}
set_option maxHeartbeats 2000000 in
/-- enumerate(v) is laid, v told by how it begins -/
theorem meets_enumB {v : Value} {ob : Obj} {Hy : Heap → Prop} (B : Begins v ob Hy) : Meets (Builtin.«enumerate.__new__» ⟨[.type "enumerate", v], []⟩) (fun _ R s => Hy s.heap ∧
    R (.ok (.ret (.ref (s.heap.push ob).objs.size))) { s with heap := (s.heap.push ob).push { cls := .type "enumerate", data := .fields #[.none, .bool false, .ref s.heap.objs.size, rawInt 0, .none, .none] } }) :=
  .of_wp fun prog w A R s hy => by
    obtain ⟨hp, g, d, tk, os⟩ := s
    obtain ⟨y1, hy⟩ := hy
    have hsub := sub_enumerate
    have begun : ∀ {A2 : Around} {E : Value → Shared → Prop} {Q : Value → Shared → Prop}, Q (.ref hp.objs.size) ⟨hp.push ob, g, d, tk, os⟩ → wpAny (model prog w) A2 (pyIter v) Q E ⟨hp, g, d, tk, os⟩ := fun q => B.iter prog w _ _ ⟨hp, g, d, tk, os⟩ _ y1 q
    wp_walk using begun
    refine wpAny_stack_any fun st => wpAny_pure ?_
    split
    · rename_i c _ _ _ _ _
      cases (c == Value.type "enumerate")
      · wp_walk using begun
        exact ⟨_, rfl, hy⟩
      · wp_walk using begun
        exact ⟨_, rfl, hy⟩
    · wp_walk using begun
      exact ⟨_, rfl, hy⟩
theorem enumB {E : Value → Shared → Prop} {s : Shared} {v : Value} {ob : Obj} {Hy : Heap → Prop} {Q : Value → Shared → Prop} (B : Begins v ob Hy) (y1 : Hy s.heap)
    (fin : ∀ h', IsEnum h' (s.heap.objs.size + 1) s.heap.objs.size 0 .none → h'.get? s.heap.objs.size = some ob → (∀ b o, s.heap.get? b = some o → h'.get? b = some o) → Q (.ref (s.heap.objs.size + 1)) { s with heap := h' }) :
    wpAny (model prog w) A (call (.type "enumerate") [v]) Q E s := by
  refine callType_new F.called_enumerate (by decide) (F.typeCall_enumerate_1 _) (F.newCall_enumerate_1 _) (fun obj => F.args_object_init_2 obj _) F.entry_enumerate_new (meets_enumB B) ⟨y1, ?_⟩
  have sz : (s.heap.push ob).objs.size = s.heap.objs.size + 1 := Heap.size_push ..
  show _ ∧ _
  rw [sz]
  have cell : IsEnum ((s.heap.push ob).push { cls := .type "enumerate", data := .fields #[.none, .bool false, .ref s.heap.objs.size, rawInt 0, .none, .none] }) (s.heap.objs.size + 1) s.heap.objs.size 0 .none := by
    have z := Heap.get?_push_size (s.heap.push ob) (o := { cls := .type "enumerate", data := .fields #[.none, .bool false, .ref s.heap.objs.size, rawInt 0, .none, .none] }) rfl
    rw [sz] at z
    exact z
  exact ⟨⟨_, cell, rfl⟩, fin _ cell (Heap.get?_push_of_some _ (Heap.get?_push_size _ B.free)) fun b o x => Heap.get?_push_of_some _ (Heap.get?_push_of_some _ x)⟩
end
/-- the tuple at a: its items with their places, in new pairs -/
def IteT (K : PySem.W.Frag) (a : Addr) : It :=
  ⟨fun i H => ∃ (xs : List V) (x : V), SqT K H a xs ∧ xs[i]? = some x, fun i H v H' => ∃ T x, v = .ref T ∧ H T = none ∧ H' = upd H T (.tup [.int (i : Nat), x]) ∧ ∀ xs, SqT K H a xs → xs[i]? = some x, fun i H => ∃ xs : List V, SqT K H a xs ∧ xs.length ≤ i⟩
theorem turn_enumT {P : Program} {w : World} {K : PySem.W.Frag} {elts : List Expr} {kk : Nat} {tpos : Pos} (a e it : Addr) (hai : a ≠ it) (hea : e ≠ a) :
    Turn P w K (.Tuple elts kk tpos) (IteT K a) [e, it] e (fun i h => (∃ old, IsEnum h e it ((i : Nat) : Int) old) ∧ h.IsTupleIter it a i ∧ e ≠ it) where
  mem := by simp
  obj := fun i h st b hb => by
    obtain ⟨⟨old, he⟩, ⟨o, ho, hc, hd⟩, _⟩ := st
    rcases List.mem_cons.mp hb with z | z
    · rw [z]
      exact ⟨_, he, fun v q => nomatch q⟩
    · rw [List.mem_singleton.mp z]
      exact ⟨o, ho, fun v q => by rw [hd] at q; cases q⟩
  keep := fun i h h' st k => by
    obtain ⟨⟨old, he⟩, hi, hne⟩ := st
    exact ⟨⟨old, k e (by simp) _ he⟩, hi.at fun o q => k it (by simp) o q, hne⟩
  item := by
    intro X hP hw hK hc i pins s σ H E I hf st hg
    subst hP hw hK
    obtain ⟨⟨old, he⟩, hit, hne⟩ := st
    obtain ⟨xs, x, hq, hx⟩ := hg
    obtain ⟨its, rv, p, hz⟩ := I.tuple hq
    obtain ⟨u, hu, ru⟩ := rv.get hx
    have sel : e < s.heap.objs.size := Heap.lt_size he
    have sil : it < s.heap.objs.size := by obtain ⟨_, q, _⟩ := hit; exact Heap.lt_size q
    have hlt : i < its.toArray.size := by simpa using (List.getElem?_eq_some_iff.mp hu).1
    refine wpAny_pyNext_enum_itemD (draws_tup (A := X.A.in1) (show X.A.in1.handled = none from I.ok.hd hc) it a hai its.toArray) he ⟨hit, p⟩ hlt hne (by simp [hne, hea]) fun x' h' tk hx' ho hst hT hsz hk => ?_
    obtain ⟨hit', _⟩ := hst
    have ex : x' = u := by
      have z : its.toArray[i]? = some u := by simpa using hu
      rw [hx'] at z
      exact Option.some.inj z
    subst ex
    refine ⟨_, rfl, wpAny_letOwnedTupleGo_enum (s := { s with heap := h', toks := tk + 1 }) ho fun h'' he' sb => ?_⟩
    have hT2 : h''.get? s.heap.objs.size = some { cls := .type "tuple", data := .seq #[.int i tk, x'] } := (sb.2 _ (Nat.ne_of_gt sel)).trans hT
    have fresh : ObjOk X.prog X.w (upd H s.heap.objs.size (.tup [.int (i : Nat), x])) h'' s.heap.objs.size (.tup [.int (i : Nat), x]) := ⟨by show 2 ≤ sizeLine; decide, [.int i tk, x'], .cons ⟨_, rfl⟩ (.cons ru .nil), ⟨_, hT2, rfl, _, rfl⟩⟩
    have I1 : Inv X pins σ (upd H s.heap.objs.size (.tup [.int (i : Nat), x])) { s with heap := h'', toks := tk + 1 } :=
      I.turnedNew (ch := [e, it]) (fun b ob hb q => (sb.2 b fun z => hb (by simp [z])).trans (hk b ob (fun z => hb (by simp [z])) (fun z => hb (by simp [z])) q)) hf (Nat.le_refl _) fresh
    refine ⟨.ref s.heap.objs.size, _, I1, rfl, ⟨_, x, rfl, I.hok.fresh (Nat.le_refl _), rfl, fun ys hy => by rw [I.tuple_inj hy hq]; exact hx⟩, ⟨⟨x', ?_⟩, hit'.at fun o q => (sb.2 it (Ne.symm hne)).trans q, hne⟩, fun b hb => ?_⟩
    · rw [show ((i + 1 : Nat) : Int) = (i : Int) + 1 by omega]
      exact he'
    · have small : b < s.heap.objs.size := by
        rcases List.mem_cons.mp hb with z | z
        · rw [z]; exact sel
        · rw [List.mem_singleton.mp z]; exact sil
      rw [upd_ne (Nat.ne_of_lt small)]
      exact (hf b hb).1
  done := by
    intro X hP hw hK hc i pins s σ H E I hf st hg
    subst hP hw hK
    obtain ⟨⟨old, he⟩, hit, hne⟩ := st
    obtain ⟨xs, hq, hx⟩ := hg
    obtain ⟨its, rv, p, hz⟩ := I.tuple hq
    obtain ⟨f0, f1, f2, f3, f4, f5⟩ := hf it (by simp)
    have ll := rv.length
    exact wpAny_pyNext_enum_endD (draws_end (A := X.A.in1) (show X.A.in1.handled = none from I.ok.hd hc) it a its.toArray i (by simp; omega)) he ⟨rfl, hit, p⟩ fun h' eb => ⟨rfl, I.turned (t' := s.toks) (fun b o hb q => eb b o hb q) f0 f1 f3 f4 f5⟩
  self := fun A i s Q E st h => let ⟨⟨_, he⟩, _⟩ := st; wpAny_pyIter_enum he h
section
variable {S : Fx} {X : Cx} {C : Nat → List PV → MH → Res PV} {E : XK}
def iEnuA (K : PySem.W.Frag) (ta : TA) : TI := fun σ H R => ta σ H fun vs H1 => ∃ a xs, vs = [.ref a] ∧ ((SqL K H1 a xs ∧ R (Ite K a) H1) ∨ (SqT K H1 a xs ∧ R (IteT K a) H1))
theorem pi_enuA {e : Expr} {ta : TA} {p pos tpos : Pos} {elts : List Expr} {kk : Nat} (hg : Gl X "enumerate") (hm : X.mg "enumerate" = none) (ha : PA X [e] ta) (hs : starEach [e] X.env = [(false, eval e X.env)]) :
    PI X (.Tuple elts kk tpos) (.Call (.Name "enumerate" p) [e] [] pos) (iEnuA X.K ta) := by
  refine ⟨fun pins s σ H R I h => Call_ (ld_blt I hg hm boot_enumerate (PyProof.Rows.callWith_type1 (thn (ha.run pos pins s σ H _ I h) fun us s1 ⟨vs, H1, I1, r1, q1⟩ => ?_) hs rfl))⟩
  obtain ⟨a, xs, rfl, q1⟩ := q1
  rw [Vals.ref1 r1]
  have two : ∀ b, b ∈ [s1.heap.objs.size + 1, s1.heap.objs.size] → FpOk X pins H1 b := fun b hb => by
    have le : s1.heap.objs.size ≤ b := by
      rcases List.mem_cons.mp hb with z | z
      · rw [z]; exact Nat.le_add_right _ _
      · rw [List.mem_singleton.mp z]; exact Nat.le_refl _
    exact I1.fpOk le (I1.hok.fresh le)
  rcases q1 with ⟨hq, q⟩ | ⟨hq, q⟩
  · obtain ⟨its, rv, p', hz⟩ := I1.list hq
    refine enumB (begins_list a its.toArray) p'.isList fun h' he hit hk => wpAny_pyIter_enum he ?_
    have I2 : Inv X pins σ H1 { s1 with heap := h' } := I1.kept (t' := s1.toks) hk
    exact ⟨s1.heap.objs.size + 1, [s1.heap.objs.size + 1, s1.heap.objs.size], _, _, H1, rfl, I2, turn_enum a (s1.heap.objs.size + 1) s1.heap.objs.size, ⟨⟨.none, he⟩, ⟨_, hit, rfl, rfl⟩, Nat.succ_ne_self _⟩, two, q⟩
  · obtain ⟨its, rv, p', hz⟩ := I1.tuple hq
    obtain ⟨o1, ho1, _⟩ := id p'
    have lt := Heap.lt_size ho1
    refine enumB (begins_tuple a its.toArray) (show s1.heap.IsTuple a its.toArray from p') fun h' he hit hk => wpAny_pyIter_enum he ?_
    have I2 : Inv X pins σ H1 { s1 with heap := h' } := I1.kept (t' := s1.toks) hk
    exact ⟨s1.heap.objs.size + 1, [s1.heap.objs.size + 1, s1.heap.objs.size], _, _, H1, rfl, I2, turn_enumT a (s1.heap.objs.size + 1) s1.heap.objs.size (Nat.ne_of_lt lt) (Ne.symm (Nat.ne_of_lt (Nat.lt_succ_of_lt lt))), ⟨⟨.none, he⟩, ⟨_, hit, rfl, rfl⟩, Nat.succ_ne_self _⟩, two, q⟩
theorem enum_get : ∀ (xs : List PV) (n i : Nat) (z : PV), (enum n xs)[i]? = some z → ∃ u, xs[i]? = some u ∧ z = .tup [.int ((n + i : Nat) : Int), u]
  | [], n, i, z, h => by simp [enum] at h
  | x :: xs, n, 0, z, h => by
    rw [enum] at h
    simp at h
    exact ⟨x, rfl, h.symm⟩
  | x :: xs, n, i + 1, z, h => by
    rw [enum, List.getElem?_cons_succ] at h
    obtain ⟨u, h1, h2⟩ := enum_get xs (n + 1) i z h
    exact ⟨u, h1, by rw [h2, show n + 1 + i = n + (i + 1) by omega]⟩
theorem enum_len : ∀ (xs : List PV) (n : Nat), (enum n xs).length = xs.length
  | [], n => rfl
  | x :: xs, n => by rw [enum, List.length_cons, List.length_cons, enum_len xs]
theorem feeds_enu {tg : Tgt} (ht : many tg = true) {r0 : List Addr} {H0 : Hp} {src : List (Nat × List PV)} {xs : List PV} {a : Addr} (h : Stands S r0 H0 src xs a) : Feeds S tg r0 H0 src (enum 0 xs) (Ite S.K a) := by
  intro i r m H e R ho
  obtain ⟨ys, u1, u2⟩ := h r m H e R ho
  refine ⟨fun z hz => ?_, fun hi => ⟨ys, u1, ?_⟩⟩
  · obtain ⟨u, g1, rfl⟩ := enum_get _ _ _ _ hz
    obtain ⟨y1, f1, f2⟩ := u2.get g1
    refine ⟨⟨ys, y1, u1, f1⟩, fun y H' hy => ?_⟩
    obtain ⟨T, x, rfl, hT, rfl, k1⟩ := hy
    have k1 := k1 ys u1
    rw [f1] at k1
    cases k1
    have en : Ext r r H (upd H T (.tup [.int (i : Nat), y1])) := ext_new hT
    refine ⟨en, R.beside hT, RVw.atT (x := .tup [.int ((0 + i : Nat) : Int), u]) ⟨T, _, rfl, .inl (.inl upd_same), ?_⟩ ht⟩
    rw [Nat.zero_add]
    exact .cons (.int _) (.cons (f2.ext en) .nil)
  · rw [enum_len] at hi
    rw [← u2.length]
    exact hi
theorem feeds_enuT {tg : Tgt} (ht : many tg = true) {r0 : List Addr} {H0 : Hp} {xs : List PV} {a : Addr} {us : List V} (h1 : SqT S.K H0 a us) (q1 : RVs S.K r0 H0 xs us) : Feeds S tg r0 H0 [] (enum 0 xs) (IteT S.K a) := by
  intro i r m H e R ho
  have u1 := e.2.2.sqT h1
  have u2 := q1.ext e
  refine ⟨fun z hz => ?_, fun hi => ⟨us, u1, ?_⟩⟩
  · obtain ⟨u, g1, rfl⟩ := enum_get _ _ _ _ hz
    obtain ⟨y1, f1, f2⟩ := u2.get g1
    refine ⟨⟨us, y1, u1, f1⟩, fun y H' hy => ?_⟩
    obtain ⟨T, x, rfl, hT, rfl, k1⟩ := hy
    have k1 := k1 us u1
    rw [f1] at k1
    cases k1
    have en : Ext r r H (upd H T (.tup [.int (i : Nat), y1])) := ext_new hT
    refine ⟨en, R.beside hT, RVw.atT (x := .tup [.int ((0 + i : Nat) : Int), u]) ⟨T, _, rfl, .inl (.inl upd_same), ?_⟩ ht⟩
    rw [Nat.zero_add]
    exact .cons (.int _) (.cons (f2.ext en) .nil)
  · rw [enum_len] at hi
    rw [← u2.length]
    exact hi
theorem pi_enuE {tg : Tgt} (ht : many tg = true) {e : Expr} {a : Ex} {p pos tpos : Pos} {elts : List Expr} {kk : Nat} (hK : X.K = S.K) (bl : Blt X "enumerate" [e]) (ha : PE X e (tX S C E a)) :
    PI X (.Tuple elts kk tpos) (.Call (.Name "enumerate" p) [e] [] pos) (iX S tg C E (.enu a)) := by
  refine ⟨fun pins s σ H R I ⟨r, n, m, k1, k2, g⟩ => (pi_enuA bl.gl bl.mg (pa_one ha bl.one) bl.head).run pins s σ H R I ?_⟩
  unfold evI at g
  rw [evX] at g
  have g : GE S (Rit S tg) r H R E ((evX S.P C a n m).bind fun x m => (Mi.toL x m).bind fun xs m => guard (kindX x m).isSome (.ok (srcOf x m, enum 0 xs) m)) := by
    cases q1 : evX S.P C a n m with
    | ok x m1 =>
      rw [q1] at g
      simp only [Res.bind_ok] at g ⊢
      cases q3 : Mi.toL x m1 with
      | ok xs m3 =>
        rw [q3] at g
        simp only [Res.bind_ok] at g ⊢
        generalize (kindX x m3).isSome = c at g ⊢
        cases c <;> exact g
      | exc => rw [q3] at g; exact g
      | stuck => rw [q3] at g; exact g
    | exc => rw [q1] at g; exact g
    | stuck => rw [q1] at g; exact g
  refine ⟨r, n, m, k1, k2, g.bind (an := anti_it) fun x m1 r1 H1 y _ e1 k3 q g1 => ?_⟩
  obtain ⟨xs, t1, g3⟩ := g1.toL
  obtain ⟨gb, g5⟩ := g3.guard
  cases c1 : kindX x m1 with
  | none => rw [c1] at gb; cases gb
  | some b1 =>
    obtain ⟨a1, rfl, w1⟩ := walk_end q (Ext.refl _ _) k3 c1 t1
    rw [hK]
    rcases w1 with ⟨rfl, ⟨us, l1⟩, s1⟩ | ⟨rfl, z1, us, l1, s1⟩
    · exact ⟨a1, us, rfl, .inl ⟨l1, g5 r1 H1 _ (Ext.refl _ _) k3 (feeds_enu ht s1)⟩⟩
    · rw [z1] at g5
      exact ⟨a1, us, rfl, .inr ⟨l1, g5 r1 H1 _ (Ext.refl _ _) k3 (feeds_enuT ht l1 s1)⟩⟩
theorem pe_srtE {e : Expr} {a : Ex} {p pos : Pos} (hK : X.K = S.K) (bl : Blt X "sorted" [e]) (ha : PE X e (tX S C E a)) : PE X (.Call (.Name "sorted" p) [e] [] pos) (tX S C E (.srt a)) :=
  pe_mono (pe_callB cr_sortedI bl.gl bl.mg rfl (pa_one ha bl.one) bl.nm bl.db bl.head bl.tail) fun σ H Q ⟨r, n, m, k1, k2, g⟩ => by
    rw [evX] at g
    refine ⟨r, n, m, k1, k2, g.bind fun x m1 r1 H1 y _ e1 k3 q g1 => ?_⟩
    obtain ⟨xs, t1, g2⟩ := g1.toLL
    obtain ⟨gb, g3⟩ := g2.guard
    obtain ⟨ns, rfl⟩ := ints_of gb
    obtain ⟨a, ys, rfl, h1, h2⟩ := listLL (r0 := r1) q (Ext.refl _ _) k3 t1
    have ey : ys = ns.map V.int := rvs_ints h2
    subst ey
    rw [sort_ints ns] at g3
    rw [hK]
    refine ⟨a, ns, rfl, h1, fun ns' p hp hs hn => ?_⟩
    have e2 : ns' = sortI ns := perm_le _ _ (hp.trans (sortI_perm ns).symm) hs (sortI_le ns)
    subst e2
    exact ge_tmp k3 hn (RVs.ints _) g3
end
end Mi
end

section
set_option autoImplicit false
set_option Elab.async false
set_option linter.all false
set_option maxRecDepth 100000
set_option maxHeartbeats 1000000
namespace Mi
open PySem PySem.Spec PyProof.Rows L2 PySem.W
section
variable {prog : Program} {w : World} {d : Addr} {es : Array DictEntry} {ep : Nat}
theorem dsrc_raw (lo : (d == sysModules) = false) : KdlSrc prog w "dict" d d es.size (fun i v => ∃ hi : i < es.size, v = es[i].key) (fun h => h.DictRaw d es ep) where
  type := fun _ hm => hm.typeIs
  there := fun _ hm => ⟨let ⟨_, ho, _⟩ := hm; Heap.lt_size ho, let ⟨_, ho, _⟩ := hm; Heap.lt_size ho⟩
  keep := fun _ _ hm hk => hm.at fun o e => hk d (.inl rfl) o e
  notList := by decide
  notTuple := by decide
  hint := fun _ _ _ _ hm hq => kdl_hint_dict hm.typeIs hq
  iter := fun _ s hh hm => ⟨_, _, (fun _ _ hq => wpAny_pyIter_dict_raw lo hm hq), Walks.rawKeys hh _ d (Nat.ne_of_lt (let ⟨_, ho, _⟩ := hm; Heap.lt_size ho)) es ep, ⟨⟨_, Heap.get?_push_size _ rfl, rfl, rfl⟩, hm.at fun o e => Heap.get?_push_of_some _ e⟩⟩
end
theorem perm_image {α β : Type} {f : α → β} : ∀ {a b : List β}, a.Perm b → ∀ L : List α, b = L.map f → ∃ L' : List α, L'.Perm L ∧ a = L'.map f := by
  intro a b p
  induction p with
  | nil =>
    intro L e
    cases L with
    | nil => exact ⟨[], List.Perm.refl _, rfl⟩
    | cons x L => cases e
  | cons x p ih =>
    intro L e
    cases L with
    | nil => cases e
    | cons y L =>
      rw [List.map_cons, List.cons.injEq] at e
      obtain ⟨L', h1, h2⟩ := ih L e.2
      exact ⟨y :: L', h1.cons y, by rw [List.map_cons, e.1, h2]⟩
  | swap x y l =>
    intro L e
    match L, e with
    | [], e => cases e
    | [_], e => cases e
    | u :: v :: L, e =>
      rw [List.map_cons, List.map_cons, List.cons.injEq, List.cons.injEq] at e
      exact ⟨v :: u :: L, List.Perm.swap u v L, by rw [List.map_cons, List.map_cons, e.1, e.2.1, e.2.2]⟩
  | trans p q ih1 ih2 =>
    intro L e
    obtain ⟨L1, h1, h2⟩ := ih2 L e
    obtain ⟨L2, h3, h4⟩ := ih1 L1 h2
    exact ⟨L2, h3.trans h1, h4⟩
section
variable {P : Program} {w : World} {A : Around} {E : Value → Shared → Prop} {s : Shared}
theorem sorted_dictT {a : Addr} {L : List (Addr × List Int)} {es : Array DictEntry} {ep : Nat} {Q : Value → Shared → Prop} (lo : (a == sysModules) = false) (R : s.heap.DictRaw a es ep) (hk : es.toList.map (·.key) = L.map fun q => Value.ref q.1) (ht : ∀ q ∈ L, IsT P w s.heap q.2 q.1) (hfew : L.length < 64) (hh : A.handled = none)
    {d : Nat} {B : Int} (hd1 : 1 ≤ d) (hB : ∀ p ∈ L, p.2.length = d ∧ TS.Bd B p.2)
    (hQ : ∀ (h' h2 : Heap) (tk : Nat) (out : Array Value) (c : Nat) (L' : List (Addr × List Int)), (∀ b o, s.heap.get? b = some o → h'.get? b = some o) → (∀ b o, h'.get? b = some o → h2.get? b = some o) →
      h2.get? h'.objs.size = some (seqObj "list" out c) → out.toList = L'.map (fun q => Value.ref q.1) → L'.Perm L → L'.Pairwise (fun q r => TS.code B q.2 ≤ TS.code B r.2) → Q (.ref h'.objs.size) { s with heap := h2, toks := tk }) :
    wpAny (model P w) A (call (.builtin "sorted") [.ref a]) Q E s := by
  have hsz : es.size = L.length := by
    have := congrArg List.length hk
    simpa using this
  refine Calls.call_function_entry kind_sorted plain_sorted entry_sorted (args_sorted1 _) ?_
  unfold Builtin.«sorted»
  refine wpAny_bind (m := checkCount "sorted" 1 1 _) (wpAny_pure ?_)
  refine wpAny_bind (kdu_collect (A := A.in1) (dsrc_raw (es := es) (ep := ep) lo) (show A.in1.handled = none from hh) R (by rw [hsz, sizeLine_eq]; omega) fun h' tk acc hkp hacc => ?_)
  have hvs : acc.toList = L.map fun q => Value.ref q.1 := by
    rw [← hk]
    apply List.ext_getElem?
    intro j
    rw [List.getElem?_map, Array.getElem?_toList, Array.getElem?_toList]
    by_cases hj : j < es.size
    · have hj2 : j < acc.size := by rw [hacc.1]; exact hj
      obtain ⟨_, e⟩ := hacc.2 j acc[j] (Array.getElem?_eq_getElem hj2)
      rw [Array.getElem?_eq_getElem hj2, Array.getElem?_eq_getElem hj, e]
      rfl
    · have := hacc.1
      rw [Array.getElem?_eq_none (by omega), Array.getElem?_eq_none (by omega)]
      rfl
  have hvl : acc.toList.length < 64 := by rw [hvs, List.length_map]; exact hfew
  refine wpAny_bind (wpAny_newList ?_ (by rw [sizeLine_eq]; omega))
  have hoL : (h'.push (seqObj "list" acc.toList.toArray 0)).get? h'.objs.size = some (seqObj "list" acc.toList.toArray 0) := Heap.get?_push_size _ rfl
  have tt : ∀ q ∈ L, TS.TupInts (h'.push (seqObj "list" acc.toList.toArray 0)) (.ref q.1) q.2 := fun q hq => tupInts_of (P := P) (w := w) (isT_keep (ht q hq) fun b u e => Heap.get?_push_of_some _ (hkp b u e))
  have x : TS.TupsOk (h'.push (seqObj "list" acc.toList.toArray 0)) d B acc.toList := fun v hv => by
    rw [hvs] at hv
    obtain ⟨q, hq, e⟩ := List.mem_map.mp hv
    rw [← e]
    exact ⟨q.2, tt q hq, (hB q hq).1, (hB q hq).2⟩
  refine wpAny_bind (wpAny_holding (TS.call_sort_tups (s := { s with heap := h'.push (seqObj "list" acc.toList.toArray 0), toks := tk }) hoL hvl hd1 x fun out a1 a2 => ?_))
  obtain ⟨c, hc⟩ := sortedHeap_at (vs := acc.toList) (out := out) hoL
  obtain ⟨L', pL, e'⟩ := perm_image (f := fun q : Addr × List Int => Value.ref q.1) a1 L hvs
  have pw : L'.Pairwise (fun q r => TS.code B q.2 ≤ TS.code B r.2) := by
    rw [e'] at a2
    refine List.Pairwise.imp_of_mem (fun {q r} hq hr hle => ?_) (List.pairwise_map.mp a2)
    have f1 : TS.intsOf (h'.push (seqObj "list" acc.toList.toArray 0)) (.ref q.1) = q.2 := (tt q (pL.mem_iff.mp hq)).ints
    have f2 : TS.intsOf (h'.push (seqObj "list" acc.toList.toArray 0)) (.ref r.1) = r.2 := (tt r (pL.mem_iff.mp hr)).ints
    rw [← f1, ← f2]
    exact hle
  refine wpAny_pure ⟨_, rfl, hQ h' _ tk out c L' hkp (fun b u q => ?_) hc e' pL pw⟩
  have hlt := Heap.lt_size q
  show (sortedHeap (h'.push (seqObj "list" acc.toList.toArray 0)) h'.objs.size acc.toList out).get? b = some u
  rw [sortedHeap_old (Nat.ne_of_lt hlt) (by rw [size_push']; exact Nat.lt_succ_of_lt hlt)]
  exact Heap.get?_push_of_some _ q
end
variable {S : Fx}
def rSortD (K : PySem.W.Frag) (P : Program) (w : World) : List V → Hp → VK → Prop := fun vs H Q => ∃ a, vs = [V.ref a] ∧ (
  (∃ (kvs : List (Key × V)) (ks : List Int), H a = some (.dK kvs) ∧ kvs.map (·.1) = ks.map Sum.inl ∧ ks.length < 64 ∧ ∀ (ys : List Int) (p : Addr), ys.Perm ks → ys.Pairwise (· ≤ ·) → H p = none → Q (.ref p) (upd H p (.lst (ys.map V.int)))) ∨
  ∃ (xs : List (NestedKey × Addr × Value)) (L : List (Addr × List Int)) (d : Nat) (B : Int), H a = some (DNO P w a xs) ∧ (a == sysModules) = false ∧ xs.map (·.2.1) = L.map (·.1) ∧ (∀ q ∈ L, SqT K H q.1 (q.2.map V.int)) ∧ L.length < 64 ∧ 1 ≤ d ∧ (∀ p ∈ L, p.2.length = d ∧ TS.Bd B p.2) ∧
    ∀ (L' : List (Addr × List Int)) (p : Addr), L'.Perm L → L'.Pairwise (fun q r => TS.code B q.2 ≤ TS.code B r.2) → (xs.map (·.1)).Nodup → H p = none → Q (.ref p) (upd H p (.lst (L'.map fun q => V.ref q.1))))
section
variable {X : Cx} {C : Nat → List PV → MH → Res PV} {E : XK}
theorem call_sortD {w0 : World} {P0 : Program} (hc : X.calm = true) : CallR X (.builtin "sorted") (rSortD X.K P0 w0) := by
  intro pins s σ H vs us Q I r h
  obtain ⟨a, rfl, h | ⟨xs, L, d, B, ha, lo, hx, hk, h64, hd, hB, q⟩⟩ := h
  · obtain ⟨kvs, ks, h1, h2, h3, h4⟩ := h
    exact call_sortedDI hc pins s σ H _ us Q I r ⟨a, kvs, ks, rfl, .inl h1, h2, h3, h4⟩
  · rw [Vals.ref1 r]
    obtain ⟨⟨o, es, ep, g1, g2, g3, g4, g5⟩, _⟩ := (show ObjOk X.prog X.w H s.heap a (DNO P0 w0 a xs) from I.hok a _ ha)
    refine sorted_dictT (P := X.prog) (w := X.w) (L := L) lo ⟨o, g1, g2, g3⟩ ?_ (fun q hq => I.isT (hk q hq)) h64 (I.ok.hd hc) hd hB fun h' h2 tk out c L' k1 k2 hg hout pm pw => ?_
    · rw [g4, List.map_map]
      have : (xs.map fun x => Value.ref x.2.1) = L.map fun q => Value.ref q.1 := by
        have := congrArg (List.map Value.ref) hx
        rw [List.map_map, List.map_map] at this
        exact this
      rw [← this]
      rfl
    · have I1 : Inv X pins σ H { s with heap := h', toks := tk } := I.kept k1
      have hlen : (L'.map fun q => V.ref q.1).length ≤ sizeLine := by rw [List.length_map, pm.length_eq, sizeLine_eq]; omega
      have hv : Vals (L'.map fun q => V.ref q.1) out.toList := by rw [hout]; exact vals_of_refs L'
      exact ⟨.ref h'.objs.size, upd H h'.objs.size (.lst (L'.map fun q => V.ref q.1)), I1.laid (t' := tk) k2 (Nat.le_refl _) (show ObjOk X.prog X.w _ _ _ (.lst _) from ⟨hlen, out.toList, c, hv, by rw [Array.toArray_toList]; exact hg⟩), rfl, q L' _ pm pw g5 (I1.hok.fresh (Nat.le_refl _))⟩
theorem dks_keys {K : PySem.W.Frag} {r : List Addr} {H : Hp} : ∀ {kvs : List (PV × PV)} {ks : List (Key × V)}, DKs K r H kvs ks → kvs.map (·.1) = ks.map fun p => keyP p.1
  | _, _, .nil => rfl
  | _, _, .cons h t => by rw [List.map_cons, List.map_cons, dks_keys t, h.1]
theorem dts_keys {K : PySem.W.Frag} {r : List Addr} {H : Hp} : ∀ {kvs : List (PV × PV)} {xs : List (NestedKey × Addr × Value)}, DTs K r H kvs xs → RVs K r H (kvs.map (·.1)) (xs.map fun x => V.ref x.2.1) ∧ (kvs.map (·.1)).map nkey = (xs.map (·.1)).map some
  | _, _, .nil => ⟨.nil, rfl⟩
  | _, _, .cons h t => by
    obtain ⟨h1, h2⟩ := dts_keys t
    exact ⟨.cons h.2.1 h1, by rw [List.map_cons, List.map_cons, List.map_cons, List.map_cons, h2, h.1.1]⟩
theorem keys_ints : ∀ {ks : List (Key × V)} {ns : List Int}, (ks.map fun p => keyP p.1) = ns.map PV.int → ks.map (·.1) = ns.map Sum.inl
  | [], [], _ => rfl
  | [], _ :: _, h => by cases h
  | _ :: _, [], h => by cases h
  | k :: ks, n :: ns, h => by
    rw [List.map_cons, List.map_cons, List.cons.injEq] at h
    rw [List.map_cons, List.map_cons, keys_ints h.2]
    rw [show k.1 = (Sum.inl n : Key) from keyP_inj (b := Sum.inl n) h.1]
theorem keys_tups {d : Nat} : ∀ {ks : List (Key × V)} {ns : List (List Int)}, (ks.map fun p => keyP p.1) = ns.map tupI → ks = [] ∧ ns = []
  | [], [], _ => ⟨rfl, rfl⟩
  | [], _ :: _, h => by cases h
  | _ :: _, [], h => by cases h
  | k :: ks, n :: ns, h => by
    rw [List.map_cons, List.map_cons, List.cons.injEq] at h
    have := h.1
    cases e : k.1 with
    | inl i => rw [e] at this; cases this
    | inr x => rw [e] at this; cases this
theorem pe_srkE {e : Expr} {a : Ex} {p pos : Pos} (hK : X.K = S.K) (hc : X.calm = true) (bl : Blt X "sorted" [e]) (ha : PE X e (tX S C E a)) : PE X (.Call (.Name "sorted" p) [e] [] pos) (tX S C E (.srk a)) :=
  pe_mono (pe_callB (call_sortD (P0 := S.prog) (w0 := S.w) hc) bl.gl bl.mg rfl (pa_one (pe_val ha) bl.one) bl.nm bl.db bl.head bl.tail) fun σ H Q ⟨r, n, m, k1, k2, g⟩ => by
    rw [evX] at g
    refine ⟨r, n, m, k1, k2, g.bind fun v m1 r1 H1 y _ e1 k3 q g1 => ?_⟩
    cases v with
    | loc l =>
      obtain ⟨a, rfl, hla⟩ := RV.loc_inv q
      have g1 : GE S (Rx S) r1 H1 Q E (match dictAt m1 l with | some kvs => guard (setOk (kvs.map (·.1)) && decide (kvs.length < 64)) ((ofO (sortP (kvs.map (·.1))) m1).bind fun ys m => .ok (.tmp ys) m) | none => .stuck) := g1
      cases hd : dictAt m1 l with
      | none => rw [hd] at g1; exact (show False from g1).elim
      | some kvs =>
        rw [hd] at g1
        obtain ⟨gb, g2⟩ := g1.guard
        obtain ⟨b1, b2⟩ := ands gb
        have b2 := of_decide_eq_true b2
        have hm : m1[l]? = some (.dct kvs) := by
          unfold dictAt at hd
          split at hd
          · rename_i zs h
            cases hd
            exact h
          · cases hd
        have D : DctR S r1 H1 a kvs := k3.obj l a _ hla hm
        have fin : ∀ {ws : List PV}, sortP (kvs.map (·.1)) = some ws → GE S (Rx S) r1 H1 Q E (.ok (.tmp ws) m1) := fun {ws} hw => by
          rw [hw] at g2
          exact g2
        rw [hK]
        refine ⟨a, rfl, ?_⟩
        rcases D with ⟨ks, h1, h2, h3⟩ | ⟨xs, h1, h2, h3, h4⟩
        · have ek := dks_keys h3
          have e0 : ∃ ns : List Int, kvs.map (·.1) = ns.map PV.int := by
            rcases set_ok b1 with ⟨ns, e⟩ | ⟨d, js, _, e, _⟩
            · exact ⟨ns, e⟩
            · obtain ⟨z, z2⟩ := keys_tups (d := d) (ek.symm.trans e)
              exact ⟨[], by rw [ek, z]; rfl⟩
          obtain ⟨ns, e⟩ := e0
          have hl : ns.length = kvs.length := by
            have := congrArg List.length e
            simpa using this.symm
          have g3 := fin (ws := (sortI ns).map PV.int) (by rw [e]; exact sort_ints ns)
          refine .inl ⟨ks, ns, h1, keys_ints (ek.symm.trans e), by omega, fun ys p hp hs hn => ?_⟩
          have e2 : ys = sortI ns := perm_le _ _ (hp.trans (sortI_perm ns).symm) hs (sortI_le ns)
          subst e2
          exact ge_tmp k3 hn (RVs.ints _) g3
        · obtain ⟨kr, kn⟩ := dts_keys h4
          have e0 : ∃ (d : Nat) (js : List (List Int)), 1 ≤ d ∧ kvs.map (·.1) = js.map tupI ∧ ∀ k ∈ js, k.length = d ∧ TS.Bd 4096 k := by
            rcases set_ok b1 with ⟨ns, e⟩ | z
            · rw [e] at kr
              cases ns with
              | nil => exact ⟨1, [], Nat.le_refl _, e, fun _ h => by cases h⟩
              | cons n ns =>
                exfalso
                cases xs with
                | nil => cases kr
                | cons x xs =>
                  cases kr with
                  | cons h t => cases h
            · exact z
          obtain ⟨d, js, hd1, e, hjs⟩ := e0
          rw [e] at kr
          obtain ⟨kas, e3, e4, hka⟩ := rvs_tups kr
          have hl : kas.length = kvs.length := by
            have z1 := congrArg List.length e
            have z2 := congrArg List.length e4
            simp only [List.length_map] at z1 z2
            omega
          have hjs2 : ∀ q ∈ kas, q.2.length = d ∧ TS.Bd 4096 q.2 := fun q hq => hjs q.2 (by rw [← e4]; exact List.mem_map.mpr ⟨q, hq, rfl⟩)
          have ex : xs.map (·.2.1) = kas.map (·.1) := by
            have inj : ∀ {u v : List Addr}, u.map V.ref = v.map V.ref → u = v := fun {u} => by
              induction u with
              | nil => intro v h; cases v with | nil => rfl | cons => cases h
              | cons x u ih =>
                intro v h
                cases v with
                | nil => cases h
                | cons y v =>
                  rw [List.map_cons, List.map_cons, List.cons.injEq] at h
                  have e0 : x = y := by injection h.1
                  rw [e0, ih h.2]
            refine inj ?_
            rw [List.map_map, List.map_map]
            exact e3
          refine .inr ⟨xs, kas, d, 4096, h1, h2, ex, fun q hq => (hka q hq).1, by omega, hd1, hjs2, fun L' p pm pw nd hn => ?_⟩
          have nk : (kvs.map (·.1)).Nodup := by
            refine nodup_of_map (f := nkey) ?_
            rw [kn]
            exact List.Pairwise.map some (fun a b h z => h (Option.some.inj z)) nd
          have nj : js.Nodup := by rw [e] at nk; exact nodup_of_map nk
          have nL : (L'.map (·.2)).Nodup := ((pm.map (·.2)).nodup_iff).mpr (by rw [e4]; exact nj)
          have hk2 : ∀ q ∈ L', q.2.length = d ∧ TS.Bd 4096 q.2 := fun q hq => hjs2 q (pm.mem_iff.mp hq)
          have rise : (L'.map (·.2)).Pairwise (fun a b => lexC a b = .lt) := by
            rw [List.pairwise_map]
            have nd' : L'.Pairwise (fun a b => a.2 ≠ b.2) := List.pairwise_map.mp nL
            refine (List.Pairwise.and pw nd').imp_of_mem fun {u v} hu' hv' h => ?_
            exact code_lexC ((hk2 u hu').1.trans (hk2 v hv').1.symm) (hk2 u hu').2 (hk2 v hv').2 h.1 h.2
          cases hw : sortP (kvs.map (·.1)) with
          | none => rw [hw] at g2; exact (show False from g2).elim
          | some ws =>
            have g3 := fin hw
            rw [e] at hw
            obtain ⟨vs, rfl, j2, j3⟩ := sortP_is ordT hw nj
            have ev : vs = L'.map (·.2) := rising_eq ordT j3 rise fun i => by rw [j2.mem_iff, (pm.map (·.2)).mem_iff, e4]
            subst ev
            refine ge_tmp k3 hn ?_ g3
            have go : ∀ (M : List (Addr × List Int)), (∀ q ∈ M, q ∈ kas) → RVs S.K r1 H1 ((M.map (·.2)).map tupI) (M.map fun q => V.ref q.1) := by
              intro M
              induction M with
              | nil => exact fun _ => .nil
              | cons q M ih =>
                intro hM
                have h0 := hka q (hM q List.mem_cons_self)
                exact .cons (.tup h0.1 h0.2 (RVs.ints q.2)) (ih fun z hz => hM z (List.mem_cons_of_mem _ hz))
            exact go L' fun q hq => pm.mem_iff.mp hq
    | _ => exact (show False from g1).elim
def rLenA (K : PySem.W.Frag) (P : Program) (w : World) : List V → Hp → VK → Prop := fun vs H Q => ∃ a, vs = [V.ref a] ∧ (
  (∃ T n, H a = some (SetO w a T n) ∧ Q (.int (n : Nat)) H) ∨
  ∃ L : List (Addr × List Int), H a = some (SetTO P w a L) ∧ (∀ q ∈ L, SqT K H q.1 (q.2.map V.int)) ∧ ((L.map (·.2)).Nodup → Q (.int (L.length : Nat)) H))
theorem call_lenA : CallR X (.builtin "len") (rLenA X.K X.prog X.w) := by
  intro pins s σ H vs us Q I r h
  obtain ⟨a, rfl, ⟨T, n, ha, q⟩ | ⟨L, ha, hk, q⟩⟩ := h
  · rw [Vals.ref1 r]
    obtain ⟨o, es, ep, t, ho, hex, hd, _, _, _, hb, hf, hn, _⟩ := setO_get I ha
    refine call_len_set ho hex hd hf ?_ ⟨.int n, H, I.tok _, ⟨_, by rw [hn]⟩, q⟩
    unfold scanBound at hb
    omega
  · rw [Vals.ref1 r]
    have R0 : SetT0 X.prog X.w s.heap a L := (I.hok a _ ha).1
    obtain ⟨es, ep, t, R⟩ := R0.full fun p hp => I.isT (hk p hp)
    obtain ⟨o, ho, hex, hd⟩ := R.ob
    have hs := R.size
    have hfew := R.few
    exact call_len_set ho hex hd R.fits (by omega) ⟨.int L.length, H, I.tok _, ⟨_, by rw [hs]⟩, q R.nd⟩
theorem pe_lsetE {e : Expr} {a : Ex} {p p2 pos pos2 : Pos} (hK : X.K = S.K) (hc : X.calm = true) (hu : X.A.units + 65 < cLine) (bs : Blt X "len" [.Call (.Name "set" p2) [e] [] pos2]) (bt : Blt X "set" [e]) (ha : PE X e (tX S C E a)) :
    PE X (.Call (.Name "len" p) [.Call (.Name "set" p2) [e] [] pos2] [] pos) (tX S C E (.lset a)) := by
  have inner := pe_callTy (pos := pos2) (p := p2) (call_setA hc hu) bt.gl bt.mg rfl (pa_one ha bt.one) bt.nm bt.db bt.head bt.tail
  refine pe_mono (pe_callB call_lenA bs.gl bs.mg rfl (pa_one inner bs.one) bs.nm bs.db bs.head bs.tail) fun σ H Q ⟨r, n, m, k1, k2, g⟩ => ?_
  rw [evX] at g
  refine ⟨r, n, m, k1, k2, g.bind fun x m1 r1 H1 y _ e1 k3 q g1 => ?_⟩
  obtain ⟨xs, t1, g1⟩ := g1.toL
  obtain ⟨b, g1⟩ := g1.guard
  obtain ⟨b, b3⟩ := ands b
  obtain ⟨b1, b2⟩ := ands b
  have b3 := of_decide_eq_true b3
  cases hk : kindX x m1 with
  | none => rw [hk] at b1; cases b1
  | some kb =>
    obtain ⟨l, ys, rfl, hs, hv⟩ := seq_end q k3 hk t1
    rw [hK]
    refine ⟨l, rfl, ?_⟩
    rcases set_ok b2 with ⟨ns, rfl⟩ | ⟨d, ks, hd, rfl, hks⟩
    · rw [dedup_uniq ordI, List.length_map] at b3 g1
      rw [rvs_ints hv] at hs
      exact .inl ⟨ns, hs, by omega, fun p hp => ⟨p, rfl, .inl ⟨_, _, upd_same, GE.hereX (E := E) (m := m1) (GE.ext anti_x g1 (ext_new hp)) (k3.beside hp) (.int _)⟩⟩⟩
    · rw [dedup_uniq ordT, List.length_map] at b3 g1
      obtain ⟨kas, rfl, rfl, hka⟩ := rvs_tups hv
      refine .inr ⟨kas, hs, fun p hp => (hka p hp).1, b3, fun p L hp hL1 hL2 => ⟨p, rfl, .inr ⟨L, upd_same, fun q hq => (keep_new hp).sqT (hka q (hL1 q hq)).1, fun nd => ?_⟩⟩⟩
      have e : (uniq (kas.map (·.2))).length = L.length := by
        have := ((List.perm_ext_iff_of_nodup (nodup_uniq (kas.map (·.2))) nd).mpr fun i => by
          rw [mem_uniq]
          constructor
          · intro hi
            obtain ⟨q, hq, rfl⟩ := List.mem_map.mp hi
            exact hL2 q hq
          · intro hi
            obtain ⟨q, hq, rfl⟩ := List.mem_map.mp hi
            exact List.mem_map.mpr ⟨q, hL1 q hq, rfl⟩).length_eq
        rw [this, List.length_map]
      rw [e] at g1
      exact GE.hereX (E := E) (m := m1) (GE.ext anti_x g1 (ext_new hp)) (k3.beside hp) (.int _)
end
end Mi
end

section
set_option autoImplicit false
set_option Elab.async false
set_option linter.all false
set_option maxRecDepth 100000
namespace Mi
open PySem PySem.Spec PyProof.Rows L2
/-- what the names of the module's top are -/
structure Gs where
  fn : Str → Option Nat
  glb : Str → Option Nat
  exc : Str → Option Nat
  ref : Str → Option Nat
  blt : Str → Bool
  kf : Nat → List (Nat × List Str × List Nat)
/-- a block's names -/
structure Stat where
  N : List Str
  sc : Scope
  st : Str → Bool
  lam : Bool
def dbg (x : Str) : Bool := !(x == ("__debug__" : Str))
def visB (sc : Scope) (x : Str) : Bool := decide (sc.names.lookup x = some .local) || decide (sc.names.lookup x = some .cell) || decide (sc.names.lookup x = some .free)
def glB (sc : Scope) (x : Str) : Bool := decide (sc.names.lookup x = some .globalImplicit) && dbg x
def stoB (D : Stat) (i : Nat) (x : Str) : Bool := decide (D.N[i]? = some x) && (decide (D.sc.names.lookup x = some .local) || decide (D.sc.names.lookup x = some .cell)) && D.st x
def bltB (G : Gs) (D : Stat) (x : Str) (es : List Expr) : Bool := glB D.sc x && G.blt x && !(decide (x = "__name__")) && es.all plainX
def nmB (D : Stat) (i : Nat) : Expr → Bool
  | .Name x _ => stoB D i x
  | _ => false
def tgB (D : Stat) : Tgt → Expr → Bool
  | .one i, e => nmB D i e
  | .two i j, .Tuple [a, b] _ _ => nmB D i a && nmB D j b
  | .three i j l, .Tuple [a, b, c] _ _ => nmB D i a && nmB D j b && nmB D l c
  | .nest i j l, .Tuple [a, .Tuple [b, c] _ _] _ _ => nmB D i a && nmB D j b && nmB D l c
  | _, _ => false
/-- not a test of its own form -/
def plainT : Expr → Bool
  | .UnaryOp .Not _ _ => false
  | .BoolOp _ _ _ => false
  | .IfExp _ _ _ _ => false
  | .Compare _ _ _ _ => false
  | _ => true
theorem plainT_ok {e : Expr} (h : plainT e = true) (env : PySem.Env) (w : Sem Value) : isTrue e env w = (do let v ← w; standAt e.pos; holding [v] (truthy v)) := by
  cases e with
  | UnaryOp op x p => cases op <;> first | rfl | cases h
  | BoolOp => cases h
  | IfExp => cases h
  | Compare => cases h
  | _ => rfl
def noSet : Expr → Bool
  | .Set _ _ _ => false
  | _ => true
theorem noSet_ok {e : Expr} (h : noSet e = true) (env : PySem.Env) (x : Value) : foldedSetIterable e env x = Pure.pure x := by
  cases e <;> first | rfl | cases h
def isVar : Ex → Bool
  | .var _ => true
  | _ => false
def ixB : Expr → Bool
  | .Slice _ _ _ _ => false
  | _ => true
theorem nosl_ok {e : Expr} (h : ixB e = true) : NoSl e := by
  intro ov iv
  cases e <;> first | (cases h; done) | rfl
/-- a display's keys are these texts -/
def keysB : List (Option Expr) → List Str → Bool
  | [], [] => true
  | some (.Constant (.str x) _ _) :: r, k :: ks => decide (x = k) && keysB r ks
  | _, _ => false
theorem ix_ok {e : Expr} (h : ixB e = true) : PlainIx e := by
  intro o i
  cases e <;> first | rfl | cases h
theorem noSet_marks {op : CmpOp} {e : Expr} (h : noSet e = true) : behindInMarks op e = false := by
  cases e <;> first | rfl | cases h
def constB : PV → Const → Bool
  | .int i, .int j => decide (i = j)
  | .bl a, .bool b => decide (a = b)
  | .str x, .str y => decide (x = y)
  | .non, .none => true
  | _, _ => false
/-- a comprehension's block -/
def blkB (N : List Str) (sc scope : Scope) (own : List (Str × Nat)) : Bool :=
  decide (scope.kind = .function) && (scope.names.all fun y => decide (scope.names.lookup y.1 = some y.2)) && (own.all fun p => decide (N[p.2]? = some p.1)) &&
    (scope.names.all fun y => !decide (y.2 = .free) || decide (sc.names.lookup y.1 = some .cell) || decide (sc.names.lookup y.1 = some .free)) &&
    (scope.names.all fun y => !(decide (y.2 = .local) || decide (y.2 = .cell)) || decide (y.1 ∈ own.map (·.1)) || !decide (y.1 ∈ N))
theorem blk_ok {N : List Str} {sc scope : Scope} {own : List (Str × Nat)} (h : blkB N sc scope own = true) : BlkOk N sc scope own := by
  unfold blkB at h
  simp only [Bool.and_eq_true, List.all_eq_true, decide_eq_true_eq] at h
  obtain ⟨⟨⟨⟨h1, h2⟩, h3⟩, h4⟩, h5⟩ := h
  refine ⟨h1, h2, h3, fun y hy e => ?_, fun y hy e => ?_⟩
  · have := h4 y hy
    simp only [Bool.or_eq_true, Bool.not_eq_true', decide_eq_true_eq, decide_eq_false_iff_not] at this
    rcases this with (z | z) | z
    · exact absurd e z
    · exact .inl z
    · exact .inr z
  · have := h5 y hy
    simp only [Bool.or_eq_true, Bool.not_eq_true', decide_eq_true_eq, Bool.or_eq_false_iff, decide_eq_false_iff_not] at this
    rcases this with (z | z) | z
    · rcases e with e | e
      · exact absurd e z.1
      · exact absurd e z.2
    · exact .inl z
    · exact .inr z
def ownOf (N : List Str) (is : List Nat) : List (Str × Nat) := is.map fun i => (N.getD i ⟨#[]⟩, i)
def inner (D : Stat) (scope : Scope) : Stat := ⟨D.N, relS scope D.sc, fun x => (scope.names.lookup x == some .cell) || decide ((relS scope D.sc).names.lookup x = some .local), false⟩
def lamD (D : Stat) (scope : Scope) : Stat := ⟨D.N, scope, fun x => decide (scope.names.lookup x = some .local), false⟩
def noArgs : Arguments → Bool
  | ⟨[], [], none, [], [], none, []⟩ => true
  | _ => false
/-- as a value, as a test, as what is walked -/
structure Chk where
  v : Stat → Expr → Bool
  t : Stat → Expr → Bool
  i : Tgt → Stat → Expr → Bool
def Chk.val (v : Stat → Expr → Bool) : Chk := ⟨v, fun D e => plainT e && v D e, fun _ D e => v D e⟩
def Chk.vt (v t : Stat → Expr → Bool) : Chk := ⟨v, t, fun _ D e => v D e⟩
def chkAll : List Chk → Stat → List Expr → Bool
  | [], _, [] => true
  | c :: cs, D, e :: es => c.v D e && chkAll cs D es
  | _, _, _ => false
def chkOpt : Option Chk → Stat → Option Expr → Bool
  | none, _, none => true
  | some c, D, some e => c.v D e
  | _, _, _ => false
def chkIfs : List Chk → Stat → List Expr → Bool
  | [], _, [] => true
  | [c], D, [e] => c.t D e
  | _, _, _ => false
mutual
def chk (G : Gs) : Ex → Chk
  | .var i => .val fun D e => match e with
    | .Name x _ => decide (D.N[i]? = some x) && visB D.sc x && dbg x && !(x == ("__classdict__" : Str))
    | _ => false
  | .cst v => .val fun _ e => match e with
    | .Constant c _ _ => constB v c
    | _ => false
  | .glb g => .val fun D e => match e with
    | .Name x _ => glB D.sc x && decide (G.glb x = some g)
    | _ => false
  | .bin op a b => .val fun D e => match e with
    | .BinOp l o r _ => decide (o = opOf op) && (chk G a).v D l && (chk G b).v D r
    | _ => false
  | .neg a => .val fun D e => match e with
    | .UnaryOp .USub x _ => (chk G a).v D x
    | _ => false
  | .cmp op a b =>
    let f := fun (D : Stat) (e : Expr) => match e with
      | .Compare l [o] [r] _ => decide (o = copOf op) && noSet r && (chk G a).v D l && (chk G b).v D r
      | _ => false
    .vt f f
  | .chn o1 o2 a b c =>
    let f := fun (D : Stat) (e : Expr) => match e with
      | .Compare l [p, q] [r, s] _ => decide (p = copOf o1) && decide (q = copOf o2) && noSet s && (chk G a).v D l && (chk G b).v D r && (chk G c).v D s
      | _ => false
    .vt f f
  | .and a b => .vt
    (fun D e => match e with
      | .BoolOp .And [x, y] _ => (chk G a).v D x && (chk G b).v D y
      | .BoolOp .And (x :: y :: z :: r) p => (chk G a).v D x && (chk G b).v D (.BoolOp .And (y :: z :: r) p)
      | _ => false)
    (fun D e => match e with
      | .BoolOp .And [x, y] _ => (chk G a).t D x && (chk G b).t D y
      | .BoolOp .And (x :: y :: z :: r) p => (chk G a).t D x && (chk G b).t D (.BoolOp .And (y :: z :: r) p)
      | _ => false)
  | .or a b => .vt
    (fun D e => match e with
      | .BoolOp .Or [x, y] _ => (chk G a).v D x && (chk G b).v D y
      | .BoolOp .Or (x :: y :: z :: r) p => (chk G a).v D x && (chk G b).v D (.BoolOp .Or (y :: z :: r) p)
      | _ => false)
    (fun D e => match e with
      | .BoolOp .Or [x, y] _ => (chk G a).t D x && (chk G b).t D y
      | .BoolOp .Or (x :: y :: z :: r) p => (chk G a).t D x && (chk G b).t D (.BoolOp .Or (y :: z :: r) p)
      | _ => false)
  | .not a => .vt
    (fun D e => match e with
      | .UnaryOp .Not x _ => (chk G a).v D x
      | _ => false)
    (fun D e => match e with
      | .UnaryOp .Not x _ => (chk G a).t D x
      | _ => false)
  | .ife c a b => .vt (fun D e => match e with
    | .IfExp t x y _ => (chk G c).t D t && (chk G a).v D x && (chk G b).v D y
    | _ => false) (fun _ _ => false)
  | .tup as => .val fun D e => match e with
    | .Tuple es _ _ => es.all plainX && decide (as.length ≤ 1000) && chkAll (chks G as) D es
    | _ => false
  | .lst as => .val fun D e => match e with
    | .List es _ => es.all plainX && decide (as.length ≤ 1000) && chkAll (chks G as) D es
    | _ => false
  | .pick ks as i => .val fun D e => match e with
    | .Subscript (.Dict keys values _) y _ => ixB y && keysB keys ks && decide (1 ≤ ks.length) && decide (ks.length ≤ 15) && decide ks.Nodup && chkAll (chks G as) D values && decide (ks.length = as.length) && (chk G i).v D y
    | _ => false
  | .idx a i => .val fun D e => match e with
    | .Subscript x y _ => ixB y && (chk G a).v D x && (chk G i).v D y
    | _ => false
  | .slc a lo hi => .val fun D e => match e with
    | .Subscript x (.Slice l h none _) _ => (chk G a).v D x && chkOpt (chko G lo) D l && chkOpt (chko G hi) D h
    | _ => false
  | .lslc a lo hi => .val fun D e => match e with
    | .Subscript x (.Slice l h none _) _ => (chk G a).v D x && chkOpt (chko G lo) D l && chkOpt (chko G hi) D h
    | _ => false
  | .call f as => .val fun D e => match e with
    | .Call (.Name x _) es [] _ => glB D.sc x && decide (G.fn x = some f) && es.all plainX && chkAll (chks G as) D es
    | _ => false
  | .callk f as pm => .val fun D e => match e with
    | .Call (.Name x _) es ks _ => glB D.sc x && decide (G.fn x = some f) && es.all plainX && chkAll (chks G as) D (es ++ ks.map kwE) && ((G.kf f).any fun k => decide (k.1 = es.length) && decide (k.2.1.map some = ks.map kwN) && decide (k.2.2 = pm))
    | _ => false
  | .bi b as => .val fun D e => match e with
    | .Call (.Name x _) (y :: es) [] _ => decide (x = biName b) && bltB G D x (y :: es) && chkAll (chks G as) D (y :: es)
    | _ => false
  | .bl b a => .val fun D e => match e with
    | .Call (.Name x _) [y] [] _ => decide (b ≠ .lenset) && decide (x = (blfn b : String)) && bltB G D x [y] && (chk G a).v D y
    | _ => false
  | .isi t a => .val fun D e => match e with
    | .Call (.Name x _) [y, .Name z _] [] _ => decide (x = "isinstance") && decide (z = tyName t) && bltB G D x [y, .Name z ⟨0, 0, 0, 0⟩] && bltB G D z [] && (chk G a).v D y
    | _ => false
  | .tof a => .val fun D e => match e with
    | .Call (.Name x _) [y] [] _ => decide (x = "tuple") && bltB G D x [y] && (chk G a).v D y
    | _ => false
  | .lof a => .val fun D e => match e with
    | .Call (.Name x _) [y] [] _ => decide (x = "list") && bltB G D x [y] && (chk G a).v D y
    | _ => false
  | .rng1 a => .val fun D e => match e with
    | .Call (.Name x _) [y] [] _ => decide (x = "range") && bltB G D x [y] && (chk G a).v D y
    | _ => false
  | .rng2 a b => .val fun D e => match e with
    | .Call (.Name x _) [y, z] [] _ => decide (x = "range") && bltB G D x [y, z] && (chk G a).v D y && (chk G b).v D z
    | _ => false
  | .zip a b => ⟨fun _ _ => false, fun _ _ => false, fun tg D e => match e with
    | .Call (.Name x _) [y, z] [] _ => many tg && decide (x = "zip") && bltB G D x [y, z] && (chk G a).v D y && (chk G b).v D z
    | _ => false⟩
  | .lcat a b => .val fun D e => match e with
    | .BinOp l .Add r _ => (chk G a).v D l && (chk G b).v D r
    | _ => false
  | .lrep a b => .val fun D e => match e with
    | .BinOp l .Mult r _ => (chk G a).v D l && (chk G b).v D r
    | _ => false
  | .mt m o as => .val fun D e => match e with
    | .Call (.Attribute x f ap) es [] cp => decide (f = mtName m) && baseOk x && es.all plainX && decide (es.length < 20) && (ap.endLine == cp.line) && (chk G o).v D x && chkAll (chks G as) D es
    | _ => false
  | .ext o a => .val fun D e => match e with
    | .Call (.Attribute x f ap) [y] [] cp => decide (f = "extend") && baseOk x && plainX y && (ap.endLine == cp.line) && (chk G o).v D x && (chk G a).v D y
    | _ => false
  | .srt a => .val fun D e => match e with
    | .Call (.Name x _) [z] [] _ => decide (x = "sorted") && bltB G D x [z] && (chk G a).v D z
    | _ => false
  | .srk a => .val fun D e => match e with
    | .Call (.Name x _) [z] [] _ => decide (x = "sorted") && bltB G D x [z] && (chk G a).v D z
    | _ => false
  | .lset a => .val fun D e => match e with
    | .Call (.Name x _) [.Call (.Name y p) [z] [] q] [] _ => decide (x = "len") && decide (y = "set") && bltB G D x [.Call (.Name y p) [z] [] q] && bltB G D y [z] && (chk G a).v D z
    | _ => false
  | .dct as => .val fun D e => match e with
    | .Dict [] [] _ => as.isEmpty
    | _ => false
  | .sda d b v => .val fun D e => match e with
    | .Call (.Attribute (.Call (.Attribute x f ap) [y, .List [] _] [] cp) f2 ap2) [z] [] cp2 => decide (f = "setdefault") && decide (f2 = "append") && baseOk x && (ap.endLine == cp.line) && (ap2.endLine == cp2.line) && plainX y && plainX z && (chk G d).v D x && (chk G b).v D y && (isVar v && (chk G v).v D z)
    | _ => false
  | .enu a => ⟨fun _ _ => false, fun _ _ => false, fun tg D e => match e with
    | .Call (.Name x _) [y] [] _ => many tg && decide (x = "enumerate") && bltB G D x [y] && (chk G a).v D y
    | _ => false⟩
  | .srs a => .val fun D e => match e with
    | .Call (.Name x _) [.Call (.Name y p) [z] [] q] [] _ => decide (x = "sorted") && decide (y = "set") && bltB G D x [.Call (.Name y p) [z] [] q] && bltB G D y [z] && (chk G a).v D z
    | _ => false
  | .lcm own tg it cs a => .val fun D e => match e with
    | .ListComp elt [⟨t, i, ifs, z⟩] scope _ => decide (z = 0) && noSet i && blkB D.N D.sc scope (ownOf D.N own) && decide (∀ j ∈ slotsT tg, j ∈ own) && tgB (inner D scope) tg t && (chk G it).i tg D i && chkIfs (chks G cs) (inner D scope) ifs && (chk G a).v (inner D scope) elt
    | _ => false
  | .lam f a => .val fun D e => match e with
    | .Call (.Name x _) [.Lambda ps b scope _] [] _ => D.lam && glB D.sc x && decide (G.ref x = some f) && noArgs ps && LamX.lamSB D.sc scope && (chk G a).v (lamD D scope) b
    | _ => false
  | _ => ⟨fun _ _ => false, fun _ _ => false, fun _ _ _ => false⟩
def chks (G : Gs) : List Ex → List Chk
  | [] => []
  | a :: as => chk G a :: chks G as
def chko (G : Gs) : Option Ex → Option Chk
  | none => none
  | some a => some (chk G a)
end
end Mi
end

section
set_option autoImplicit false
set_option Elab.async false
set_option linter.all false
set_option maxRecDepth 100000
namespace Mi
open PySem PySem.Spec PyProof.Rows L2
variable {S : Fx}
/-- the names of the top, as they stand; k: the defs' room -/
structure Gx (S : Fx) (G : Gs) (X : Cx) (C : Nat → List PV → MH → Res PV) (k : Nat) : Prop where
  fn : ∀ x f, G.fn x = some f → ∃ a fd ps, FnG S X C x f k a fd ps ∧ ∀ q ∈ G.kf f, KForm fd ps q.1 q.2.1 q.2.2 ∧ ps ≠ []
  glb : ∀ x g, G.glb x = some g → ∃ v y u, S.P.glob g = some v ∧ X.mg x = some u ∧ RelV y u ∧ ∀ r H, RV S.K r H v y
  exc : ∀ x c, G.exc x = some c → ∃ Cc fI fd f, ExD X.prog X.K Cc fI fd f ∧ X.mg x = some (.ref Cc) ∧ S.xc c = Cc ∧ S.xf c = f ∧ X.mg "super" = none
  ref : ∀ x c, G.ref x = some c → ∃ g CS f, RefD X x g CS f ∧ S.xc c = CS ∧ S.xf c = f
  blt : ∀ x, G.blt x = true → X.mg x = none
/-- the place is so -/
structure Good (S : Fx) (G : Gs) (D : Stat) (X : Cx) (C : Nat → List PV → MH → Res PV) (E : XK) (k : Nat) : Prop where
  gx : Gx S G X C k
  K : X.K = S.K
  w : X.w = S.w
  calm : X.calm = true
  un : X.A.units + 65 < cLine
  N : X.N = D.N
  nd : D.N.Nodup
  sc : X.env.scope = D.sc
  st : ∀ x, D.st x = true → X.fn x = true ∨ X.env.scope.names.lookup x = some .local
  room : Room (k + 2) X.A ∨ (D.lam = false ∧ Room k X.A)
  pas : Passes (L2.CX X.prog X.w) X E
  lam : D.lam = true → ∃ c P, LamX.TabB X.base X.mg c P ∧ X.env.code = .ref c ∧ (P, X.env.qual ++ "<lambda>") ∈ S.T ∧ ∀ p ∈ S.T, p.1 = P → p.2 = X.env.qual ++ "<lambda>"
section
variable {G : Gs} {D : Stat} {X : Cx} {C : Nat → List PV → MH → Res PV} {E : XK} {k : Nat}
theorem Good.rk (g : Good S G D X C E k) : Room k X.A := by
  rcases g.room with h | ⟨_, h⟩
  · exact h.mono (by omega)
  · exact h
theorem Good.gl (g : Good S G D X C E k) {x : Str} (h : glB D.sc x = true) : Gl X x ∧ (x == ("__debug__" : Str)) = false := by
  obtain ⟨h1, h2⟩ := ands h
  refine ⟨?_, by simpa [dbg] using h2⟩
  show X.env.scope.names.lookup x = some .globalImplicit
  rw [g.sc]
  exact of_decide_eq_true h1
theorem Good.vis (g : Good S G D X C E k) {x : Str} (h : visB D.sc x = true) : Vis X.env.scope x := by
  rw [g.sc]
  unfold visB at h
  simp only [Bool.or_eq_true, decide_eq_true_eq] at h
  rcases h with (h | h) | h
  · exact .inl h
  · exact .inr (.inl h)
  · exact .inr (.inr h)
theorem Good.sto (g : Good S G D X C E k) {i : Nat} {x : Str} (h : stoB D i x = true) : Sto X i x := by
  obtain ⟨h, h3⟩ := ands h
  obtain ⟨h1, h2⟩ := ands h
  refine ⟨by rw [g.N]; exact of_decide_eq_true h1, ?_, g.st x h3⟩
  rw [g.sc]
  simp only [Bool.or_eq_true, decide_eq_true_eq] at h2
  exact h2
theorem Good.nm (g : Good S G D X C E k) {i : Nat} {e : Expr} (h : nmB D i e = true) : ∃ x p, e = .Name x p ∧ Sto X i x := by
  cases e <;> first | cases h | skip
  rename_i x p
  exact ⟨x, p, rfl, g.sto h⟩
theorem Good.tg (g : Good S G D X C E k) {tg : Tgt} {e : Expr} (h : tgB D tg e = true) : TgE X tg e := by
  cases tg with
  | one i =>
    obtain ⟨x, p, rfl, s⟩ := g.nm h
    exact .one s
  | two i j =>
    unfold tgB at h
    split at h <;> first | contradiction | skip
    all_goals (rename_i heq; cases heq)
    obtain ⟨h1, h2⟩ := ands h
    obtain ⟨x, p, rfl, s⟩ := g.nm h1
    obtain ⟨y, q, rfl, t⟩ := g.nm h2
    exact .two s t
  | three i j l =>
    unfold tgB at h
    split at h <;> first | contradiction | skip
    all_goals (rename_i heq; cases heq)
    obtain ⟨h, h3⟩ := ands h
    obtain ⟨h1, h2⟩ := ands h
    obtain ⟨x, p, rfl, s⟩ := g.nm h1
    obtain ⟨y, q, rfl, t⟩ := g.nm h2
    obtain ⟨z, o, rfl, u⟩ := g.nm h3
    exact .three s t u
  | nest i j l =>
    unfold tgB at h
    split at h <;> first | contradiction | skip
    all_goals (rename_i heq; cases heq)
    obtain ⟨h, h3⟩ := ands h
    obtain ⟨h1, h2⟩ := ands h
    obtain ⟨x, p, rfl, s⟩ := g.nm h1
    obtain ⟨y, q, rfl, t⟩ := g.nm h2
    obtain ⟨z, o, rfl, u⟩ := g.nm h3
    exact .nest s t u
theorem Good.bl (g : Good S G D X C E k) {x : Str} {es : List Expr} (h : bltB G D x es = true) : Blt X x es := by
  obtain ⟨h, h4⟩ := ands h
  obtain ⟨h, h3⟩ := ands h
  obtain ⟨h1, h2⟩ := ands h
  obtain ⟨q1, q2⟩ := g.gl h1
  exact ⟨q1, g.gx.blt x h2, by simpa using h3, q2, h4⟩
/-- within a comprehension -/
theorem Good.inner (g : Good S G D X C E k) {scope : Scope} (s : Shared) (H : Hp) (Ca : Addr) (cl : List (Str × Addr)) (fp : List Addr) : Good S G (Mi.inner D scope) (X.blk s H scope (compEnvC scope cl Ca X.env) fp) C E0 k where
  gx := ⟨fun x f h => by
      obtain ⟨a, fd, ps, F, q⟩ := g.gx.fn x f h
      exact ⟨a, fd, ps, ⟨F.mg, F.kp, F.ok, F.bd⟩, q⟩, g.gx.glb, g.gx.exc, fun x c h => by
      obtain ⟨gg, CS, f, R, q⟩ := g.gx.ref x c h
      exact ⟨gg, CS, f, ⟨R.mg, R.kp, R.xf, R.nof, R.exm, R.fn⟩, q⟩, g.gx.blt⟩
  K := g.K
  w := g.w
  calm := g.calm
  un := g.un
  N := g.N
  nd := g.nd
  sc := by
    show relS scope X.env.scope = relS scope D.sc
    rw [g.sc]
  st := fun x h => by
    show (scope.names.lookup x == some .cell) = true ∨ (relS scope X.env.scope).names.lookup x = some .local
    rw [g.sc]
    simpa [Mi.inner] using h
  room := .inr ⟨rfl, g.rk⟩
  pas := fun pins σ H s e s' I h => by
    obtain ⟨_, _, _, _, _, _, _, _, _, _, _, _, z⟩ := h
    exact z.elim
  lam := fun h => by cases h
/-- within a lambda -/
theorem Good.lamb (g : Good S G D X C E k) {scope : Scope} {A : Around} {outer : List PySem.Env} {s : Shared} {H : Hp} {E' : XK} {fl c' : Addr} (hr : Room k (A.deeper (LamX.lamEnv X scope s.heap.objs.size fl c'))) : Good S G (lamD D scope) (LamX.lamCx X A outer s H E' scope fl c') C E' k where
  gx := ⟨fun x f h => by
      obtain ⟨a, fd, ps, F, q⟩ := g.gx.fn x f h
      exact ⟨a, fd, ps, ⟨F.mg, F.kp, F.ok, F.bd⟩, q⟩, g.gx.glb, g.gx.exc, fun x c h => by
      obtain ⟨gg, CS, f, R, q⟩ := g.gx.ref x c h
      exact ⟨gg, CS, f, ⟨R.mg, R.kp, R.xf, R.nof, R.exm, R.fn⟩, q⟩, g.gx.blt⟩
  K := g.K
  w := g.w
  calm := rfl
  un := by
    have := hr.un
    show (A.deeper (LamX.lamEnv X scope s.heap.objs.size fl c')).units + 65 < cLine
    omega
  N := g.N
  nd := g.nd
  sc := rfl
  st := fun x h => .inr (of_decide_eq_true h)
  room := .inr ⟨rfl, hr⟩
  pas := fun pins σ H s e s' I h => passes_call (takes_of rfl rfl rfl rfl) (fun cls d σ H q => q) pins σ H s e s' I h
  lam := fun h => by cases h
end
end Mi
end

section
set_option autoImplicit false
set_option Elab.async false
set_option linter.all false
set_option maxRecDepth 100000
set_option maxHeartbeats 1000000
namespace Mi
open PySem PySem.Spec PyProof.Rows L2
variable {S : Fx} {G : Gs} {C : Nat → List PV → MH → Res PV} {k : Nat}
/-- a term's three readings -/
structure Snd (S : Fx) (G : Gs) (C : Nat → List PV → MH → Res PV) (k : Nat) (a : Ex) : Prop where
  v : ∀ {D : Stat} {X : Cx} {E : XK}, Good S G D X C E k → ∀ {e : Expr}, (chk G a).v D e = true → PE X e (tX S C E a)
  t : ∀ {D : Stat} {X : Cx} {E : XK}, Good S G D X C E k → ∀ {e : Expr}, (chk G a).t D e = true → PT X e (tB2 S C E a)
  i : ∀ {D : Stat} {X : Cx} {E : XK}, Good S G D X C E k → ∀ {tg : Tgt} {tge e : Expr}, (chk G a).i tg D e = true → (many tg = true → ∃ es kk p, tge = .Tuple es kk p) → PI X tge e (iX S tg C E a)
theorem snd_val {a : Ex} {v : Stat → Expr → Bool} (hc : chk G a = Chk.val v) (h : ∀ {D : Stat} {X : Cx} {E : XK}, Good S G D X C E k → ∀ {e : Expr}, v D e = true → PE X e (tX S C E a)) : Snd S G C k a where
  v := fun g e q => by rw [hc] at q; exact h g q
  t := fun g e q => by
    rw [hc] at q
    obtain ⟨q1, q2⟩ := ands q
    exact pt_valE (plainT_ok q1 _) (h g q2)
  i := fun g tg tge e q _ => by
    rw [hc] at q
    exact pi_any g.K (h g q)
theorem snd_vt {a : Ex} {v t : Stat → Expr → Bool} (hc : chk G a = Chk.vt v t) (h : ∀ {D : Stat} {X : Cx} {E : XK}, Good S G D X C E k → ∀ {e : Expr}, v D e = true → PE X e (tX S C E a)) (ht : ∀ {D : Stat} {X : Cx} {E : XK}, Good S G D X C E k → ∀ {e : Expr}, t D e = true → PT X e (tB2 S C E a)) : Snd S G C k a where
  v := fun g e q => by rw [hc] at q; exact h g q
  t := fun g e q => by rw [hc] at q; exact ht g q
  i := fun g tg tge e q _ => by
    rw [hc] at q
    exact pi_any g.K (h g q)
theorem snd_none {a : Ex} (hc : chk G a = ⟨fun _ _ => false, fun _ _ => false, fun _ _ _ => false⟩) : Snd S G C k a where
  v := fun g e q => by rw [hc] at q; cases q
  t := fun g e q => by rw [hc] at q; cases q
  i := fun g tg tge e q _ => by rw [hc] at q; cases q
theorem all_v {as : List Ex} (h : ∀ a ∈ as, Snd S G C k a) {D : Stat} {X : Cx} {E : XK} (g : Good S G D X C E k) : ∀ {es : List Expr}, chkAll (chks G as) D es = true → es.length = as.length ∧ ∀ p ∈ es.zip as, PE X p.1 (tV S C E p.2) := by
  induction as with
  | nil =>
    intro es q
    cases es with
    | nil => exact ⟨rfl, fun p hp => by simp at hp⟩
    | cons e es => rw [chks] at q; cases q
  | cons a as ih =>
    intro es q
    cases es with
    | nil => rw [chks] at q; cases q
    | cons e es =>
      rw [chks] at q
      obtain ⟨q1, q2⟩ := ands q
      obtain ⟨h1, h2⟩ := ih (fun b hb => h b (List.mem_cons_of_mem _ hb)) q2
      refine ⟨by rw [List.length_cons, List.length_cons, h1], fun p hp => ?_⟩
      rw [List.zip_cons_cons] at hp
      rcases List.mem_cons.mp hp with hp | hp
      · rw [hp]
        exact pe_val ((h a List.mem_cons_self).v g q1)
      · exact h2 p hp
theorem opt_v {a : Option Ex} (h : ∀ b, a = some b → Snd S G C k b) {D : Stat} {X : Cx} {E : XK} (g : Good S G D X C E k) {e : Option Expr} (q : chkOpt (chko G a) D e = true) : PO X e (tO S C E a) := by
  refine po_evo ?_
  cases a with
  | none => cases e with
    | none => exact True.intro
    | some e => rw [chko] at q; cases q
  | some a => cases e with
    | none => rw [chko] at q; cases q
    | some e => rw [chko] at q; exact pe_val ((h a rfl).v g q)
theorem ifs_v {cs : List Ex} (h : ∀ a ∈ cs, Snd S G C k a) {D : Stat} {X : Cx} {E : XK} (g : Good S G D X C E k) {es : List Expr} (q : chkIfs (chks G cs) D es = true) : PTs X es (tTs S C E cs) := by
  match cs, es, q with
  | [], [], _ => exact pts_nilE
  | [a], [e], q => exact pts_oneE ((h a List.mem_cons_self).t g q)
  | [], _ :: _, q => rw [chks] at q; cases q
  | [_], [], q => rw [chks, chks] at q; cases q
  | [_], _ :: _ :: _, q => rw [chks, chks] at q; cases q
  | _ :: _ :: _, _, q => rw [chks, chks] at q; cases q
theorem d_eq {α : Type} [DecidableEq α] {a b : α} (h : decide (a = b) = true) : a = b := of_decide_eq_true h
theorem snd_leaf_var (i : Nat) : Snd S G C k (.var i) := snd_val rfl fun {D X E} g {e} q => by
  cases e <;> first | cases q | skip
  rename_i x p
  obtain ⟨q, q4⟩ := ands q
  obtain ⟨q, q3⟩ := ands q
  obtain ⟨q1, q2⟩ := ands q
  exact pe_varE (by rw [g.N]; exact d_eq q1) (g.vis q2) (by simpa [dbg] using q3) (by simpa using q4)
theorem snd_cst (v : PV) : Snd S G C k (.cst v) := snd_val rfl fun {D X E} g {e} q => by
  cases e <;> first | cases q | skip
  rename_i c j p
  cases v <;> cases c <;> first | cases q | skip
  · exact pe_nonE
  · cases d_eq q
    exact pe_blE
  · cases d_eq q
    exact pe_intE
  · cases d_eq q
    exact pe_strE
theorem snd_glb (i : Nat) : Snd S G C k (.glb i) := snd_val rfl fun {D X E} g {e} q => by
  cases e <;> first | cases q | skip
  rename_i x p
  obtain ⟨q1, q2⟩ := ands q
  obtain ⟨h1, h2⟩ := g.gl q1
  obtain ⟨v, y, u, e1, e2, e3, e4⟩ := g.gx.glb x i (d_eq q2)
  exact pe_glbE h1 e2 e3 e1 e4 h2
end Mi
end

section
set_option autoImplicit false
set_option Elab.async false
set_option linter.all false
set_option maxRecDepth 100000
set_option maxHeartbeats 1000000
namespace Mi
open PySem PySem.Spec PyProof.Rows L2
variable {S : Fx} {G : Gs} {C : Nat → List PV → MH → Res PV} {k : Nat}
theorem snd_bin {op : Bop} {a b : Ex} (ha : Snd S G C k a) (hb : Snd S G C k b) : Snd S G C k (.bin op a b) := snd_val rfl fun {D X E} g {e} q => by
  cases e <;> first | cases q | skip
  rename_i l o r p
  obtain ⟨q, q3⟩ := ands q
  obtain ⟨q1, q2⟩ := ands q
  cases d_eq q1
  exact pe_binE g.K (ha.v g q2) (hb.v g q3)
theorem snd_neg {a : Ex} (ha : Snd S G C k a) : Snd S G C k (.neg a) := snd_val rfl fun {D X E} g {e} q => by
  cases e <;> first | cases q | skip
  rename_i o x p
  cases o <;> first | cases q | skip
  exact pe_negE (ha.v g q)
theorem snd_cmp {op : Cop} {a b : Ex} (ha : Snd S G C k a) (hb : Snd S G C k b) : Snd S G C k (.cmp op a b) := by
  refine snd_vt rfl (fun {D X E} g {e} q => ?_) (fun {D X E} g {e} q => ?_) <;>
  · cases e <;> first | cases q | skip
    rename_i l os rs p
    match os, rs, q with
    | [o], [r], q =>
      obtain ⟨q, q4⟩ := ands q
      obtain ⟨q, q3⟩ := ands q
      obtain ⟨q1, q2⟩ := ands q
      cases d_eq q1
      first
        | exact pe_cmpE g.K g.w g.un (noSet_marks q2) (ha.v g q3) (hb.v g q4)
        | exact pt_cmpE g.K g.w g.un (noSet_marks q2) (ha.v g q3) (hb.v g q4)
    | [], _, q => cases q
    | _ :: _ :: _, _, q => cases q
    | [_], [], q => cases q
    | [_], _ :: _ :: _, q => cases q
theorem last_marks {o1 o2 : CmpOp} {b c : Expr} (h : noSet c = true) : lastMarks [o1, o2] [b, c] = false := noSet_marks h
theorem snd_chn {o1 o2 : Cop} {a b c : Ex} (ha : Snd S G C k a) (hb : Snd S G C k b) (hc : Snd S G C k c) : Snd S G C k (.chn o1 o2 a b c) := by
  refine snd_vt rfl (fun {D X E} g {e} q => ?_) (fun {D X E} g {e} q => ?_) <;>
  · cases e <;> first | cases q | skip
    rename_i l os rs p
    match os, rs, q with
    | [o, o'], [r, r'], q =>
      obtain ⟨q, q6⟩ := ands q
      obtain ⟨q, q5⟩ := ands q
      obtain ⟨q, q4⟩ := ands q
      obtain ⟨q, q3⟩ := ands q
      obtain ⟨q1, q2⟩ := ands q
      cases d_eq q1
      cases d_eq q2
      first
        | exact pe_chnE g.K g.w g.un (last_marks q3) (ha.v g q4) (hb.v g q5) (hc.v g q6)
        | exact pt_chnE g.K g.w g.un (last_marks q3) (ha.v g q4) (hb.v g q5) (hc.v g q6)
    | [], _, q => cases q
    | [_], _, q => cases q
    | _ :: _ :: _ :: _, _, q => cases q
    | [_, _], [], q => cases q
    | [_, _], [_], q => cases q
    | [_, _], _ :: _ :: _ :: _, q => cases q
theorem pw_more {X : Cx} {op : BoolOp} {es : List Expr} {p : Pos} {t : TT} (h : PT X (.BoolOp op es p) t) : PW X (.BoolOp op es p) t := ⟨fun wh pins s σ H Q I q => by
  have := h.run pins s σ H Q I q
  rw [PySem.isTrue] at this ⊢
  exact this⟩
theorem snd_and {a b : Ex} (ha : Snd S G C k a) (hb : Snd S G C k b) : Snd S G C k (.and a b) := by
  refine snd_vt rfl (fun {D X E} g {e} q => ?_) (fun {D X E} g {e} q => ?_)
  · cases e <;> first | cases q | skip
    rename_i o es p
    cases o <;> first | cases q | skip
    match es, q with
    | [x, y], q =>
      obtain ⟨q1, q2⟩ := ands q
      exact pe_andE (ha.v g q1) (pe_one (hb.v g q2))
    | x :: y :: z :: r, q =>
      obtain ⟨q1, q2⟩ := ands q
      exact pe_andE (ha.v g q1) (hb.v g q2)
    | [], q => cases q
    | [_], q => cases q
  · cases e <;> first | cases q | skip
    rename_i o es p
    cases o <;> first | cases q | skip
    match es, q with
    | [x, y], q =>
      obtain ⟨q1, q2⟩ := ands q
      exact (pw_andE (ha.t g q1) (pw_and1 (hb.t g q2))).pt
    | x :: y :: z :: r, q =>
      obtain ⟨q1, q2⟩ := ands q
      exact (pw_andE (ha.t g q1) (pw_more (hb.t g q2))).pt
    | [], q => cases q
    | [_], q => cases q
theorem snd_or {a b : Ex} (ha : Snd S G C k a) (hb : Snd S G C k b) : Snd S G C k (.or a b) := by
  refine snd_vt rfl (fun {D X E} g {e} q => ?_) (fun {D X E} g {e} q => ?_)
  · cases e <;> first | cases q | skip
    rename_i o es p
    cases o <;> first | cases q | skip
    match es, q with
    | [x, y], q =>
      obtain ⟨q1, q2⟩ := ands q
      exact pe_orE (ha.v g q1) (pe_one (hb.v g q2))
    | x :: y :: z :: r, q =>
      obtain ⟨q1, q2⟩ := ands q
      exact pe_orE (ha.v g q1) (hb.v g q2)
    | [], q => cases q
    | [_], q => cases q
  · cases e <;> first | cases q | skip
    rename_i o es p
    cases o <;> first | cases q | skip
    match es, q with
    | [x, y], q =>
      obtain ⟨q1, q2⟩ := ands q
      exact (pw_orE (ha.t g q1) (pw_or1 (hb.t g q2))).pt
    | x :: y :: z :: r, q =>
      obtain ⟨q1, q2⟩ := ands q
      exact (pw_orE (ha.t g q1) (pw_more (hb.t g q2))).pt
    | [], q => cases q
    | [_], q => cases q
theorem snd_not {a : Ex} (ha : Snd S G C k a) : Snd S G C k (.not a) := by
  refine snd_vt rfl (fun {D X E} g {e} q => ?_) (fun {D X E} g {e} q => ?_)
  · cases e <;> first | cases q | skip
    rename_i o x p
    cases o <;> first | cases q | skip
    exact pe_notE (ha.v g q)
  · cases e <;> first | cases q | skip
    rename_i o x p
    cases o <;> first | cases q | skip
    exact pt_notE (ha.t g q)
theorem snd_ife {c a b : Ex} (hc : Snd S G C k c) (ha : Snd S G C k a) (hb : Snd S G C k b) : Snd S G C k (.ife c a b) := by
  refine snd_vt rfl (fun {D X E} g {e} q => ?_) (fun {D X E} g {e} q => by cases q)
  cases e <;> first | cases q | skip
  obtain ⟨q, q3⟩ := ands q
  obtain ⟨q1, q2⟩ := ands q
  exact pe_iteE (hc.t g q1) (ha.v g q2) (hb.v g q3)
theorem args_v {as : List Ex} (h : ∀ a ∈ as, Snd S G C k a) {D : Stat} {X : Cx} {E : XK} (g : Good S G D X C E k) {es : List Expr} (hp : es.all plainX = true) (q : chkAll (chks G as) D es = true) : es.length = as.length ∧ PA X es (tVs S C E as) := by
  obtain ⟨h1, h2⟩ := all_v h g q
  exact ⟨h1, pa_evs h2 h1 hp⟩
theorem snd_tup {as : List Ex} (h : ∀ a ∈ as, Snd S G C k a) : Snd S G C k (.tup as) := snd_val rfl fun {D X E} g {e} q => by
  cases e <;> first | cases q | skip
  obtain ⟨q, q3⟩ := ands q
  obtain ⟨q1, q2⟩ := ands q
  exact pe_tupE (args_v h g q1 q3).2 (of_decide_eq_true q2)
theorem snd_lst {as : List Ex} (h : ∀ a ∈ as, Snd S G C k a) : Snd S G C k (.lst as) := snd_val rfl fun {D X E} g {e} q => by
  cases e <;> first | cases q | skip
  obtain ⟨q, q3⟩ := ands q
  obtain ⟨q1, q2⟩ := ands q
  exact pe_lstE (args_v h g q1 q3).2 (of_decide_eq_true q2)
theorem snd_idx {a i : Ex} (ha : Snd S G C k a) (hi : Snd S G C k i) : Snd S G C k (.idx a i) := snd_val rfl fun {D X E} g {e} q => by
  cases e <;> first | cases q | skip
  obtain ⟨q, q3⟩ := ands q
  obtain ⟨q1, q2⟩ := ands q
  exact pe_idxE g.K g.w g.un (ix_ok q1) (ha.v g q2) (hi.v g q3)
theorem snd_slc {a : Ex} {lo hi : Option Ex} (ha : Snd S G C k a) (hl : ∀ b, lo = some b → Snd S G C k b) (hh : ∀ b, hi = some b → Snd S G C k b) : Snd S G C k (.slc a lo hi) := snd_val rfl fun {D X E} g {e} q => by
  cases e <;> first | cases q | skip
  rename_i x sl p
  cases sl <;> first | cases q | skip
  rename_i l h st p2
  cases st with
  | some _ => cases q
  | none =>
    obtain ⟨q, q3⟩ := ands q
    obtain ⟨q1, q2⟩ := ands q
    exact pe_slcE g.K (ha.v g q1) (opt_v hl g q2) (opt_v hh g q3)
theorem snd_lslc {a : Ex} {lo hi : Option Ex} (ha : Snd S G C k a) (hl : ∀ b, lo = some b → Snd S G C k b) (hh : ∀ b, hi = some b → Snd S G C k b) : Snd S G C k (.lslc a lo hi) := snd_val rfl fun {D X E} g {e} q => by
  cases e <;> first | cases q | skip
  rename_i x sl p
  cases sl <;> first | cases q | skip
  rename_i l h st p2
  cases st with
  | some _ => cases q
  | none =>
    obtain ⟨q, q3⟩ := ands q
    obtain ⟨q1, q2⟩ := ands q
    exact pe_lslcE g.K (ha.v g q1) (opt_v hl g q2) (opt_v hh g q3)
end Mi
end

section
set_option autoImplicit false
set_option Elab.async false
set_option linter.all false
set_option maxRecDepth 100000
set_option maxHeartbeats 1000000
namespace Mi
open PySem PySem.Spec PyProof.Rows L2
variable {S : Fx} {G : Gs} {C : Nat → List PV → MH → Res PV} {k : Nat}
theorem t_mtNil {X : Cx} {E : XK} {name : Str} {to : TE} {σ : L2.St} {H : Hp} {Q : VK} (anti : ∀ {σ H Q Q'}, (∀ x H', Q x H' → Q' x H') → to σ H Q → to σ H Q') (h : tMA X name to (tVs S C E []) σ H Q) : tMA X name to tNil σ H Q := anti (fun x H1 ⟨T, id, a, b, r, n, m, k1, k2, g⟩ => ⟨T, id, a, b, g r H1 [] (Ext.refl _ _) k2 .nil⟩) h
theorem tV_imp {E : XK} {a : Ex} {σ : L2.St} {H : Hp} {Q Q' : VK} (i : ∀ x H', Q x H' → Q' x H') (h : tV S C E a σ H Q) : tV S C E a σ H Q' := by
  obtain ⟨r, n, m, k1, k2, g⟩ := h
  exact ⟨r, n, m, k1, k2, g.imp i⟩
theorem snd_call {f : Nat} {as : List Ex} (h : ∀ a ∈ as, Snd S G C k a) : Snd S G C k (.call f as) := snd_val rfl fun {D X E} g {e} q => by
  cases e <;> first | cases q | skip
  rename_i fn es ks p
  cases fn <;> first | cases q | skip
  rename_i x px
  cases ks with
  | cons _ _ => cases q
  | nil =>
    obtain ⟨q, q4⟩ := ands q
    obtain ⟨q, q3⟩ := ands q
    obtain ⟨q1, q2⟩ := ands q
    obtain ⟨a, fd, ps, F, _⟩ := g.gx.fn x f (d_eq q2)
    obtain ⟨l1, l2⟩ := g.gl q1
    obtain ⟨a1, a2⟩ := args_v h g q3 q4
    exact pe_callE F g.rk g.pas ⟨l1, l2, q3⟩ a1 a2
theorem snd_bi {b : Bi} {as : List Ex} (h : ∀ a ∈ as, Snd S G C k a) : Snd S G C k (.bi b as) := snd_val rfl fun {D X E} g {e} q => by
  cases e <;> first | cases q | skip
  rename_i fn es ks p
  cases fn <;> first | cases q | skip
  rename_i x px
  match es, ks, q with
  | y :: es, [], q =>
    obtain ⟨q, q3⟩ := ands q
    obtain ⟨q1, q2⟩ := ands q
    cases d_eq q1
    have B := g.bl q2
    exact pe_biE g.K g.calm B (args_v h g B.pl q3).2
  | [], _, q => cases q
  | _ :: _, _ :: _, q => cases q
theorem snd_bl {b : Bl} {a : Ex} (ha : Snd S G C k a) : Snd S G C k (.bl b a) := snd_val rfl fun {D X E} g {e} q => by
  cases e <;> first | cases q | skip
  rename_i fn es ks p
  cases fn <;> first | cases q | skip
  rename_i x px
  match es, ks, q with
  | [y], [], q =>
    obtain ⟨q, q4⟩ := ands q
    obtain ⟨q, q3⟩ := ands q
    obtain ⟨q1, q2⟩ := ands q
    cases d_eq q2
    exact pe_blE2 g.K g.calm (of_decide_eq_true q1) (g.bl q3) (ha.v g q4)
  | [], _, q => cases q
  | [_], _ :: _, q => cases q
  | _ :: _ :: _, _, q => cases q
theorem snd_isi {t : Ty} {a : Ex} (ha : Snd S G C k a) : Snd S G C k (.isi t a) := snd_val rfl fun {D X E} g {e} q => by
  cases e <;> first | cases q | skip
  rename_i fn es ks p
  cases fn <;> first | cases q | skip
  rename_i x px
  match es, ks, q with
  | [y, w], [], q =>
    cases w <;> first | cases q | skip
    rename_i z pz
    obtain ⟨q, q5⟩ := ands q
    obtain ⟨q, q4⟩ := ands q
    obtain ⟨q, q3⟩ := ands q
    obtain ⟨q1, q2⟩ := ands q
    cases d_eq q1
    cases d_eq q2
    have B := g.bl q3
    exact pe_isiE g.K ⟨B.gl, B.mg, B.nm, B.db, B.pl⟩ (g.bl q4) (ha.v g q5)
  | [], _, q => cases q
  | [_], _, q => cases q
  | [_, z], _ :: _, q => cases z <;> cases q
  | _ :: z :: _ :: _, _, q => cases z <;> cases q
theorem snd_tof {a : Ex} (ha : Snd S G C k a) : Snd S G C k (.tof a) := snd_val rfl fun {D X E} g {e} q => by
  cases e <;> first | cases q | skip
  rename_i fn es ks p
  cases fn <;> first | cases q | skip
  rename_i x px
  match es, ks, q with
  | [y], [], q =>
    obtain ⟨q, q3⟩ := ands q
    obtain ⟨q1, q2⟩ := ands q
    cases d_eq q1
    exact pe_tofE g.K g.calm (g.bl q2) (ha.v g q3)
  | [], _, q => cases q
  | [_], _ :: _, q => cases q
  | _ :: _ :: _, _, q => cases q
theorem snd_lof {a : Ex} (ha : Snd S G C k a) : Snd S G C k (.lof a) := snd_val rfl fun {D X E} g {e} q => by
  cases e <;> first | cases q | skip
  rename_i fn es ks p
  cases fn <;> first | cases q | skip
  rename_i x px
  match es, ks, q with
  | [y], [], q =>
    obtain ⟨q, q3⟩ := ands q
    obtain ⟨q1, q2⟩ := ands q
    cases d_eq q1
    exact pe_lofE g.K g.calm (g.bl q2) (ha.v g q3)
  | [], _, q => cases q
  | [_], _ :: _, q => cases q
  | _ :: _ :: _, _, q => cases q
theorem snd_rng1 {a : Ex} (ha : Snd S G C k a) : Snd S G C k (.rng1 a) := snd_val rfl fun {D X E} g {e} q => by
  cases e <;> first | cases q | skip
  rename_i fn es ks p
  cases fn <;> first | cases q | skip
  rename_i x px
  match es, ks, q with
  | [y], [], q =>
    obtain ⟨q, q3⟩ := ands q
    obtain ⟨q1, q2⟩ := ands q
    cases d_eq q1
    exact pe_rng1E (g.bl q2) (ha.v g q3)
  | [], _, q => cases q
  | [_], _ :: _, q => cases q
  | _ :: _ :: _, _, q => cases q
theorem snd_rng2 {a b : Ex} (ha : Snd S G C k a) (hb : Snd S G C k b) : Snd S G C k (.rng2 a b) := snd_val rfl fun {D X E} g {e} q => by
  cases e <;> first | cases q | skip
  rename_i fn es ks p
  cases fn <;> first | cases q | skip
  rename_i x px
  match es, ks, q with
  | [y, z], [], q =>
    obtain ⟨q, q4⟩ := ands q
    obtain ⟨q, q3⟩ := ands q
    obtain ⟨q1, q2⟩ := ands q
    cases d_eq q1
    exact pe_rng2E (g.bl q2) (ha.v g q3) (hb.v g q4)
  | [], _, q => cases q
  | [_], _, q => cases q
  | [_, _], _ :: _, q => cases q
  | _ :: _ :: _ :: _, _, q => cases q
theorem snd_zip {a b : Ex} (ha : Snd S G C k a) (hb : Snd S G C k b) : Snd S G C k (.zip a b) where
  v := fun g e q => by cases q
  t := fun g e q => by cases q
  i := fun {D X E} g {tg tge e} q hm => by
    cases e <;> first | cases q | skip
    rename_i fn es ks p
    cases fn <;> first | cases q | skip
    rename_i x px
    match es, ks, q with
    | [y, z], [], q =>
      obtain ⟨q, q5⟩ := ands q
      obtain ⟨q, q4⟩ := ands q
      obtain ⟨q, q3⟩ := ands q
      obtain ⟨q1, q2⟩ := ands q
      cases d_eq q2
      obtain ⟨es, kk, p, rfl⟩ := hm q1
      exact pi_zipE q1 g.K (g.bl q3) (ha.v g q4) (hb.v g q5)
    | [], _, q => cases q
    | [_], _, q => cases q
    | [_, _], _ :: _, q => cases q
    | _ :: _ :: _ :: _, _, q => cases q
theorem snd_enu {a : Ex} (ha : Snd S G C k a) : Snd S G C k (.enu a) where
  v := fun g e q => by cases q
  t := fun g e q => by cases q
  i := fun {D X E} g {tg tge e} q hm => by
    cases e <;> first | cases q | skip
    rename_i fn es ks p
    cases fn <;> first | cases q | skip
    rename_i x px
    match es, ks, q with
    | [y], [], q =>
      obtain ⟨q, q4⟩ := ands q
      obtain ⟨q, q3⟩ := ands q
      obtain ⟨q1, q2⟩ := ands q
      cases d_eq q2
      obtain ⟨es, kk, p, rfl⟩ := hm q1
      exact pi_enuE q1 g.K (g.bl q3) (ha.v g q4)
    | [], _, q => cases q
    | [_], _ :: _, q => cases q
    | _ :: _ :: _, _, q => cases q
theorem snd_srt {a : Ex} (ha : Snd S G C k a) : Snd S G C k (.srt a) := snd_val rfl fun {D X E} g {e} q => by
  cases e <;> first | cases q | skip
  rename_i fn es ks p
  cases fn <;> first | cases q | skip
  rename_i x px
  match es, ks, q with
  | [y], [], q =>
    obtain ⟨q, q3⟩ := ands q
    obtain ⟨q1, q2⟩ := ands q
    cases d_eq q1
    exact pe_srtE g.K (g.bl q2) (ha.v g q3)
  | [], _, q => cases q
  | [_], _ :: _, q => cases q
  | _ :: _ :: _, _, q => cases q
theorem snd_lcat {a b : Ex} (ha : Snd S G C k a) (hb : Snd S G C k b) : Snd S G C k (.lcat a b) := snd_val rfl fun {D X E} g {e} q => by
  cases e <;> first | cases q | skip
  rename_i l o r p
  cases o <;> first | cases q | skip
  obtain ⟨q1, q2⟩ := ands q
  exact pe_lcat (ha.v g q1) (hb.v g q2)
theorem snd_lrep {a b : Ex} (ha : Snd S G C k a) (hb : Snd S G C k b) : Snd S G C k (.lrep a b) := snd_val rfl fun {D X E} g {e} q => by
  cases e <;> first | cases q | skip
  rename_i l o r p
  cases o <;> first | cases q | skip
  obtain ⟨q1, q2⟩ := ands q
  exact pe_lrep (ha.v g q1) (hb.v g q2)
theorem snd_mt {m : Mt} {o : Ex} {as : List Ex} (ho : Snd S G C k o) (h : ∀ a ∈ as, Snd S G C k a) : Snd S G C k (.mt m o as) := snd_val rfl fun {D X E} g {e} q => by
  cases e <;> first | cases q | skip
  rename_i fn es ks cp
  cases fn <;> first | cases q | skip
  rename_i x f ap
  cases ks with
  | cons _ _ => cases q
  | nil =>
    obtain ⟨q, q6⟩ := ands q
    obtain ⟨q, q5⟩ := ands q
    obtain ⟨q, q4⟩ := ands q
    obtain ⟨q, q3⟩ := ands q
    obtain ⟨q, q2⟩ := ands q
    obtain ⟨q1, qb⟩ := ands q
    cases d_eq q1
    obtain ⟨a1, a2⟩ := args_v h g q2 q6
    cases es with
    | nil =>
      cases as with
      | cons _ _ => cases a1
      | nil =>
        refine pe_mono (pe_mtA0 (pe_val (ho.v g q5)) qb q4) fun σ H Q hh => ?_
        exact t_mtNil (fun i h => tV_imp i h) (t_mt g.K g.un hh)
    | cons e es => exact pe_mono (pe_mtA (pe_val (ho.v g q5)) a2 qb q2 (of_decide_eq_true q3) q4) fun σ H Q hh => t_mt g.K g.un hh
theorem snd_callk {f : Nat} {as : List Ex} {pm : List Nat} (h : ∀ a ∈ as, Snd S G C k a) : Snd S G C k (.callk f as pm) := snd_val rfl fun {D X E} g {e} q => by
  cases e <;> first | cases q | skip
  rename_i fn es ks p
  cases fn <;> first | cases q | skip
  rename_i x px
  obtain ⟨q, q5⟩ := ands q
  obtain ⟨q, q4⟩ := ands q
  obtain ⟨q, q3⟩ := ands q
  obtain ⟨q1, q2⟩ := ands q
  obtain ⟨a, fd, ps, F, KF⟩ := g.gx.fn x f (d_eq q2)
  obtain ⟨l1, l2⟩ := g.gl q1
  obtain ⟨kq, m1, m2⟩ := List.any_eq_true.mp q5
  obtain ⟨m2, m5⟩ := ands m2
  obtain ⟨m3, m4⟩ := ands m2
  obtain ⟨kf, hps⟩ := KF kq m1
  rw [d_eq m5, d_eq m3] at kf
  obtain ⟨a1, a2⟩ := all_v h g q4
  rw [List.length_append, List.length_map] at a1
  have hlk : kq.2.1.length = ks.length := by
    have := congrArg List.length (d_eq m4)
    simpa using this
  have e1 : (as.take es.length).length = es.length := by rw [List.length_take]; omega
  have e2 : (as.drop es.length).length = ks.length := by rw [List.length_drop]; omega
  have hz : (es ++ ks.map kwE).zip (as.take es.length ++ as.drop es.length) = es.zip (as.take es.length) ++ (ks.map kwE).zip (as.drop es.length) := List.zip_append e1.symm
  rw [List.take_append_drop] at hz
  rw [hz] at a2
  have r1 : PA X es (tVs S C E (as.take es.length)) := pa_evs (fun p hp => a2 p (List.mem_append.mpr (.inl hp))) e1.symm q3
  have r2 : PK X ks (tVs S C E (as.drop es.length)) := pk_evs (fun p hp => a2 (kwE p.1, p.2) (List.mem_append.mpr (.inr (by
    rw [List.zip_map_left]
    exact List.mem_map.mpr ⟨p, hp, rfl⟩)))) e2.symm
  have key := pe_callkE (p := px) (pos := p) F g.rk g.pas ⟨l1, l2, q3⟩ kf hps (d_eq m4).symm e1 (e2.trans hlk.symm) r1 r2 (fun z => by rw [z]; rfl)
  rw [List.take_append_drop] at key
  exact key
theorem snd_ext {o a : Ex} (ho : Snd S G C k o) (ha : Snd S G C k a) : Snd S G C k (.ext o a) := snd_val rfl fun {D X E} g {e} q => by
  cases e <;> first | cases q | skip
  rename_i fn es ks cp
  cases fn <;> first | cases q | skip
  rename_i x f ap
  match es, ks, q with
  | [y], [], q =>
    obtain ⟨q, q6⟩ := ands q
    obtain ⟨q, q5⟩ := ands q
    obtain ⟨q, q4⟩ := ands q
    obtain ⟨q, q3⟩ := ands q
    obtain ⟨q1, q2⟩ := ands q
    cases d_eq q1
    refine pe_mono (pe_mtA (pe_val (ho.v g q5)) (pa_one (ha.v g q6) q3) q2 (by rw [List.all_cons, q3]; rfl) (by show 1 < 20; decide) q4) fun σ H Q hh => ?_
    obtain ⟨r, n, m, k1, k2, g1⟩ := hh
    rw [evX] at g1
    refine ⟨r, n, m, k1, k2, g1.bind fun v m1 r1 H1 x _ e1 k3 q g1 => ?_⟩
    obtain ⟨b, g1⟩ := g1.guard
    cases v with
    | loc l =>
      refine ⟨_, _, mo_extend, recv_list g.K k3 q b, r1, n, m1, k1.ext e1, k3, g1.bind fun z m2 r2 H2 y2 _ e2 k4 q2 g2 => ?_⟩
      obtain ⟨ys, t1, g2⟩ := g2.toM
      obtain ⟨p, us, rfl, h1, h2⟩ := listM (r0 := r2) q2 (Ext.refl _ _) k4 t1
      have g3 : GE S (Rv S) r2 H2 Q E (extV (.loc l) ys m2) := gx_val g2
      obtain ⟨zs, hw, g3⟩ := GE.ofW g3
      obtain ⟨b3, g3⟩ := GE.guard g3
      obtain ⟨al, rfl, hal⟩ := (RV.ext e2 q).loc_inv
      obtain ⟨ws, w1, w2⟩ := k4.wlist hal hw
      exact fun pins s σ v us' I rx rv => mt_extend pins s σ H2 _ _ v us' Q I rx rv ⟨al, p, ws, us, rfl, rfl, w1, h1, by
        rw [← w2.length, ← h2.length]
        exact of_decide_eq_true b3, ge_wlist k4 hal w1 (w2.append h2) .non g3⟩
    | _ => cases b
  | [], _, q => cases q
  | [_], _ :: _, q => cases q
  | _ :: _ :: _, _, q => cases q
theorem snd_lam {f : Nat} {a : Ex} (ha : Snd S G C k a) : Snd S G C k (.lam f a) := snd_val rfl fun {D X E} g {e} q => by
  cases e <;> first | cases q | skip
  rename_i fn es ks cp
  cases fn <;> first | cases q | skip
  rename_i x px
  match es, ks, q with
  | [w], [], q =>
    cases w <;> first | cases q | skip
    rename_i ps b scope pl
    obtain ⟨q, q6⟩ := ands q
    obtain ⟨q, q5⟩ := ands q
    obtain ⟨q, q4⟩ := ands q
    obtain ⟨q, q3⟩ := ands q
    obtain ⟨q1, q2⟩ := ands q
    obtain ⟨l1, l2⟩ := g.gl q2
    obtain ⟨gg, CS, ff, R, c1, c2⟩ := g.gx.ref x f (d_eq q3)
    have hps : ps = ⟨[], [], none, [], [], none, []⟩ := by
      unfold noArgs at q4
      split at q4
      · rfl
      · cases q4
    subst hps
    have rm : Room (k + 2) X.A := by
      rcases g.room with h | ⟨h, _⟩
      · exact h
      · rw [q1] at h
        cases h
    refine pe_lamE l1 l2 R c1 c2 ⟨g.lam q1, ?_, rfl, fun q body cl pm cv ctv => rfl⟩ rm fun A outer s H E' fl c' hr => ha.v (g.lamb (E' := E') hr) q6
    rw [g.sc]
    exact LamX.lamS_by q5
  | [], _, q => cases q
  | [z], _ :: _, q => cases z <;> cases q
  | z :: _ :: _, _, q => cases z <;> cases q
theorem snd_srs {a : Ex} (ha : Snd S G C k a) : Snd S G C k (.srs a) := snd_val rfl fun {D X E} g {e} q => by
  cases e <;> first | cases q | skip
  rename_i fn es ks p
  cases fn <;> first | cases q | skip
  rename_i x px
  cases es with
  | nil => cases q
  | cons w es =>
  cases w <;> first | cases q | skip
  rename_i fn2 es2 ks2 p2
  cases fn2 <;> first | cases q | skip
  rename_i y py
  cases es2 with
  | nil => cases q
  | cons z es2 =>
  cases es2 with
  | cons _ _ => cases q
  | nil =>
  cases ks2 with
  | cons _ _ => cases q
  | nil =>
  cases es with
  | cons _ _ => cases q
  | nil =>
  cases ks with
  | cons _ _ => cases q
  | nil =>
    obtain ⟨q, q5⟩ := ands q
    obtain ⟨q, q4⟩ := ands q
    obtain ⟨q, q3⟩ := ands q
    obtain ⟨q1, q2⟩ := ands q
    cases d_eq q1
    cases d_eq q2
    exact pe_srsE g.K g.calm g.un (g.bl q3) (g.bl q4) (ha.v g q5)
theorem keys_len : ∀ {keys : List (Option Expr)} {ks : List Str}, keysB keys ks = true → keys.length = ks.length ∧ keys.all (·.isSome) = true
  | [], [], _ => ⟨rfl, rfl⟩
  | [], _ :: _, h => by cases h
  | none :: _, _, h => by cases h
  | some e :: r, [], h => by cases e <;> first | (cases h; done) | (rename_i c _ _; cases c <;> cases h)
  | some e :: r, k :: ks, h => by
    cases e <;> first | (cases h; done) | skip
    rename_i c _ _
    cases c <;> first | (cases h; done) | skip
    obtain ⟨h1, h2⟩ := ands h
    obtain ⟨l1, l2⟩ := keys_len h2
    exact ⟨by rw [List.length_cons, List.length_cons, l1], by rw [List.all_cons, l2]; rfl⟩
theorem pps_of {X : Cx} {E : XK} {p2 : Pos} : ∀ {keys : List (Option Expr)} {values : List Expr} {ks : List Str} {as : List Ex}, keysB keys ks = true → ks.length = as.length → values.length = as.length → (∀ p ∈ values.zip as, PE X p.1 (tV S C E p.2)) → PPs X p2 keys values (trsK S C E ks as)
  | [], [], [], [], _, _, _, _ => pps_nil
  | [], _, _ :: _, _, h, _, _, _ => by cases h
  | none :: _, _, _, _, h, _, _, _ => by cases h
  | some e :: r, _, [], _, h, _, _, _ => by cases e <;> first | (cases h; done) | (rename_i c _ _; cases c <;> cases h)
  | some e :: r, v :: values, k :: ks, a :: as, h, hl, hv, hp => by
    cases e <;> first | (cases h; done) | skip
    rename_i c _ _
    cases c <;> first | (cases h; done) | skip
    obtain ⟨h1, h2⟩ := ands h
    cases d_eq h1
    exact pps_cons pe_str (hp (v, a) (by simp)) (pps_of h2 (by simpa using hl) (by simpa using hv) fun p hm => hp p (by simp [hm]))
  | some _ :: _, [], _ :: _, a :: as, _, _, hv, _ => by simp at hv
  | some _ :: _, _, _ :: _, [], _, hl, _, _ => by simp at hl
  | [], _ :: _, [], [], _, _, hv, _ => by simp at hv
  | [], _, [], _ :: _, _, hl, _, _ => by simp at hl
theorem snd_pick {ks : List Str} {as : List Ex} {i : Ex} (h : ∀ a ∈ as, Snd S G C k a) (hi : Snd S G C k i) : Snd S G C k (.pick ks as i) := snd_val rfl fun {D X E} g {e} q => by
  cases e <;> first | cases q | skip
  rename_i d y p
  cases d <;> first | cases q | skip
  rename_i keys values p2
  obtain ⟨q, q8⟩ := ands q
  obtain ⟨q, q7⟩ := ands q
  obtain ⟨q, q6⟩ := ands q
  obtain ⟨q, q5⟩ := ands q
  obtain ⟨q, q4⟩ := ands q
  obtain ⟨q, q3⟩ := ands q
  obtain ⟨q1, q2⟩ := ands q
  obtain ⟨l1, l2⟩ := keys_len q2
  obtain ⟨a1, a2⟩ := all_v h g q6
  have q3 := of_decide_eq_true q3
  have q4 := of_decide_eq_true q4
  have q7 := of_decide_eq_true q7
  exact pe_pickE g.un (pps_of q2 q7 a1 a2) l2 (by omega) (by intro z; rw [z] at l1; simp at l1; omega) (by omega) q4 q7 (of_decide_eq_true q5) (hi.v g q8) (nosl_ok q1)
end Mi
end

section
set_option autoImplicit false
set_option Elab.async false
set_option linter.all false
set_option maxRecDepth 100000
set_option maxHeartbeats 1000000
namespace Mi
open PySem PySem.Spec PyProof.Rows L2
variable {S : Fx} {G : Gs} {C : Nat → List PV → MH → Res PV} {k : Nat}
theorem snd_srk {a : Ex} (ha : Snd S G C k a) : Snd S G C k (.srk a) := snd_val rfl fun {D X E} g {e} q => by
  cases e <;> first | cases q | skip
  rename_i fn es ks p
  cases fn <;> first | cases q | skip
  rename_i x px
  match es, ks, q with
  | [y], [], q =>
    obtain ⟨q, q3⟩ := ands q
    obtain ⟨q1, q2⟩ := ands q
    cases d_eq q1
    exact pe_srkE g.K g.calm (g.bl q2) (ha.v g q3)
  | [], _, q => cases q
  | [_], _ :: _, q => cases q
  | _ :: _ :: _, _, q => cases q
theorem snd_lset {a : Ex} (ha : Snd S G C k a) : Snd S G C k (.lset a) := snd_val rfl fun {D X E} g {e} q => by
  cases e <;> first | cases q | skip
  rename_i fn es ks p
  cases fn <;> first | cases q | skip
  rename_i x px
  match es, ks, q with
  | [.Call (.Name y p2) [z] [] p3], [], q =>
    obtain ⟨q, q5⟩ := ands q
    obtain ⟨q, q4⟩ := ands q
    obtain ⟨q, q3⟩ := ands q
    obtain ⟨q1, q2⟩ := ands q
    cases d_eq q1
    cases d_eq q2
    exact pe_lsetE g.K g.calm g.un (g.bl q3) (g.bl q4) (ha.v g q5)
theorem snd_dct {as : List Ex} : Snd S G C k (.dct as) := snd_val rfl fun {D X E} g {e} q => by
  cases e <;> first | cases q | skip
  rename_i ks vs p
  match ks, vs, as, q with
  | [], [], [], q =>
    refine pe_mono pe_dnewK fun σ H Q ⟨r, n, m, k1, k2, g⟩ => fun p hp => ?_
    rw [evX] at g
    have g : GE S (Rx S) r H Q E (.ok (.val (.loc m.length)) (m ++ [.dct []])) := by
      have e : evs S.P C [] n m = .ok [] m := by rw [evs]
      rw [e] at g
      exact g
    refine g (r ++ [p]) _ _ (ext_push hp (k2.out hp)) (k2.push hp (o := .dct []) (.inl ⟨[], upd_same, List.nodup_nil, .nil⟩)) (.loc ?_)
    rw [← k2.len, List.getElem?_append_right (Nat.le_refl _), Nat.sub_self]
    rfl
section
variable {X : Cx} {E : XK}
theorem mo_setd : MtO "setdefault" "dict" "dict.setdefault" := ⟨PySem.F.plainAttrs_dict, PySem.F.slot_dict_setdefault, PySem.F.type_dict_setdefault⟩
theorem recv_dct {r : List Addr} {H : Hp} {a : Addr} {kvs : List (PV × PV)} (d : DctR S r H a kvs) : TyG X "dict" (.ref a) H := by
  intro pins σ s v I rv
  cases (show v = Value.ref a from rv)
  refine ⟨dct_type I d, fun b e => ?_⟩
  cases e
  rcases d with ⟨ks, h1, h2, h3⟩ | ⟨xs, h1, h2, h3, h4⟩
  · obtain ⟨z, hd, vs, rel, dd⟩ := dk_of I.hok h1
    obtain ⟨o, es, ep, g1, g2, _⟩ := dd
    exact ⟨o, g1, g2.2.1⟩
  · obtain ⟨⟨o, es, ep, g1, g2, g3, g4, g5⟩, _⟩ := (show ObjOk X.prog X.w H s.heap a (DNO S.prog S.w a xs) from I.hok a _ h1)
    exact ⟨o, g1, g2.2.1⟩
theorem setd_run {r t : List Addr} {H : Hp} {a : Addr} {kvs : List (PV × PV)} {kk vd : PV} {y z : V} {Q : VK} (hK : X.K = S.K) (hw : X.w = S.w) (hu : X.A.units + 65 < cLine) (d : DctR S r H a kvs) (hk : RV S.K r H kk y) (h1 : kOk kk kvs = true) (h2 : kvs.length < sizeLine) (hv : RV S.K (r ++ t) H vd z)
    (q1 : ∀ w y', look kk kvs = some w → RV S.K r H w y' → Q y' H) (q2 : look kk kvs = none → ∀ o', DctO S (r ++ t) H a (put kk vd kvs) o' → Q z (upd H a o')) : CallM X "dict.setdefault" (.ref a) [y, z] H Q := by
  intro pins s σ v us I rx rv
  cases (show v = Value.ref a from rx)
  cases rv with
  | cons ry rt =>
    cases rt with
    | cons rz rt =>
      cases rt
      rename_i u1 u2
      obtain ⟨k1, k2, k3⟩ := kOk_parts h1
      have mu : Mut (H a) := by
        rcases d with ⟨ks, h1, _⟩ | ⟨xs, h1, _⟩
        · rw [h1]; exact True.intro
        · rw [h1]; exact True.intro
      cases n : isTupP kk with
      | true =>
        obtain ⟨b, rfl⟩ := tup_rel hk n
        cases (show u1 = Value.ref b from ry)
        obtain ⟨nk, e1, e2⟩ := nkey_some kk k1
        obtain ⟨xs, dd, hd, hz, dt⟩ := dct_T hK hw I d (fun p hp => (k3 p hp).trans n)
        have is : (nestedKind X.prog X.w).is s.heap nk b := ⟨nested_of I (y := .ref b) (by rw [hK]; exact hk) (show RelV (.ref b) (Value.ref b) from rfl) e1, by omega⟩
        have nd : (xs.map (·.1)).Nodup := by obtain ⟨_, _, _, _, _, _, _, _, nd⟩ := dd; exact nd
        have hl : (storedH xs nk b u2).length ≤ sizeLine := by
          have := storedH_len xs nk b u2
          have := Paired.length dt
          omega
        refine call_setdefault_heap (hsz := hz) (room_n hu) is hd dd (fun p hp => ?_) fun hn h' dd' hs => ?_
        · obtain ⟨i1, i2⟩ := look_T e1 dt
          cases c : look kk kvs with
          | none => rw [i2 c] at hp; cases hp
          | some w =>
            obtain ⟨p', y', j1, j2, j3⟩ := i1 w c
            rw [hp] at j1
            cases j1
            exact ⟨y', H, I.tok _, j2, q1 w y' c j3⟩
        · have c : look kk kvs = none := by
            cases c : look kk kvs with
            | none => rfl
            | some w => obtain ⟨p', y', j1, _⟩ := (look_T e1 dt).1 w c; rw [hn] at j1; cases j1
          have he : ∃ z, h'.get? a = some z := let ⟨z, _, _, hq, _⟩ := dd'; ⟨z, hq⟩
          have dt2 : DTs S.K (r ++ t) H kvs xs := Paired.mapP dt fun p q ⟨z1, z2, y, z3, z4⟩ => ⟨z1, z2.more t, y, z3, z4.more t⟩
          exact ⟨z, _, d_write I mu hs he (by rw [← hw]; exact dno_ok dd'), rz, q2 c _ (.inr ⟨_, rfl, hd, hl, put_T e1 (by omega) (hk.more t) hv rz dt2 nd⟩)⟩
      | false =>
        obtain ⟨c, rfl⟩ := atom_of k1 n
        cases atom_rel hk
        obtain ⟨ks, vs, rel, dd, hd, hz, nd, dk⟩ := dct_K hK hw I d (fun p hp => (k3 p hp).trans n)
        have hzv : vs.length ≤ sizeLine := by rw [← rel.length]; exact hz
        have hl : (putK ks c z).length ≤ sizeLine := by
          have := length_putK ks c z
          have := Paired.length dk
          omega
        obtain ⟨i1, i2⟩ := look_K c dk
        refine call_meetsIn PySem.F.slot_dict_setdefault dd.typeIs PySem.F.entry_dict_setdefault (PySem.F.args_dict_setdefault_3 _ _ _) (kt_meets_setdefault (mixKind X.prog X.w) a (kV_is ry) hd _) ⟨vs, dd, hzv, fun v hv => ?_, fun hn h' dd' hs => ?_⟩
        · cases cc : look (keyP c) kvs with
          | none =>
            have := (rel.val c)
            rw [i2 cc, hv] at this
            exact this.elim
          | some w =>
            obtain ⟨y', j1, j2⟩ := i1 w cc
            have z := rel.val c
            rw [j1, hv] at z
            exact ⟨y', H, I.tok _, z, q1 w y' cc j2⟩
        · have cc : look (keyP c) kvs = none := by
            cases cc : look (keyP c) kvs with
            | none => rfl
            | some w =>
              obtain ⟨y', j1, j2⟩ := i1 w cc
              have z := rel.val c
              rw [j1, hn] at z
              exact z.elim
          have he : ∃ z, h'.get? a = some z := let ⟨z, _, _, hq, _⟩ := dd'; ⟨z, hq⟩
          have dk2 : DKs S.K (r ++ t) H kvs ks := Paired.mapP dk fun p q z => ⟨z.1, z.2.more t⟩
          exact ⟨z, _, d_write I mu hs he (dk_new hl hd (rel.put c rz) dd'), rz, q2 cc _ (.inl ⟨_, rfl, nd_put c z nd, put_K c hv dk2 nd⟩)⟩
theorem isVar_is {v : Ex} (h : isVar v = true) : ∃ i, v = .var i := by
  cases v <;> first | exact ⟨_, rfl⟩ | cases h
theorem set_tail {α : Type} : ∀ (l : List α) (x y : α), (l ++ [x]).set l.length y = l ++ [y]
  | [], x, y => rfl
  | a :: l, x, y => by
    show a :: (l ++ [x]).set l.length y = _
    rw [set_tail l x y]
    rfl
theorem snd_sda {d b v : Ex} (hd : Snd S G C k d) (hb : Snd S G C k b) (hv : Snd S G C k v) : Snd S G C k (.sda d b v) := snd_val rfl fun {D X E} g {e} q => by
  cases e <;> first | cases q | skip
  rename_i fn es ks cp2
  match fn, es, ks, q with
  | .Attribute (.Call (.Attribute x f ap) [y, .List [] lp] [] cp) f2 ap2, [z], [], q =>
    obtain ⟨p0, q10⟩ := ands q
    clear q
    obtain ⟨qv, q10⟩ := ands q10
    obtain ⟨i, rfl⟩ := isVar_is qv
    obtain ⟨q, q9⟩ := ands p0
    obtain ⟨q, q8⟩ := ands q
    obtain ⟨q, q7⟩ := ands q
    obtain ⟨q, q6⟩ := ands q
    obtain ⟨q, q5⟩ := ands q
    obtain ⟨q, q4⟩ := ands q
    obtain ⟨q, q3⟩ := ands q
    obtain ⟨q1, q2⟩ := ands q
    cases d_eq q1
    cases d_eq q2
    have inner := pe_mtA (cpos := cp) (name := ("setdefault" : Str)) (apos := ap) (pe_val (hd.v g q8)) (pa_cons (pe_val (hb.v g q9)) (pa_cons (pe_lst (pos := lp) pa_nil) pa_nil) (star_plain q6 _ _)) q3 (by rw [List.all_cons, q6]; rfl) (by show 2 < 20; decide) q4
    refine pe_mono (pe_mtA inner (pa_one (hv.v g q10) q7) rfl (by rw [List.all_cons, q7]; rfl) (by show 1 < 20; decide) q5) fun σ H Q hh => ?_
    obtain ⟨r, n, m, k1, k2, g1⟩ := hh
    rw [evX] at g1
    refine ⟨r, n, m, k1, k2, g1.bind fun d m1 r1 H1 x _ e1 k3 qd g1 => ?_⟩
    obtain ⟨gb, g1⟩ := g1.guard
    cases d with
    | loc l =>
      cases hdm : dictAt m1 l with
      | none => unfold isDct at gb; simp only [hdm] at gb; cases gb
      | some kvs0 =>
        have hm : m1[l]? = some (.dct kvs0) := by
          unfold dictAt at hdm
          split at hdm
          · rename_i zs h
            cases hdm
            exact h
          · cases hdm
        obtain ⟨a, rfl, hla⟩ := RV.loc_inv qd
        refine ⟨_, _, mo_setd, recv_dct (k3.obj l a _ hla hm), r1, n, m1, k1.ext e1, k3, g1.bind fun kk m2 r2 H2 y2 _ e2 k4 qk g2 => ?_⟩
        refine ⟨Nat.zero_le _, fun p hp => ?_⟩
        have kx := (k1.ext e1).ext e2
        have hvar : ∃ w, n[i]? = some (some w) := by
          cases hn : n[i]? with
          | none => simp only [evX, hn] at g2; exact (show False from g2).elim
          | some o =>
            cases o with
            | none => simp only [evX, hn] at g2; exact (show False from g2).elim
            | some w => exact ⟨w, rfl⟩
        obtain ⟨w, hn⟩ := hvar
        have evar : ∀ m, evX S.P C (.var i) n m = .ok (.val w) m := fun m => by simp only [evX, hn]
        rw [evar] at g2
        have g2 : GE S (Rx S) r2 H2 Q E ((sdaV (.loc l) kk w m2).bind fun u m => .ok (.val u) m) := g2
        have g3 : GE S (Rv S) r2 H2 Q E (sdaV (.loc l) kk w m2) := gx_val g2
        cases hd2 : dictAt m2 l with
        | none => simp only [sdaV, hd2] at g3; exact (show False from g3).elim
        | some kvs =>
          simp only [sdaV, hd2] at g3
          obtain ⟨gb2, g4⟩ := g3.guard
          obtain ⟨b1, b2⟩ := ands gb2
          have b2 := of_decide_eq_true b2
          have hm2 : m2[l]? = some (.dct kvs) := by
            unfold dictAt at hd2
            split at hd2
            · rename_i zs h
              cases hd2
              exact h
            · cases hd2
          have hla2 : r2[l]? = some a := by
            obtain ⟨b, hb, hb2⟩ := RV.loc_inv (RV.ext e2 qd)
            cases hb
            exact hb2
          have D2 : DctR S r2 H2 a kvs := k4.obj l a _ hla2 hm2
          have en : Ext r2 r2 H2 (upd H2 p (.lst [])) := ext_new hp
          have pr : p ∉ r2 := k4.out hp
          have pa' : a ≠ p := fun z => pr (by rw [← z]; exact List.mem_of_getElem? hla2)
          have ha' : (upd H2 p (.lst [])) a = H2 a := upd_ne pa'
          have D3 : DctR S r2 (upd H2 p (.lst [])) a kvs := DctR.to D2 ha' fun v y z => z.ext en
          have k5 : RH S r2 m2 (upd H2 p (.lst [])) := k4.beside hp
          have k6 : RH S (r2 ++ [p]) (m2 ++ [MO.lst []]) (upd H2 p (.lst [])) := k5.adopt upd_same .nil pr
          have lenr : r2.length = m2.length := k4.len
          have locp : RV S.K (r2 ++ [p]) (upd H2 p (.lst [])) (PV.loc m2.length) (.ref p) := .loc (by
            rw [← lenr, List.getElem?_append_right (Nat.le_refl _), Nat.sub_self]
            rfl)
          refine setd_run (t := [p]) g.K g.w g.un D3 (RV.ext en qk) b1 b2 locp (fun w' y' c hw' => ?_) fun c o' ho' => ?_
          · rw [c] at g4
            cases w' with
            | loc j =>
              cases hwl : wlistAt m2 j with
              | none => simp only [hwl] at g4; exact (show False from g4).elim
              | some xs =>
                simp only [hwl] at g4
                obtain ⟨b3, g5⟩ := g4.guard
                refine ⟨_, _, mo_append, recv_list g.K k5 hw' (by
                  have : listAt m2 j = some xs := by
                    unfold wlistAt at hwl
                    unfold listAt
                    exact hwl
                  rw [this]; rfl), r2, n, m2, kx.ext en, k5, ?_⟩
                rw [evar]
                intro r7 H7 x9 e7 k7 q7
                refine app_run (E := E) k7 (RV.ext e7 hw') (.cons (show RV S.K r7 H7 w x9 from q7) .nil) ?_
                have : GE S (Rv S) r7 H7 Q E (guard (decide (xs.length < lineP)) (.ok .non (m2.set j (.lst (xs ++ [w]))))) := by
                  rw [b3]
                  exact GE.ext anti_v g5 (en.trans e7)
                simpa only [appV, hwl] using this
            | _ => exact (show False from g4).elim
          · rw [c] at g4
            have g5 : GE S (Rv S) r2 H2 Q E (.ok .non ((m2.set l (MO.dct (put kk (PV.loc m2.length) kvs))) ++ [.lst [w]])) := g4
            obtain ⟨o0, h0, _, ns, nt, nc⟩ := D3.o
            have hl3 : (r2 ++ [p])[l]? = some a := by
              rw [List.getElem?_append_left (List.getElem?_eq_some_iff.mp hla2).1]
              exact hla2
            have x7 : Ext (r2 ++ [p]) (r2 ++ [p]) (upd H2 p (.lst [])) (upd (upd H2 p (.lst [])) a o') := ext_write hl3 h0 ns
            have k7 : RH S (r2 ++ [p]) ((m2 ++ [MO.lst []]).set l (MO.dct (put kk (PV.loc m2.length) kvs))) (upd (upd H2 p (.lst [])) a o') := k6.writeX hl3 h0 ns nt nc (DctO.at_ ho' upd_same fun v y z => z.ext x7)
            have em : (m2 ++ [MO.lst []]).set l (MO.dct (put kk (PV.loc m2.length) kvs)) = m2.set l (MO.dct (put kk (PV.loc m2.length) kvs)) ++ [MO.lst []] := by
              have : l < m2.length := (List.getElem?_eq_some_iff.mp hm2).1
              rw [List.set_append_left _ _ this]
            rw [em] at k7
            have x8 : Ext r2 (r2 ++ [p]) H2 (upd (upd H2 p (.lst [])) a o') := (ext_push hp pr).trans x7
            have hat : listAt (m2.set l (MO.dct (put kk (PV.loc m2.length) kvs)) ++ [MO.lst []]) m2.length = some [] := by
              unfold listAt
              rw [List.getElem?_append_right (by rw [List.length_set]; exact Nat.le_refl _), List.length_set, Nat.sub_self]
              rfl
            have wat : wlistAt (m2.set l (MO.dct (put kk (PV.loc m2.length) kvs)) ++ [MO.lst []]) m2.length = some [] := by
              unfold wlistAt
              rw [List.getElem?_append_right (by rw [List.length_set]; exact Nat.le_refl _), List.length_set, Nat.sub_self]
              rfl
            refine ⟨_, _, mo_append, recv_list g.K k7 (RV.ext x7 locp) (by rw [hat]; rfl), r2 ++ [p], n, _, (kx.ext x8), k7, ?_⟩
            rw [evar]
            intro r9 H9 x9 e9 k9 q9
            refine app_run (E := E) k9 (RV.ext e9 (RV.ext x7 locp)) (.cons (show RV S.K r9 H9 w x9 from q9) .nil) ?_
            have : GE S (Rv S) r9 H9 Q E (guard (decide (([] : List PV).length < lineP)) (.ok .non ((m2.set l (MO.dct (put kk (PV.loc m2.length) kvs)) ++ [MO.lst []]).set m2.length (.lst ([] ++ [w]))))) := by
              have z := set_tail (m2.set l (MO.dct (put kk (PV.loc m2.length) kvs))) (MO.lst []) (MO.lst [w])
              rw [List.length_set] at z
              rw [List.nil_append, z]
              exact GE.ext anti_v g5 (x8.trans e9)
            simpa only [appV, wat] using this
    | _ => cases gb
end
end Mi
end

section
set_option autoImplicit false
set_option Elab.async false
set_option linter.all false
set_option maxRecDepth 100000
set_option maxHeartbeats 1000000
namespace Mi
open PySem PySem.Spec PyProof.Rows L2
variable {S : Fx} {G : Gs} {C : Nat → List PV → MH → Res PV} {k : Nat}
theorem own_ix (N : List Str) (is : List Nat) : (ownOf N is).map (·.2) = is := by
  unfold ownOf
  rw [List.map_map]
  exact List.map_id _
theorem tgB_many {D : Stat} {tg : Tgt} {e : Expr} (h : tgB D tg e = true) (hm : many tg = true) : ∃ es kk p, e = .Tuple es kk p := by
  cases tg with
  | one i => cases hm
  | _ =>
    unfold tgB at h
    split at h <;> first | contradiction | exact ⟨_, _, _, rfl⟩
theorem snd_lcm {own : List Nat} {tg : Tgt} {it a : Ex} {cs : List Ex} (hi : Snd S G C k it) (hc : ∀ c ∈ cs, Snd S G C k c) (ha : Snd S G C k a) : Snd S G C k (.lcm own tg it cs a) := snd_val rfl fun {D X E} g {e} q => by
  cases e <;> first | cases q | skip
  rename_i elt gs scope p
  match gs, q with
  | [⟨t, i, ifs, z⟩], q =>
    obtain ⟨q, q8⟩ := ands q
    obtain ⟨q, q7⟩ := ands q
    obtain ⟨q, q6⟩ := ands q
    obtain ⟨q, q5⟩ := ands q
    obtain ⟨q, q4⟩ := ands q
    obtain ⟨q, q3⟩ := ands q
    obtain ⟨q1, q2⟩ := ands q
    cases d_eq q1
    have gi := fun s H Ca cl fp => g.inner (scope := scope) s H Ca cl fp
    refine pe_lcmE (own := ownOf D.N own) g.K g.calm (by rw [g.N]; exact g.nd) (hi.i g q6 fun hm => tgB_many q5 hm) (by rw [g.N, g.sc]; exact blk_ok q3) (by rw [own_ix]; exact fun _ h => h) (by rw [own_ix]; exact of_decide_eq_true q4)
      (fun s H Ca cl fp => (gi s H Ca cl fp).tg q5) (fun s H Ca cl fp => ifs_v hc (gi s H Ca cl fp) q7) (fun s H Ca cl fp => ha.v (gi s H Ca cl fp) q8) (noSet_ok q2 _)
  | [], q => cases q
  | ⟨_, _, _, _⟩ :: _ :: _, q => cases q
mutual
theorem snd : ∀ (a : Ex), Snd S G C k a
  | .var i => snd_leaf_var i
  | .cst v => snd_cst v
  | .glb g => snd_glb g
  | .bin op a b => snd_bin (snd a) (snd b)
  | .neg a => snd_neg (snd a)
  | .cmp op a b => snd_cmp (snd a) (snd b)
  | .chn o1 o2 a b c => snd_chn (snd a) (snd b) (snd c)
  | .and a b => snd_and (snd a) (snd b)
  | .or a b => snd_or (snd a) (snd b)
  | .not a => snd_not (snd a)
  | .ife c a b => snd_ife (snd c) (snd a) (snd b)
  | .tup es => snd_tup (snds es)
  | .lst es => snd_lst (snds es)
  | .dct es => snd_dct
  | .pick ks es i => snd_pick (snds es) (snd i)
  | .idx a i => snd_idx (snd a) (snd i)
  | .slc a lo hi => snd_slc (snd a) (sndo lo) (sndo hi)
  | .rev a => snd_none rfl
  | .call f es => snd_call (snds es)
  | .callk f es pm => snd_callk (snds es)
  | .meth c f o es => snd_none rfl
  | .new c f es => snd_none rfl
  | .fld o f => snd_none rfl
  | .bi b es => snd_bi (snds es)
  | .bl b a => snd_bl (snd a)
  | .isi t a => snd_isi (snd a)
  | .tof a => snd_tof (snd a)
  | .lof a => snd_lof (snd a)
  | .srt a => snd_srt (snd a)
  | .srk a => snd_srk (snd a)
  | .lset a => snd_lset (snd a)
  | .srs a => snd_srs (snd a)
  | .dof a => snd_none rfl
  | .rng1 a => snd_rng1 (snd a)
  | .rng2 a b => snd_rng2 (snd a) (snd b)
  | .zip a b => snd_zip (snd a) (snd b)
  | .enu a => snd_enu (snd a)
  | .lcat a b => snd_lcat (snd a) (snd b)
  | .lslc a lo hi => snd_lslc (snd a) (sndo lo) (sndo hi)
  | .lrep a k => snd_lrep (snd a) (snd k)
  | .mt m o es => snd_mt (snd o) (snds es)
  | .ext o a => snd_ext (snd o) (snd a)
  | .join o a => snd_none rfl
  | .split o a => snd_none rfl
  | .sda d b v => snd_sda (snd d) (snd b) (snd v)
  | .gget g k d => snd_none rfl
  | .lcm own tg it cs a => snd_lcm (snd it) (snds cs) (snd a)
  | .lam f a => snd_lam (snd a)
theorem snds : ∀ (as : List Ex), ∀ a ∈ as, Snd S G C k a
  | [], _, h => by cases h
  | b :: bs, a, h => by
    rcases List.mem_cons.mp h with h | h
    · rw [h]; exact snd b
    · exact snds bs a h
theorem sndo : ∀ (o : Option Ex), ∀ b, o = some b → Snd S G C k b
  | none, _, h => by cases h
  | some a, b, h => by cases h; exact snd a
end
end Mi
end

section
set_option autoImplicit false
set_option Elab.async false
set_option linter.all false
set_option maxRecDepth 100000
set_option maxHeartbeats 1000000
namespace Mi
open PySem PySem.Spec PyProof.Rows L2
def noLc : Expr → Bool
  | .ListComp _ _ _ _ => false
  | .SetComp _ _ _ _ => false
  | .DictComp _ _ _ _ _ => false
  | _ => true
def notTup : Expr → Bool
  | .Tuple _ _ _ => false
  | _ => true
def nmsB (D : Stat) : List Nat → List Expr → Bool
  | [], [] => true
  | i :: is, e :: es => nmB D i e && nmsB D is es
  | _, _ => false
/-- a local name that stands on this line -/
def locLn (sc : Scope) (l : Nat) : Expr → Bool
  | .Name x p => decide (sc.names.lookup x = some .local) && (p.line == l)
  | _ => false
def lnOf : List Expr → Nat
  | .Name _ p :: _ => p.line
  | _ => 0
def nmOf : Expr → Str
  | .Name x _ => x
  | _ => ⟨#[]⟩
def isNon : Ex → Bool
  | .cst .non => true
  | _ => false
def parC (D : Stat) (es : List Expr) : Bool := es.any fun e => match e with
  | .Name x _ => decide (D.sc.names.lookup x = some .cell)
  | _ => false
def parB (D : Stat) (is : List Nat) (es es2 : List Expr) : Bool :=
  (is.length == 2 || is.length == 3) && decide is.Nodup && es.all (locLn D.sc (lnOf es)) && decide ((es.map nmOf).eraseDups.length = es.length) && decide (es2.length = es.length) && !(es2.all fun e => foldedForSure 8 e) && !(es2.all fun e => constantsAlone 8 e)
mutual
def chkS (G : Gs) : Mi.St → Stat → Stmt → Bool
  | .set i a => fun D s => match s with
    | .Assign [.Name x px] e p => stoB D i x && (chk G a).v D e && (noLc e || decide (D.sc.names.lookup x = some .cell) || match e with
      | .ListComp _ _ scope pos => match a with
        | .lcm _ _ _ _ _ => decide (D.sc.names.lookup x = some .local) && (px.line == pos.line) && !(scope.names.any fun y => y.1 == x && (y.2 == .local || y.2 == .cell))
        | _ => false
      | _ => false)
    | _ => false
  | .unp is a => fun D s => match s with
    | .Assign [.Tuple es k p2] e p => nmsB D is es && notTup e && (chk G a).v D e
    | _ => false
  | .par is as => fun D s => match s with
    | .Assign [.Tuple es k p2] (.Tuple es2 k2 p3) p => nmsB D is es && es2.all plainX && decide (as.length ≤ 1000) && chkAll (chks G as) D es2 && ((es2.all fun e => foldedForSure 8 e) || (parB D is es es2 || parC D es))
    | _ => false
  | .aug i a => fun D s => match s with
    | .AugAssign (.Name x _) .Add e _ => stoB D i x && (chk G a).v D e
    | _ => false
  | .exp a => fun D s => match s with
    | .Expr e _ => noLc e && (chk G a).v D e
    | _ => false
  | .pas => fun D s => match s with
    | .Pass _ => true
    | .Expr (.Constant (.str _) _ _) _ => true
    | _ => false
  | .ret a => fun D s => match s with
    | .Return (some e) _ => (chk G a).v D e
    | .Return none _ => isNon a
    | _ => false
  | .ife c a b => fun D s => match s with
    | .If t x y _ => (chk G c).t D t && chkSs G a D x && chkSs G b D y
    | _ => false
  | .wle c b => fun D s => match s with
    | .While t x [] _ => (chk G c).t D t && chkSs G b D x
    | _ => false
  | .for tg it b => fun D s => match s with
    | .For t i x [] _ => noSet i && tgB D tg t && (chk G it).i tg D i && chkSs G b D x
    | _ => false
  | .sti o i a => fun D s => match s with
    | .Assign [.Subscript x y _] e _ => ixB y && (chk G o).v D x && (chk G i).v D y && (chk G a).v D e
    | _ => false
  | .rse c a => fun D s => match s with
    | .Raise (some (.Call (.Name x _) [e] [] _)) none _ => glB D.sc x && decide (G.exc x = some c) && plainX e && (chk G a).v D e
    | _ => false
  | _ => fun _ _ => false
def chkSs (G : Gs) : List Mi.St → Stat → List Stmt → Bool
  | [] => fun _ s => match s with
    | [] => true
    | _ => false
  | a :: as => fun D s => match s with
    | x :: xs => chkS G a D x && chkSs G as D xs
    | [] => false
end
variable {S : Fx} {G : Gs} {C : Nat → List PV → MH → Res PV} {k : Nat}
structure GoodS (S : Fx) (G : Gs) (D : Stat) (X : Cx) (C : Nat → List PV → MH → Res PV) (E : XK) (k : Nat) : Prop where
  g : Good S G D X C E k
  own : PassesOwn (model X.prog X.w) X.A X.env X.xe
  tk : Takes X (fun cls d _ H => E cls d H)
  fk : D.sc.kind = .function
  rm : Room 2 X.A
section
variable {D : Stat} {X : Cx} {E : XK}
theorem Good.nms (g : Good S G D X C E k) : ∀ {is : List Nat} {es : List Expr}, nmsB D is es = true → Nms X is es
  | [], [], _ => .nil
  | i :: is, e :: es, h => by
    obtain ⟨h1, h2⟩ := ands h
    obtain ⟨x, p, rfl, s⟩ := g.nm h1
    exact .cons s (g.nms h2)
  | [], _ :: _, h => by cases h
  | _ :: _, [], h => by cases h
theorem sw_no {e : Expr} (h : noLc e = true) (t : Option Expr) (l : Nat) (env : PySem.Env) : swapsWith e t l env = Pure.pure false := by
  cases e <;> first | (cases h; done) | rfl
theorem sw_sole {e : Expr} {es : List Expr} {j : Nat} {p : Pos} {l : Nat} {env : PySem.Env} : swapsWithSole [.Tuple es j p] e l env = Pure.pure false := by
  cases e <;> rfl
theorem ss_none {e : Expr} {es : List Expr} {j : Nat} {p : Pos} {env : PySem.Env} (h : notTup e = true) : swappedStores [.Tuple es j p] e env = Pure.pure none := by
  cases e <;> first | (cases h; done) | rfl
theorem ite_same {α : Type} {c : Prop} [Decidable c] {a b d : α} (h1 : a = d) (h2 : b = d) : (if c then a else b) = d := by
  split
  · exact h1
  · exact h2
theorem ite_no {α : Type} {c : Bool} {a b d : α} (h : c = false) (k : b = d) : (if c = true then a else b) = d := by
  rw [h, if_neg Bool.false_ne_true]
  exact k
theorem ite_names {n : Nat} {ns ms : List Str} (h : ns = ms) (k : (ms.length != n || ms.eraseDups.length != ms.length) = false) :
    (if (ns.length != n || ns.eraseDups.length != ns.length) = true then (Pure.pure none : Sem (Option (List Str))) else (if false = true then Pure.pure none else (if false = true then (unsupported "x" : Sem PUnit).bind fun _ => Pure.pure (some ns) else Pure.pure (some ns)))) = Pure.pure (some ms) := by
  subst h
  rw [k]
  rfl
theorem assign_len {env : PySem.Env} : ∀ {es : List Expr}, (assignEach es env).length = es.length
  | [] => rfl
  | e :: es => by
    have ih := assign_len (env := env) (es := es)
    cases e <;> simp [assignEach, ih]
theorem ss_fold {es es2 : List Expr} {j j2 : Nat} {p p2 : Pos} {env : PySem.Env} (h : (es2.all fun e => foldedForSure 8 e) = true) : swappedStores [.Tuple es j p] (.Tuple es2 j2 p2) env = Pure.pure none := by
  have h : es2.all (foldedForSure 8) = true := h
  unfold swappedStores
  simp only [h, if_true]
  exact ite_same rfl (ite_same rfl (ite_same rfl rfl))
theorem short_of {α β : Type} {f : α → Option β} : ∀ {l : List α} {a : α}, a ∈ l → f a = none → (l.filterMap f).length < l.length
  | [], _, h, _ => by cases h
  | b :: l, a, h, e => by
    have le := List.length_filterMap_le f l
    cases q : f b with
    | none => rw [List.filterMap_cons_none q, List.length_cons]; omega
    | some c =>
      rw [List.filterMap_cons_some q, List.length_cons, List.length_cons]
      rcases List.mem_cons.mp h with z | z
      · subst z; rw [e] at q; cases q
      · have := short_of z e
        omega
theorem ss_cell {D : Stat} {es es2 : List Expr} {j j2 : Nat} {p p2 : Pos} {env : PySem.Env} (hs : env.scope = D.sc) (h : parC D es = true) : swappedStores [.Tuple es j p] (.Tuple es2 j2 p2) env = Pure.pure none := by
  obtain ⟨e, he, h⟩ := List.any_eq_true.mp h
  cases e <;> first | (cases h; done) | skip
  rename_i x px
  have h := of_decide_eq_true h
  have hk : env.kindOf x = some .cell := by
    show env.scope.names.lookup x = _
    rw [hs]; exact h
  unfold swappedStores
  simp only
  refine ite_same rfl (ite_same rfl ?_)
  rw [if_pos]
  rw [Bool.or_eq_true]
  refine .inl ?_
  have lt := short_of (f := fun y : Expr => match y with
    | .Name id pos => if (env.kindOf id == some .local && pos.line == (Option.map (fun x => Expr.pos x |>.line) es.head?).getD 0) = true then some id else none
    | _ => none) he (by
      show (if _ then _ else _) = none
      rw [hk, if_neg]
      exact fun z => by cases z)
  exact bne_iff_ne.mpr (Nat.ne_of_lt lt)
theorem stars_no {es : List Expr} (h : es.all plainX = true) : (es.any fun e => match e with
    | .Starred .. => true
    | _ => false) = false := by
  rw [List.any_eq_false]
  intro e he
  have := List.all_eq_true.mp h e he
  cases e <;> first | (cases this; done) | exact Bool.false_ne_true
theorem names_are {sc : Scope} {l : Nat} {f : Expr → Option Str} (hf : ∀ e, locLn sc l e = true → f e = some (nmOf e)) : ∀ {es : List Expr}, es.all (locLn sc l) = true → es.filterMap f = es.map nmOf
  | [], _ => rfl
  | e :: es, h => by
    rw [List.all_cons, Bool.and_eq_true] at h
    rw [List.filterMap_cons_some (hf e h.1), names_are hf h.2, List.map_cons]
theorem ss_some {D : Stat} {is : List Nat} {es es2 : List Expr} {j j2 : Nat} {p p2 : Pos} {env : PySem.Env} (hl : es.length = is.length) (hk : env.scope.kind = .function) (hs : env.scope = D.sc) (hp : es2.all plainX = true) (h : parB D is es es2 = true) : swappedStores [.Tuple es j p] (.Tuple es2 j2 p2) env = Pure.pure (some (es.map nmOf)) := by
  unfold parB at h
  obtain ⟨h, h7⟩ := ands h
  obtain ⟨h, h6⟩ := ands h
  obtain ⟨h, h5⟩ := ands h
  obtain ⟨h, h4⟩ := ands h
  obtain ⟨h, h3⟩ := ands h
  obtain ⟨h1, h2⟩ := ands h
  have h6 : es2.all (foldedForSure 8) = false := by simpa using h6
  have h7 : es2.all (constantsAlone 8) = false := by simpa using h7
  have hb : env.blockKind = .function := by unfold Env.blockKind; rw [hk]; rfl
  have hln : (Option.map (fun x => Expr.pos x |>.line) es.head?).getD 0 = lnOf es := by
    cases es with
    | nil => rfl
    | cons e es =>
      rw [List.all_cons, Bool.and_eq_true] at h3
      have := h3.1
      cases e <;> first | (cases this; done) | rfl
  have hnm := names_are (sc := D.sc) (l := lnOf es) (f := fun x => match x with
    | .Name id pos => if (env.kindOf id == some .local && pos.line == lnOf es) = true then some id else none
    | _ => none) (fun e he => by
      cases e <;> first | (cases he; done) | skip
      rename_i x px
      have he : (decide (D.sc.names.lookup x = some .local) && (px.line == lnOf es)) = true := he
      obtain ⟨e1, e2⟩ := ands he
      have ek : env.kindOf x = some .local := by
        show env.scope.names.lookup x = _
        rw [hs]
        exact of_decide_eq_true e1
      simp only [ek, e2]
      rfl) h3
  have h4 := of_decide_eq_true h4
  have h5 := of_decide_eq_true h5
  have c1 : (!(es.length == 2 || es.length == 3) || es2.length != es.length || env.blockKind != ScopeKind.function) = false := by
    rw [hl, h1, h5, hl, hb]
    simp
  unfold swappedStores
  simp only [h6, h7, hln]
  refine ite_no c1 (ite_no (stars_no hp) ?_)
  exact ite_names hnm (by rw [List.length_map, h4]; simp)
theorem ixN_is (n : Nat) (i : Int) : ixN n i = ixOf n i := by
  unfold ixN ixOf
  repeat (first | rfl | (split <;> try simp_all) | omega)
def rSetD (S : Fx) : V → V → V → Hp → (Hp → Prop) → Prop := fun o i v H Q => rSetL o i v H Q ∨ ∃ p r kvs k w, o = .ref p ∧ DctR S r H p kvs ∧ RV S.K r H k i ∧ RV S.K r H w v ∧ kOk k kvs = true ∧ kvs.length < sizeLine ∧ ∀ o', DctO S r H p (put k w kvs) o' → Q (upd H p o')
theorem set_lod (hK : X.K = S.K) (hw : X.w = S.w) (hu : X.A.units + 65 < cLine) : PSet X (rSetD S) := by
  intro pins s σ H o i v ov iv u Q I ro ri rv h
  rcases h with h | ⟨p, r, kvs, k, w, rfl, d, h1, h2, h3, h4, q⟩
  · exact set_list pins s σ H o i v ov iv u Q I ro ri rv h
  · cases (show ov = Value.ref p from ro)
    exact dct_set hK hw hu I d h1 ri h2 rv h3 h4 fun o' s' d' I' => ⟨_, I', q o' d'⟩
theorem ps_stiE {o i e : Expr} {a b c : Ex} {p pos : Pos} (hK : X.K = S.K) (hw : X.w = S.w) (hu : X.A.units + 65 < cLine) (hi : ixB i = true) (ho : PE X o (tX S C E a)) (hx : PE X i (tX S C E b)) (he : PE X e (tX S C E c)) : PS X (.Assign [.Subscript o i p] e pos) (tS S C E (.sti a b c)) := by
  refine ps_mono (ps_asg (pe_val he) (pg_sub (pe_val ho) (pe_val hx) (set_lod hK hw hu) (fun v => by cases i <;> first | (cases hi; done) | rfl)) (by cases e <;> rfl) (by cases e <;> rfl)) fun D σ H ⟨r, n, m, k1, k2, g⟩ => ?_
  rw [Mi.exec] at g
  refine ⟨r, n, m, k1, k2, GE.bind (x := (evX S.P C c n m).bind toV) g (fun v m1 r1 H1 y _ e1 k3 q g1 => ?_) anti_f⟩
  refine ⟨r1, n, m1, k1.ext e1, k3, GE.bind (x := (evX S.P C a n m1).bind toV) g1 (fun u m2 r2 H2 z _ e2 k4 q2 g2 => ?_) anti_f⟩
  refine ⟨r2, n, m2, (k1.ext e1).ext e2, k4, GE.bind (x := (evX S.P C b n m2).bind toV) g2 (fun w m3 r3 H3 t _ e3 k5 q3 g3 => ?_) anti_f⟩
  cases u with
  | loc l =>
    obtain ⟨a', rfl, ha⟩ := (RV.ext e3 q2).loc_inv
    cases em : m3[l]? with
    | none => simp only [stiV, em] at g3; exact (show False from g3).elim
    | some ob =>
      cases ob with
      | lst xs =>
        cases w with
        | int k =>
          cases RV.int_inv q3
          simp only [stiV, em] at g3
          cases ej : ixOf xs.length k with
          | none => rw [ej] at g3; exact (show False from g3).elim
          | some j =>
            rw [ej] at g3
            obtain ⟨ys, h1, h2⟩ := k5.obj l a' _ ha em
            refine .inl ⟨a', ys, k, j, rfl, rfl, h1, by rw [ixN_is, ← h2.length]; exact ej, ?_⟩
            have hv := RV.ext e3 (RV.ext e2 q)
            have x : Ext r3 r3 H3 (upd H3 a' (.lst (ys.set j y))) := ext_write ha h1 fun z => z
            exact g3 r3 _ (.inl σ) x (k5.write ha h1 (fun z => z) (fun _ z => by cases z) (fun _ z => by cases z) ⟨_, upd_same, (h2.set j hv).ext x⟩) ((((k1.ext e1).ext e2).ext e3).ext x)
        | _ => simp only [stiV, em] at g3; exact (show False from g3).elim
      | dct kvs =>
        simp only [stiV, em] at g3
        split at g3
        · rename_i m4 e4
          split at e4
          · rename_i gg
            cases e4
            obtain ⟨g5, g6⟩ := Bool.and_eq_true_iff.mp gg
            have d : DctR S r3 H3 a' kvs := k5.obj l a' _ ha em
            obtain ⟨o0, h0, _, ns, nt, nc⟩ := d.o
            have hv := RV.ext e3 (RV.ext e2 q)
            refine .inr ⟨a', r3, kvs, w, v, rfl, d, q3, hv, g5, (show kvs.length < lineP from of_decide_eq_true g6), fun o' d' => ?_⟩
            have x : Ext r3 r3 H3 (upd H3 a' o') := ext_write ha h0 ns
            exact g3 r3 _ (.inl σ) x (k5.writeX ha h0 ns nt nc (DctO.at_ d' upd_same fun v y z => z.ext x)) ((((k1.ext e1).ext e2).ext e3).ext x)
          · cases e4
        · exact (show False from g3).elim
      | ins c fs => simp only [stiV, em] at g3; exact (show False from g3).elim
  | _ => exact (show False from g3).elim
theorem snd_sti {o i a : Ex} (h : GoodS S G D X C E k) {s : Stmt} (q : chkS G (.sti o i a) D s = true) : PS X s (tS S C E (.sti o i a)) := by
  have g := h.g
  rw [chkS] at q
  cases s <;> first | cases q | skip
  rename_i ts e p
  match ts, q with
  | [t], q =>
    cases t <;> first | cases q | skip
    obtain ⟨q, q4⟩ := ands q
    obtain ⟨q, q3⟩ := ands q
    obtain ⟨q1, q2⟩ := ands q
    exact ps_stiE g.K g.w g.un q1 ((snd o).v g q2) ((snd i).v g q3) ((snd a).v g q4)
  | [], q => cases q
  | t :: _ :: _, q => cases t <;> cases q
theorem snd_setLc {i : Nat} {x : Str} {px pos p : Pos} {elt : Expr} {gs : List Comprehension} {scope : Scope} {own : List Nat} {tg : Tgt} {it b : Ex} {cs : List Ex} (h : GoodS S G D X C E k) (q1 : stoB D i x = true) (q2 : (chk G (.lcm own tg it cs b)).v D (.ListComp elt gs scope pos) = true)
    (q3 : (decide (D.sc.names.lookup x = some .local) && (px.line == pos.line) && !(scope.names.any fun y => y.1 == x && (y.2 == .local || y.2 == .cell))) = true) : PS X (.Assign [.Name x px] (.ListComp elt gs scope pos) p) (tS S C E (.set i (.lcm own tg it cs b))) := by
  have g := h.g
  obtain ⟨q3, q6⟩ := ands q3
  obtain ⟨q4, q5⟩ := ands q3
  match gs, q2 with
  | [⟨t, ii, ifs, z⟩], q =>
    obtain ⟨q, r8⟩ := ands q
    obtain ⟨q, r7⟩ := ands q
    obtain ⟨q, r6⟩ := ands q
    obtain ⟨q, r5⟩ := ands q
    obtain ⟨q, r4⟩ := ands q
    obtain ⟨q, r3⟩ := ands q
    obtain ⟨r1, r2⟩ := ands q
    cases d_eq r1
    have gi := fun s H Ca cl fp => g.inner (scope := scope) s H Ca cl fp
    have hl : X.env.scope.names.lookup x = some .local := by rw [g.sc]; exact of_decide_eq_true q4
    refine ps_setLcE (own := ownOf D.N own) g.K g.calm (by rw [g.N]; exact g.nd) (g.sto q1).ix hl (sw_true (by rw [g.sc]; exact h.fk) hl q5 (by simpa using q6)) ((snd it).i g r6 fun hm => tgB_many r5 hm) (by rw [g.N, g.sc]; exact blk_ok r3) (by rw [own_ix]; exact fun _ h => h) (by rw [own_ix]; exact of_decide_eq_true r4)
      (fun s H Ca cl fp => (gi s H Ca cl fp).tg r5) (fun s H Ca cl fp => ifs_v (snds cs) (gi s H Ca cl fp) r7) (fun s H Ca cl fp => (snd b).v (gi s H Ca cl fp) r8) (noSet_ok r2 _)
  | [], q => cases q
  | ⟨_, _, _, _⟩ :: _ :: _, q => cases q
/-- a comprehension's list goes to a cell's name as any value does -/
theorem sw_cell {env : PySem.Env} {x : Str} (h : env.scope.names.lookup x = some .cell) (e : Expr) (px : Pos) (n : Nat) : swapsWith e (some (.Name x px)) n env = Pure.pure false := by
  have hk : (env.kindOf x == some NameKind.local) = false := by
    show (env.scope.names.lookup x == _) = false
    rw [h]
    rfl
  have go : ∀ (scope : Scope) (l : Nat), (Pure.pure (env.blockKind == .function && env.kindOf x == some .local && px.line == l && !(scope.names.any fun y => y.1 == x && (y.2 == .local || y.2 == .cell))) : Sem Bool) = Pure.pure false := fun scope l => by
    rw [hk, Bool.and_false, Bool.false_and, Bool.false_and]
  cases e <;> first | rfl | exact go _ _
theorem snd_set {i : Nat} {a : Ex} (h : GoodS S G D X C E k) {s : Stmt} (q : chkS G (.set i a) D s = true) : PS X s (tS S C E (.set i a)) := by
  have g := h.g
  rw [chkS] at q
  cases s <;> first | cases q | skip
  rename_i ts e p
  match ts, q with
  | [t], q =>
    cases t <;> first | cases q | skip
    rename_i x px
    obtain ⟨q, q3⟩ := ands q
    obtain ⟨q1, q2⟩ := ands q
    rcases Bool.or_eq_true_iff.mp q3 with q3 | q3
    · rcases Bool.or_eq_true_iff.mp q3 with q3 | q3
      · exact ps_setE (by rw [g.N]; exact g.nd) (g.sto q1) ((snd a).v g q2) (sw_no q3 _ _ _)
      · exact ps_setE (by rw [g.N]; exact g.nd) (g.sto q1) ((snd a).v g q2) (sw_cell (by rw [g.sc]; exact of_decide_eq_true q3) _ _ _)
    · clear q
      cases e <;> first | cases q3 | skip
      cases a <;> first | cases q3 | skip
      exact snd_setLc h q1 q2 q3
  | [], q => cases q
  | t :: _ :: _, q => cases t <;> cases q
theorem snd_par2 {is : List Nat} {es es2 : List Expr} {as : List Ex} {j j2 : Nat} {px p p2 : Pos} (h : GoodS S G D X C E k) (nm : Nms X is es) (sw : swappedStores [.Tuple es j px] (.Tuple es2 j2 p2) X.env = Pure.pure (some (es.map nmOf))) (q5 : parB D is es es2 = true) (ha : PA X es2 (tVs S C E as)) : PS X (.Assign [.Tuple es j px] (.Tuple es2 j2 p2) p) (tS S C E (.par is as)) := by
  have g := h.g
  have gN : X.N.Nodup := by rw [g.N]; exact g.nd
  unfold parB at q5
  obtain ⟨r, r7⟩ := ands q5
  obtain ⟨r, r6⟩ := ands r
  obtain ⟨r, r5⟩ := ands r
  obtain ⟨r, r4⟩ := ands r
  obtain ⟨r, r3⟩ := ands r
  obtain ⟨r1, r2⟩ := ands r
  have r2 := of_decide_eq_true r2
  have r5 := of_decide_eq_true r5
  have loc : ∀ {x : Str} {py : Pos} {l : Nat}, locLn D.sc l (.Name x py) = true → X.env.scope.names.lookup x = some .local := fun hh => by
    rw [g.sc]
    exact of_decide_eq_true (ands hh).1
  cases nm with
  | nil => cases r1
  | @cons i x px1 is es s1 nm =>
  cases nm with
  | nil => cases r1
  | @cons i2 x2 px2 is es s2 nm =>
  cases nm with
  | nil =>
    rw [List.all_cons, List.all_cons] at r3
    obtain ⟨r31, r32⟩ := ands r3
    obtain ⟨r33, _⟩ := ands r32
    have n12 : i ≠ i2 := by intro z; simp [z] at r2
    cases es2 with
    | nil => cases r5
    | cons a es2 =>
    cases es2 with
    | nil => cases r5
    | cons b es2 =>
    cases es2 with
    | cons c es2 => simp at r5
    | nil => exact ps_par2E g.calm gN s1.ix s2.ix n12 (loc r31) (loc r33) ha sw
  | @cons i3 x3 px3 is es s3 nm =>
  cases nm with
  | cons s4 nm => simp at r1
  | nil =>
    rw [List.all_cons, List.all_cons, List.all_cons] at r3
    obtain ⟨r31, r32⟩ := ands r3
    obtain ⟨r33, r34⟩ := ands r32
    obtain ⟨r35, _⟩ := ands r34
    have n12 : i ≠ i2 := by intro z; simp [z] at r2
    have n13 : i ≠ i3 := by intro z; simp [z] at r2
    have n23 : i2 ≠ i3 := by intro z; simp [z] at r2
    cases es2 with
    | nil => cases r5
    | cons a es2 =>
    cases es2 with
    | nil => cases r5
    | cons b es2 =>
    cases es2 with
    | nil => cases r5
    | cons c es2 =>
    cases es2 with
    | cons d es2 => simp at r5
    | nil => exact ps_par3E g.calm gN s1.ix s2.ix s3.ix n12 n13 n23 (loc r31) (loc r33) (loc r35) ha sw
theorem snd_par {is : List Nat} {as : List Ex} (h : GoodS S G D X C E k) {s : Stmt} (q : chkS G (.par is as) D s = true) : PS X s (tS S C E (.par is as)) := by
  have g := h.g
  have gN : X.N.Nodup := by rw [g.N]; exact g.nd
  rw [chkS] at q
  cases s <;> first | cases q | skip
  rename_i ts e p
  match ts, q with
  | [t], q =>
    cases t <;> first | cases q | skip
    rename_i es j px
    cases e <;> first | cases q | skip
    rename_i es2 j2 p2 _
    obtain ⟨q, q5⟩ := ands q
    obtain ⟨q, q4⟩ := ands q
    obtain ⟨q, q3⟩ := ands q
    obtain ⟨q1, q2⟩ := ands q
    have nm := g.nms q1
    obtain ⟨a1, a2⟩ := args_v (snds as) g q2 q4
    rcases Bool.or_eq_true_iff.mp q5 with q5 | q5
    · exact ps_parE g.K g.calm gN nm a2 (of_decide_eq_true q3) (ss_fold q5)
    · rcases Bool.or_eq_true_iff.mp q5 with q5 | q5
      case inr => exact ps_parE g.K g.calm gN nm a2 (of_decide_eq_true q3) (ss_cell g.sc q5)
      have hl : es.length = is.length := by
        have := nms_len nm
        rw [assign_len] at this
        omega
      have sw := ss_some (j := j) (p := px) (j2 := j2) (p2 := p2) hl (by rw [g.sc]; exact h.fk) g.sc q2 q5
      exact snd_par2 h nm sw q5 a2
  | [], q => cases q
  | t :: _ :: _, q => cases t <;> cases q
end
end Mi
end

section
set_option autoImplicit false
set_option Elab.async false
set_option linter.all false
set_option maxRecDepth 100000
set_option maxHeartbeats 1000000
namespace Mi
open PySem PySem.Spec PyProof.Rows L2
variable {S : Fx} {G : Gs} {C : Nat → List PV → MH → Res PV} {k : Nat} {D : Stat} {X : Cx} {E : XK}
theorem snd_unp {is : List Nat} {a : Ex} (h : GoodS S G D X C E k) {s : Stmt} (q : chkS G (.unp is a) D s = true) : PS X s (tS S C E (.unp is a)) := by
  have g := h.g
  rw [chkS] at q
  cases s <;> first | cases q | skip
  rename_i ts e p
  match ts, q with
  | [t], q =>
    cases t <;> first | cases q | skip
    obtain ⟨q, q3⟩ := ands q
    obtain ⟨q1, q2⟩ := ands q
    exact ps_unpE g.K g.calm (by rw [g.N]; exact g.nd) (g.nms q1) ((snd a).v g q3) sw_sole (ss_none q2)
  | [], q => cases q
  | t :: _ :: _, q => cases t <;> cases q
theorem snd_aug {i : Nat} {a : Ex} (h : GoodS S G D X C E k) {s : Stmt} (q : chkS G (.aug i a) D s = true) : PS X s (tS S C E (.aug i a)) := by
  have g := h.g
  rw [chkS] at q
  cases s <;> first | cases q | skip
  rename_i t o e p
  cases t <;> first | cases q | skip
  cases o <;> first | cases q | skip
  obtain ⟨q1, q2⟩ := ands q
  exact ps_augE (by rw [g.N]; exact g.nd) (g.sto q1) ((snd a).v g q2)
theorem snd_exp {a : Ex} (h : GoodS S G D X C E k) {s : Stmt} (q : chkS G (.exp a) D s = true) : PS X s (tS S C E (.exp a)) := by
  rw [chkS] at q
  cases s <;> first | cases q | skip
  obtain ⟨q1, q2⟩ := ands q
  exact ps_expE ((snd a).v h.g q2) (sw_no q1 _ _ _)
theorem snd_pas (h : GoodS S G D X C E k) {s : Stmt} (q : chkS G .pas D s = true) : PS X s (tS S C E .pas) := by
  rw [chkS] at q
  cases s <;> first | cases q | skip
  · rename_i e p
    cases e <;> first | cases q | skip
    rename_i c j p2
    cases c <;> first | cases q | skip
    exact ps_docE
  · exact ps_passE
theorem snd_ret {a : Ex} (h : GoodS S G D X C E k) {s : Stmt} (q : chkS G (.ret a) D s = true) : PS X s (tS S C E (.ret a)) := by
  rw [chkS] at q
  cases s <;> first | cases q | skip
  rename_i o p
  cases o with
  | some e => exact ps_retE ((snd a).v h.g q)
  | none =>
    cases a <;> first | cases q | skip
    rename_i v
    cases v <;> first | cases q | skip
    exact ps_retNE
theorem snd_rse {c : Nat} {a : Ex} (h : GoodS S G D X C E k) {s : Stmt} (q : chkS G (.rse c a) D s = true) : PS X s (tS S C E (.rse c a)) := by
  have g := h.g
  rw [chkS] at q
  cases s <;> first | cases q | skip
  rename_i o o2 p
  cases o with
  | none => cases q
  | some e =>
    cases e <;> first | cases q | skip
    rename_i fn es ks p2
    cases fn <;> first | cases q | skip
    rename_i x px
    cases es with
    | nil => cases q
    | cons e es =>
    cases es with
    | cons _ _ => cases q
    | nil =>
    cases ks with
    | cons _ _ => cases q
    | nil =>
    cases o2 with
    | some _ => cases q
    | none =>
      obtain ⟨q, q4⟩ := ands q
      obtain ⟨q, q3⟩ := ands q
      obtain ⟨q1, q2⟩ := ands q
      obtain ⟨l1, l2⟩ := g.gl q1
      obtain ⟨Cc, fI, fd, f, d1, d2, d3, d4, d5⟩ := g.gx.exc x c (d_eq q2)
      exact ps_rseE d1 d5 l1 d2 l2 d3 d4 g.calm h.tk h.rm q3 ((snd a).v g q4)
mutual
theorem sndS : ∀ (st : Mi.St), (GoodS S G D X C E k) → ∀ {s : Stmt}, chkS G st D s = true → PS X s (tS S C E st)
  | .set i a => fun h _ q => snd_set h q
  | .unp is a => fun h _ q => snd_unp h q
  | .par is as => fun h _ q => snd_par h q
  | .aug i a => fun h _ q => snd_aug h q
  | .sti o i a => fun h _ q => snd_sti h q
  | .fst o f a => fun h _ q => by rw [chkS] at q <;> first | cases q | (intros; contradiction)
  | .exp a => fun h _ q => snd_exp h q
  | .ret a => fun h _ q => snd_ret h q
  | .ife c a b => fun h s q => by
    rw [chkS] at q
    cases s <;> first | cases q | skip
    obtain ⟨q, q3⟩ := ands q
    obtain ⟨q1, q2⟩ := ands q
    exact ps_ifE ((snd c).t h.g q1) (sndSs a h q2) (sndSs b h q3)
  | .wle c b => fun h s q => by
    rw [chkS] at q
    cases s <;> first | cases q | skip
    rename_i t x o p
    cases o with
    | cons _ _ => cases q
    | nil =>
      obtain ⟨q1, q2⟩ := ands q
      exact ps_whileE' h.own ((snd c).t h.g q1) (sndSs b h q2)
  | .for tg it b => fun h s q => by
    rw [chkS] at q
    cases s <;> first | cases q | skip
    rename_i t i x o p
    cases o with
    | cons _ _ => cases q
    | nil =>
      obtain ⟨q, q4⟩ := ands q
      obtain ⟨q, q3⟩ := ands q
      obtain ⟨q1, q2⟩ := ands q
      exact ps_forE' h.g.K (by rw [h.g.N]; exact h.g.nd) h.own h.g.calm ((snd it).i h.g q3 fun hm => tgB_many q2 hm) (h.g.tg q2) (sndSs b h q4) (noSet_ok q1 _)
  | .rse c a => fun h _ q => snd_rse h q
  | .cat c a => fun h _ q => by rw [chkS] at q <;> first | cases q | (intros; contradiction)
  | .pas => fun h _ q => snd_pas h q
theorem sndSs : ∀ (l : List Mi.St), (GoodS S G D X C E k) → ∀ {s : List Stmt}, chkSs G l D s = true → PSs X s (tSs S C E l)
  | [] => fun h s q => by
    rw [chkSs] at q
    cases s with
    | nil => exact pss_nilE
    | cons _ _ => cases q
  | a :: l => fun h s q => by
    rw [chkSs] at q
    cases s with
    | nil => cases q
    | cons x xs =>
      obtain ⟨q1, q2⟩ := ands q
      exact pss_consE (sndS a h q1) (sndSs l h q2)
end
end Mi
end

section
set_option autoImplicit false
set_option Elab.async false
set_option linter.all false
set_option maxRecDepth 100000
set_option maxHeartbeats 1000000
namespace Mi
open PySem PySem.Spec PyProof.Rows L2
variable {S : Fx}
mutual
theorem RV.pur {K : PySem.W.Frag} {r : List Addr} {H : Hp} (r' : List Addr) : ∀ {v : PV} {y : V}, RV K r H v y → pure v = true → RV K r' H v y
  | _, _, .non, _ => .non
  | _, _, .bl b, _ => .bl b
  | _, _, .int i, _ => .int i
  | _, _, .str x, _ => .str x
  | _, _, .tup h d t, q => .tup h d (RVs.pur r' t q)
  | _, _, .loc h, q => by cases q
  | _, _, .rng h, q => by cases q
  | _, _, .seq h, q => by cases q
theorem RVs.pur {K : PySem.W.Frag} {r : List Addr} {H : Hp} (r' : List Addr) : ∀ {vs : List PV} {ys : List V}, RVs K r H vs ys → pures vs = true → RVs K r' H vs ys
  | _, _, .nil, _ => .nil
  | _, _, .cons h t, q => by
    rw [pures, Bool.and_eq_true] at q
    exact .cons (RV.pur r' h q.1) (RVs.pur r' t q.2)
end
mutual
theorem RV.inn {K : PySem.W.Frag} {r t : List Addr} {H0 H : Hp} : ∀ {v : PV} {y0 y : V}, RV K r H0 v y0 → RV K (r ++ t) H v y → RV K r H v y
  | _, _, _, .non, .non => .non
  | _, _, _, .bl _, .bl b => .bl b
  | _, _, _, .int _, .int i => .int i
  | _, _, _, .str _, .str x => .str x
  | _, _, _, .tup _ _ u, .tup h d q => .tup h d (RVs.inn u q)
  | _, _, _, .loc h0, .loc h => .loc (by
    rw [List.getElem?_append_left (List.getElem?_eq_some_iff.mp h0).1] at h
    exact h)
  | _, _, _, .rng _, .rng h => .rng h
  | _, _, _, .seq _, .seq h => .seq h
theorem RVs.inn {K : PySem.W.Frag} {r t : List Addr} {H0 H : Hp} : ∀ {vs : List PV} {ys0 ys : List V}, RVs K r H0 vs ys0 → RVs K (r ++ t) H vs ys → RVs K r H vs ys
  | _, _, _, .nil, .nil => .nil
  | _, _, _, .cons a b, .cons h q => .cons (RV.inn a h) (RVs.inn b q)
end
theorem RFs.pur {K : PySem.W.Frag} {r : List Addr} {H : Hp} (r' : List Addr) : ∀ {fs : List (Str × PV)} {gs : List (Str × V)}, RFs K r H fs gs → (fs.all fun p => pure p.2) = true → RFs K r' H fs gs
  | _, _, .nil, _ => .nil
  | _, _, .cons h t, q => by
    rw [List.all_cons, Bool.and_eq_true] at q
    exact .cons (h.pur r' q.1) (RFs.pur r' t q.2)
theorem RFs.inn {K : PySem.W.Frag} {r t : List Addr} {H0 H : Hp} : ∀ {fs : List (Str × PV)} {gs0 gs : List (Str × V)}, RFs K r H0 fs gs0 → RFs K (r ++ t) H fs gs → RFs K r H fs gs
  | _, _, _, .nil, .nil => .nil
  | _, _, _, .cons a b, .cons h q => .cons (RV.inn a h) (RFs.inn b q)
theorem beqKV_is : ∀ a b : List (PV × PV), beqKV a b = true → a = b
  | [], [], _ => rfl
  | [], _ :: _, h => by simp [beqKV] at h
  | _ :: _, [], h => by simp [beqKV] at h
  | (k, v) :: r, (k', v') :: r', h => by
    rw [beqKV, Bool.and_eq_true, Bool.and_eq_true] at h
    rw [beq_is _ _ h.1.1, beq_is _ _ h.1.2, beqKV_is _ _ h.2]
theorem beqFs_is : ∀ a b : List (Str × PV), beqFs a b = true → a = b
  | [], [], _ => rfl
  | [], _ :: _, h => by simp [beqFs] at h
  | _ :: _, [], h => by simp [beqFs] at h
  | (k, v) :: r, (k', v') :: r', h => by
    rw [beqFs, Bool.and_eq_true, Bool.and_eq_true] at h
    rw [of_decide_eq_true h.1.1, beq_is _ _ h.1.2, beqFs_is _ _ h.2]
theorem beqO_is {o o' : MO} (h : beqO o o' = true) : o = o' := by
  cases o <;> cases o' <;> first | (cases h; done) | skip
  · rw [beqs_is _ _ h]
  · rw [beqKV_is _ _ h]
  · rename_i c a d b
    have h : (c == d && beqFs a b) = true := h
    rw [Bool.and_eq_true] at h
    rw [eq_of_beq h.1, beqFs_is _ _ h.2]
theorem old_at : ∀ {m m1 : MH} {l : Nat} {o o' : MO}, oldOk m m1 = true → m[l]? = some o → m1[l]? = some o' → pureO o' = true ∨ o = o'
  | [], _, l, o, o', _, h1, _ => by simp at h1
  | _ :: _, [], _, _, _, h, _, _ => by cases h
  | a :: r, b :: r', l, o, o', h, h1, h2 => by
    rw [oldOk, Bool.and_eq_true, Bool.or_eq_true] at h
    cases l with
    | zero =>
      simp at h1 h2
      subst h1 h2
      rcases h.1 with h | h
      · exact .inl h
      · exact .inr (beqO_is h)
    | succ l =>
      simp at h1 h2
      exact old_at h.2 h1 h2
theorem DKs.pur {K : PySem.W.Frag} {r : List Addr} {H : Hp} (r' : List Addr) : ∀ {kvs : List (PV × PV)} {ks : List (Key × V)}, DKs K r H kvs ks → (kvs.all fun p => pure p.1 && pure p.2) = true → DKs K r' H kvs ks
  | _, _, .nil, _ => .nil
  | _, _, .cons h t, q => by
    rw [List.all_cons, Bool.and_eq_true, Bool.and_eq_true] at q
    exact .cons ⟨h.1, h.2.pur r' q.1.2⟩ (DKs.pur r' t q.2)
theorem DTs.pur {K : PySem.W.Frag} {r : List Addr} {H : Hp} (r' : List Addr) : ∀ {kvs : List (PV × PV)} {xs : List (NestedKey × Addr × Value)}, DTs K r H kvs xs → (kvs.all fun p => pure p.1 && pure p.2) = true → DTs K r' H kvs xs
  | _, _, .nil, _ => .nil
  | _, _, .cons ⟨h1, h2, y, h3, h4⟩ t, q => by
    rw [List.all_cons, Bool.and_eq_true, Bool.and_eq_true] at q
    exact .cons ⟨h1, h2.pur r' q.1.1, y, h3, h4.pur r' q.1.2⟩ (DTs.pur r' t q.2)
theorem DctR.pur {r : List Addr} {H : Hp} {a : Addr} {kvs : List (PV × PV)} (r' : List Addr) (h : DctR S r H a kvs) (p : (kvs.all fun p => pure p.1 && pure p.2) = true) : DctR S r' H a kvs := by
  rcases h with ⟨ks, h1, h2, h3⟩ | ⟨xs, h1, h2, h3, h4⟩
  · exact .inl ⟨ks, h1, h2, DKs.pur r' h3 p⟩
  · exact .inr ⟨xs, h1, h2, h3, DTs.pur r' h4 p⟩
theorem RV.key {K : PySem.W.Frag} {r : List Addr} {H : Hp} (k : Key) : RV K r H (keyP k) (kV k) := by
  cases k with
  | inl i => exact .int i
  | inr x => exact .str x
theorem DKs.all0 {K : PySem.W.Frag} {r : List Addr} {H : Hp} : ∀ {kvs : List (PV × PV)} {ks : List (Key × V)}, DKs K r H kvs ks → ∀ p ∈ kvs, (∃ y, RV K r H p.1 y) ∧ ∃ y, RV K r H p.2 y
  | _, _, .nil, _, h => by cases h
  | _, _, .cons ⟨h1, h2⟩ t, p, h => by
    rcases List.mem_cons.mp h with z | z
    · subst z
      exact ⟨⟨_, by rw [h1]; exact RV.key _⟩, _, h2⟩
    · exact DKs.all0 t p z
theorem DTs.all0 {K : PySem.W.Frag} {r : List Addr} {H : Hp} : ∀ {kvs : List (PV × PV)} {xs : List (NestedKey × Addr × Value)}, DTs K r H kvs xs → ∀ p ∈ kvs, (∃ y, RV K r H p.1 y) ∧ ∃ y, RV K r H p.2 y
  | _, _, .nil, _, h => by cases h
  | _, _, .cons ⟨h1, h2, y, h3, h4⟩ t, p, h => by
    rcases List.mem_cons.mp h with z | z
    · subst z
      exact ⟨⟨_, h2⟩, _, h4⟩
    · exact DTs.all0 t p z
theorem DctR.all0 {r : List Addr} {H : Hp} {a : Addr} {kvs : List (PV × PV)} (h : DctR S r H a kvs) : ∀ p ∈ kvs, (∃ y, RV S.K r H p.1 y) ∧ ∃ y, RV S.K r H p.2 y := by
  rcases h with ⟨ks, h1, h2, h3⟩ | ⟨xs, h1, h2, h3, h4⟩
  · exact h3.all0
  · exact h4.all0
theorem DKs.inn {K : PySem.W.Frag} {r t : List Addr} {H0 H : Hp} : ∀ {kvs : List (PV × PV)} {ks : List (Key × V)}, DKs K (r ++ t) H kvs ks → (∀ p ∈ kvs, (∃ y, RV K r H0 p.1 y) ∧ ∃ y, RV K r H0 p.2 y) → DKs K r H kvs ks
  | _, _, .nil, _ => .nil
  | _, _, .cons ⟨h1, h2⟩ t, q => by
    obtain ⟨⟨y1, q1⟩, y2, q2⟩ := q _ List.mem_cons_self
    exact .cons ⟨h1, RV.inn q2 h2⟩ (DKs.inn t fun p hp => q p (List.mem_cons_of_mem _ hp))
theorem DTs.inn {K : PySem.W.Frag} {r t : List Addr} {H0 H : Hp} : ∀ {kvs : List (PV × PV)} {xs : List (NestedKey × Addr × Value)}, DTs K (r ++ t) H kvs xs → (∀ p ∈ kvs, (∃ y, RV K r H0 p.1 y) ∧ ∃ y, RV K r H0 p.2 y) → DTs K r H kvs xs
  | _, _, .nil, _ => .nil
  | _, _, .cons ⟨h1, h2, y, h3, h4⟩ t, q => by
    obtain ⟨⟨y1, q1⟩, y2, q2⟩ := q _ List.mem_cons_self
    exact .cons ⟨h1, RV.inn q1 h2, y, h3, RV.inn q2 h4⟩ (DTs.inn t fun p hp => q p (List.mem_cons_of_mem _ hp))
theorem DctR.inn {r t : List Addr} {H0 H : Hp} {a0 a : Addr} {kvs : List (PV × PV)} (h0 : DctR S r H0 a0 kvs) (h : DctR S (r ++ t) H a kvs) : DctR S r H a kvs := by
  rcases h with ⟨ks, h1, h2, h3⟩ | ⟨xs, h1, h2, h3, h4⟩
  · exact .inl ⟨ks, h1, h2, DKs.inn h3 h0.all0⟩
  · exact .inr ⟨xs, h1, h2, h3, DTs.inn h4 h0.all0⟩
theorem RO.pur {r : List Addr} {H : Hp} {a : Addr} {o : MO} (r' : List Addr) (h : RO S r H a o) (p : pureO o = true) : RO S r' H a o := by
  cases o with
  | lst xs =>
    obtain ⟨ys, h1, h2⟩ := h
    exact ⟨ys, h1, h2.pur r' p⟩
  | dct kvs => exact DctR.pur r' h p
  | ins c fs =>
    obtain ⟨dx, gs, h1, h2⟩ := h
    exact ⟨dx, gs, h1, h2.pur r' p⟩
theorem RO.inn {r t : List Addr} {H0 H : Hp} {a0 a : Addr} {o : MO} (h0 : RO S r H0 a0 o) (h : RO S (r ++ t) H a o) : RO S r H a o := by
  cases o with
  | lst xs =>
    obtain ⟨_, _, k2⟩ := h0
    obtain ⟨ys, h1, h2⟩ := h
    exact ⟨ys, h1, RVs.inn k2 h2⟩
  | dct kvs => exact DctR.inn h0 h
  | ins c fs =>
    obtain ⟨_, _, _, k2⟩ := h0
    obtain ⟨dx, gs, h1, h2⟩ := h
    exact ⟨dx, gs, h1, RFs.inn k2 h2⟩
theorem ext_back {r r1 : List Addr} {H H1 : Hp} (e : Ext r r1 H H1) : Ext r r H H1 := ⟨⟨[], by simp, fun b hb => by simp at hb⟩, e.2.1, e.2.2⟩
/-- what was made within is forgotten -/
theorem back {r r1 : List Addr} {m m1 : MH} {H H1 : Hp} (R : RH S r m H) (e : Ext r r1 H H1) (R1 : RH S r1 m1 H1) (b : oldOk m m1 = true) : RH S r (m1.take m.length) H1 := by
  obtain ⟨⟨t, rfl, ht⟩, _⟩ := e
  have hl := R1.len
  rw [List.length_append, R.len] at hl
  refine ⟨by rw [List.length_take, R.len]; omega, (List.nodup_append.mp R1.nd).1, fun l a o h1 h2 => ?_, R1.tabs⟩
  have hlt : l < m.length := by rw [← R.len]; exact (List.getElem?_eq_some_iff.mp h1).1
  rw [List.getElem?_take_of_lt hlt] at h2
  have h3 : (r ++ t)[l]? = some a := by
    rw [List.getElem?_append_left (List.getElem?_eq_some_iff.mp h1).1]
    exact h1
  have k := R1.obj l a o h3 h2
  rcases old_at b (List.getElem?_eq_getElem hlt) h2 with p | p
  · exact k.pur r p
  · have k0 := R.obj l a _ h1 (List.getElem?_eq_getElem hlt)
    rw [p] at k0
    exact RO.inn k0 k
/-- a new place, and what stands there, behind what is left -/
theorem back_push {r r1 : List Addr} {m m1 : MH} {H H1 : Hp} {l : Nat} {a : Addr} {xs zs : List PV} {r2 : List Addr} {m2 : MH} (R : RH S r m H) (e : Ext r r1 H H1) (R1 : RH S r1 m1 H1) (hm : m.length ≤ l) (ha : r1[l]? = some a) (hw : wlistAt m1 l = some xs)
    (x : Ext r r2 H H1) (R2 : RH S r2 m2 H1) (hn : a ∉ r2) (hv : ∀ ys, RVs S.K r1 H1 xs ys → RVs S.K (r2 ++ [a]) H1 zs ys) : Ext r (r2 ++ [a]) H H1 ∧ RH S (r2 ++ [a]) (m2 ++ [.lst zs]) H1 := by
  have hnt : Nt H a ∧ a ∉ r := by
    obtain ⟨⟨t, rfl, ht⟩, _⟩ := e
    rw [List.getElem?_append_right (by rw [R.len]; exact hm)] at ha
    exact ht a (List.mem_of_getElem? ha)
  constructor
  · obtain ⟨⟨t, rfl, ht⟩, x2, x3⟩ := x
    refine ⟨⟨t ++ [a], by rw [List.append_assoc], fun b hb => ?_⟩, x2, x3⟩
    rcases List.mem_append.mp hb with hb | hb
    · exact ht b hb
    · rw [List.mem_singleton.mp hb]
      exact hnt
  · refine ⟨by rw [List.length_append, List.length_append, R2.len]; rfl, ?_, fun i b o h1 h2 => ?_, R2.tabs⟩
    · rw [List.nodup_append]
      refine ⟨R2.nd, by simp, fun b hb c hc z => ?_⟩
      rw [List.mem_singleton.mp hc] at z
      exact hn (z ▸ hb)
    · by_cases hi : i < r2.length
      · rw [List.getElem?_append_left hi] at h1
        rw [List.getElem?_append_left (by rw [← R2.len]; exact hi)] at h2
        exact (R2.obj i b o h1 h2).more [a]
      · have hi2 : i < (r2 ++ [a]).length := (List.getElem?_eq_some_iff.mp h1).1
        rw [List.length_append] at hi2
        have hi3 : i = r2.length := by
          have : i < r2.length + 1 := hi2
          omega
        subst hi3
        rw [List.getElem?_append_right (Nat.le_refl _), Nat.sub_self] at h1
        rw [R2.len, List.getElem?_append_right (Nat.le_refl _), Nat.sub_self] at h2
        cases h1
        cases h2
        obtain ⟨ys, w1, w2⟩ := R1.wlist ha hw
        exact ⟨ys, w1, hv ys w2⟩
end Mi
end

section
set_option autoImplicit false
set_option Elab.async false
set_option linter.all false
set_option maxRecDepth 100000
set_option maxHeartbeats 1000000
namespace Mi
open PySem PySem.Spec PyProof.Rows L2
variable {S : Fx}
theorem memP_no {k : Nat} : ∀ {ls : List PV} {j : Nat}, memP (.loc k) ls = false → PV.loc j ∈ ls → k ≠ j
  | [], _, _, h => by cases h
  | x :: ls, j, h, hm => by
    rw [memP, Bool.or_eq_false_iff] at h
    rcases List.mem_cons.mp hm with hm | hm
    · subst hm
      intro z
      have h := h.1
      rw [z] at h
      simp [beqP] at h
    · exact memP_no h.2 hm
theorem nodup_ne {r : List Addr} (hn : r.Nodup) {i j : Nat} {a b : Addr} (hi : r[i]? = some a) (hj : r[j]? = some b) (ne : i ≠ j) : a ≠ b := by
  intro z
  subst z
  obtain ⟨h1, h2⟩ := List.getElem?_eq_some_iff.mp hi
  obtain ⟨h3, h4⟩ := List.getElem?_eq_some_iff.mp hj
  exact ne ((List.getElem_inj hn).mp (h2.trans h4.symm))
theorem table_push {r r1 : List Addr} {m m1 : MH} {H H1 : Hp} (R : RH S r m H) (e : Ext r r1 H H1) (R1 : RH S r1 m1 H1) : ∀ {ls : List PV} {xss : List (List PV)} {r2 : List Addr} {m2 : MH}, tableOf m1 ls = some xss →
    (ls.all fun x => match x with | .loc k => decide (m.length ≤ k) | _ => false) = true → noDup ls = true → (∀ k a, PV.loc k ∈ ls → r1[k]? = some a → a ∉ r2) → Ext r r2 H H1 → RH S r2 m2 H1 →
    ∃ as, Ext r (r2 ++ as) H H1 ∧ RH S (r2 ++ as) (m2 ++ xss.map MO.lst) H1 ∧ as.length = xss.length ∧ (∀ ys, RVs S.K r1 H1 ls ys → RVs S.K (r2 ++ as) H1 (locsFrom r2.length xss.length) ys) ∧ ∀ b ∈ as, ∃ k, PV.loc k ∈ ls ∧ r1[k]? = some b
  | [], xss, r2, m2, ht, _, _, _, x, R2 => by
    cases ht
    refine ⟨[], by rw [List.append_nil]; exact x, by simpa using R2, rfl, fun ys h => ?_, fun b hb => by cases hb⟩
    cases h
    exact .nil
  | v :: ls, xss, r2, m2, ht, ha, hd, hf, x, R2 => by
    cases v with
    | loc k =>
      rw [tableOf] at ht
      cases hw : wlistAt m1 k with
      | none => rw [hw] at ht; cases ht
      | some zs =>
        rw [hw] at ht
        by_cases hp : pures zs = true
        · simp only [hp, if_true] at ht
          cases hq : tableOf m1 ls with
          | none => rw [hq] at ht; cases ht
          | some rest =>
            rw [hq] at ht
            cases ht
            rw [List.all_cons, Bool.and_eq_true] at ha
            rw [noDup, Bool.and_eq_true, Bool.not_eq_true'] at hd
            obtain ⟨hk, hls⟩ := ha
            have hk : m.length ≤ k := of_decide_eq_true hk
            have hw' := hw
            have hk1 : k < r1.length := by
              rw [R1.len]
              unfold wlistAt at hw'
              cases q : m1[k]? with
              | none => rw [q] at hw'; cases hw'
              | some o => exact (List.getElem?_eq_some_iff.mp q).1
            have ea : r1[k]? = some r1[k] := List.getElem?_eq_getElem hk1
            obtain ⟨x2, R3⟩ := back_push R e R1 hk ea hw x R2 (hf k _ List.mem_cons_self ea) (fun ys h => h.pur _ hp)
            obtain ⟨as, k1, k2, k3, k4, k5⟩ := table_push R e R1 hq hls hd.2 (fun j b hj eb hm => by
              rcases List.mem_append.mp hm with hm | hm
              · exact hf j b (List.mem_cons_of_mem _ hj) eb hm
              · exact nodup_ne R1.nd ea eb (memP_no hd.1 hj) (List.mem_singleton.mp hm).symm) x2 R3
            refine ⟨r1[k] :: as, by rw [List.append_cons]; exact k1, by rw [List.append_cons, List.map_cons, List.append_cons m2]; exact k2, by rw [List.length_cons, List.length_cons, k3], fun ys h => ?_, fun b hb => ?_⟩
            · cases h with
              | cons h t =>
                obtain ⟨a', rfl, ea'⟩ := h.loc_inv
                rw [ea] at ea'
                cases ea'
                rw [List.append_cons]
                refine .cons (.loc ?_) ?_
                · rw [List.append_assoc, List.getElem?_append_right (Nat.le_refl _), Nat.sub_self]
                  rfl
                · have := k4 _ t
                  rw [List.length_append] at this
                  exact this
            · rcases List.mem_cons.mp hb with hb | hb
              · exact ⟨k, List.mem_cons_self, by rw [hb]; exact ea⟩
              · obtain ⟨j, j1, j2⟩ := k5 b hb
                exact ⟨j, List.mem_cons_of_mem _ j1, j2⟩
        · simp only [hp, if_false] at ht
          cases ht
    | _ => cases ht
theorem leave_ge {lv : Lv} {r r1 : List Addr} {m m1 : MH} {H H1 : Hp} {v : PV} {y : V} {Q : VK} {E : XK} (R : RH S r m H) (e : Ext r r1 H H1) (R1 : RH S r1 m1 H1) (q : RV S.K r1 H1 v y) (g : GE S (Rv S) r H Q E (leave lv m v m1)) : Q y H1 := by
  cases lv with
  | asis => exact g r1 H1 y e R1 q
  | raw => exact g r1 H1 y e R1 q
  | drop =>
    obtain ⟨b, g⟩ := GE.guard g
    obtain ⟨b1, b2⟩ := ands b
    exact g r H1 y (ext_back e) (back R e R1 b2) (q.pur r b1)
  | list =>
    cases v with
    | loc l =>
      obtain ⟨xs, hw, g⟩ := GE.ofW g
      obtain ⟨b, g⟩ := GE.guard g
      obtain ⟨b, b3⟩ := ands b
      obtain ⟨b1, b2⟩ := ands b
      obtain ⟨a, rfl, ha⟩ := q.loc_inv
      have hm := of_decide_eq_true b1
      have Rb := back R e R1 b3
      have hn : a ∉ r := by
        obtain ⟨⟨t, rfl, ht⟩, _⟩ := e
        rw [List.getElem?_append_right (by rw [R.len]; exact hm)] at ha
        exact (ht a (List.mem_of_getElem? ha)).2
      obtain ⟨x2, R2⟩ := back_push R e R1 hm ha hw (ext_back e) Rb hn (fun ys h => h.pur _ b2)
      refine g _ H1 (.ref a) x2 R2 (.loc ?_)
      have hl := Rb.len
      rw [← hl, List.getElem?_append_right (Nat.le_refl _), Nat.sub_self]
      rfl
    | _ => exact (show False from g).elim
  | table =>
    cases v with
    | loc l =>
      obtain ⟨ls, hw, g⟩ := GE.ofW g
      cases ht : tableOf m1 ls with
      | none => rw [ht] at g; exact (show False from g).elim
      | some xss =>
        rw [ht] at g
        obtain ⟨b, g⟩ := GE.guard g
        obtain ⟨b, b4⟩ := ands b
        obtain ⟨b, b3⟩ := ands b
        obtain ⟨b1, b2⟩ := ands b
        rw [noDup, Bool.and_eq_true, Bool.not_eq_true'] at b2
        have hm := of_decide_eq_true b1
        obtain ⟨a, rfl, ha⟩ := q.loc_inv
        have Rb := back R e R1 b4
        have out : ∀ {k : Nat} {c : Addr}, m.length ≤ k → r1[k]? = some c → c ∉ r := fun {k c} hk hc => by
          obtain ⟨⟨t, rfl, ht⟩, _⟩ := e
          rw [List.getElem?_append_right (by rw [R.len]; exact hk)] at hc
          exact (ht c (List.mem_of_getElem? hc)).2
        have ge : ∀ {k : Nat}, PV.loc k ∈ ls → m.length ≤ k := fun {k} hk => of_decide_eq_true (List.all_eq_true.mp b3 _ hk)
        obtain ⟨as, k1, k2, k3, k4, k5⟩ := table_push R e R1 ht b3 b2.2 (fun k c hk hc => out (ge hk) hc) (ext_back e) Rb
        obtain ⟨x2, R2⟩ := back_push (l := l) (a := a) (xs := ls) R e R1 hm ha hw k1 k2 (fun hm' => by
          rcases List.mem_append.mp hm' with hm' | hm'
          · exact out hm ha hm'
          · obtain ⟨k, j1, j2⟩ := k5 a hm'
            exact nodup_ne R1.nd ha j2 (memP_no b2.1 j1) rfl) (fun ys h => (k4 ys h).more [a])
        have hl := R.len
        rw [hl] at R2
        refine g _ H1 (.ref a) x2 R2 (.loc ?_)
        rw [← hl, ← k3, ← List.length_append, List.getElem?_append_right (Nat.le_refl _), Nat.sub_self]
        rfl
    | _ => exact (show False from g).elim
/-- what stood at locations stands, where the work began from nothing -/
theorem lift_back {r r1 : List Addr} {m m1 : MH} {H H1 : Hp} (R : RH S r m H) (e : Ext [] r1 H H1) (R1 : RH S r1 m1 H1) : Ext r r H H1 ∧ RH S r m H1 := by
  have x : Ext r r H H1 := ⟨⟨[], by simp, fun b hb => by simp at hb⟩, fun b o _ h n => e.2.1 b o (by simp) h n, e.2.2⟩
  refine ⟨x, R.len, R.nd, fun l a o h1 h2 => ?_, R1.tabs⟩
  have k := R.obj l a o h1 h2
  refine k.keep x ?_
  obtain ⟨u, h3⟩ : ∃ u, H a = some u ∧ ∀ ps, u ≠ .tbl ps := by
    cases o with
    | lst xs => obtain ⟨ys, h, _⟩ := k; exact ⟨_, h, fun ps z => by cases z⟩
    | dct kvs => obtain ⟨u, h, _, _, nt, _⟩ := DctR.o k; exact ⟨u, h, nt⟩
    | ins c fs => obtain ⟨dx, gs, h, _⟩ := k; exact ⟨_, h, fun ps z => by cases z⟩
  rw [h3.1]
  exact e.2.1 a u (by simp) h3.1 h3.2
theorem lift_ge {r : List Addr} {m : MH} {H : Hp} {x : Res PV} {Q : VK} {E : XK} (R : RH S r m H) (g : GE S (Rv S) r H Q E (lift m x)) : GE S (Rv S) [] H Q E x := by
  cases x with
  | ok v m1 =>
    intro r' H' b e R1 q
    obtain ⟨x, R2⟩ := lift_back R e R1
    by_cases hp : pure v = true
    · have e2 : lift m (.ok v m1) = .ok v m := if_pos hp
      rw [e2] at g
      exact g r H' b x R2 (RV.pur r q hp)
    · cases v with
      | loc l =>
        have e2 : lift m (.ok (.loc l) m1) = (match listAt m1 l with
          | some xs => guard (pures xs) (.ok (.loc m.length) (m ++ [.lst xs]))
          | none => .stuck) := rfl
        rw [e2] at g
        cases ht : listAt m1 l with
        | none => rw [ht] at g; exact (show False from g).elim
        | some xs =>
          rw [ht] at g
          obtain ⟨b1, g⟩ := GE.guard g
          obtain ⟨a, rfl, ha⟩ := q.loc_inv
          have ho : m1[l]? = some (.lst xs) := by
            unfold listAt at ht
            split at ht
            · rename_i zs h
              cases ht
              exact h
            · cases ht
          obtain ⟨ys, h1, h2⟩ := R1.obj l a _ ha ho
          have hnt : Nt H a := by
            obtain ⟨⟨t, ht', hn⟩, _⟩ := e
            rw [List.nil_append] at ht'
            subst ht'
            exact (hn a (List.mem_of_getElem? ha)).1
          have hr : a ∉ r := fun hm => by
            obtain ⟨i, hi⟩ := List.getElem?_of_mem hm
            have hl : i < m.length := by rw [← R.len]; exact (List.getElem?_eq_some_iff.mp hi).1
            have k := R.obj i a _ hi (List.getElem?_eq_getElem hl)
            obtain ⟨u, h3, h4⟩ := k.there
            obtain ⟨ps, z⟩ := hnt u h3
            subst z
            cases ho' : m[i] with
            | lst zs => rw [ho'] at k; obtain ⟨ys, h, _⟩ := k; rw [h] at h3; cases h3
            | dct kvs => rw [ho'] at k; obtain ⟨u, h, _, _, nt, _⟩ := DctR.o k; rw [h] at h3; cases h3; exact nt _ rfl
            | ins c fs => rw [ho'] at k; obtain ⟨dx, gs, h, _⟩ := k; rw [h] at h3; cases h3
          refine g (r ++ [a]) H' (.ref a) ⟨⟨[a], rfl, fun c hc => ?_⟩, x.2.1, x.2.2⟩ (R2.adopt h1 (h2.pur r b1) hr) (.loc ?_)
          · rw [List.mem_singleton.mp hc]
            exact ⟨hnt, hr⟩
          · rw [← R.len, List.getElem?_append_right (Nat.le_refl _), Nat.sub_self]
            rfl
      | _ =>
        have e2 : lift m (.ok _ m1) = .stuck := if_neg hp
        rw [e2] at g
        exact (show False from g).elim
  | exc c v m1 =>
    intro r' H' d y e R1 h q
    obtain ⟨x, R2⟩ := lift_back R e R1
    obtain ⟨b, g⟩ := GE.guard g
    exact g r H' d y x R2 h (q.pur r b)
  | stuck => exact g
theorem lift_ok {r : List Addr} {m : MH} {H : Hp} (R : RH S r m H) : RH S [] [] H := ⟨rfl, List.nodup_nil, fun l a o h => by simp at h, R.tabs⟩
end Mi
end

section
set_option autoImplicit false
set_option Elab.async false
set_option linter.all false
set_option maxRecDepth 100000
set_option maxHeartbeats 1000000
namespace Mi
open PySem PySem.Spec PyProof.Rows L2
structure DefI where
  name : Str
  qual : Str
  params : Arguments
  body : List Stmt
  scope : Scope
  N : List Str
  ps : List Str
  lam : Bool
def DefI.stat (I : DefI) : Stat := ⟨I.N, I.scope, fun _ => true, I.lam⟩
def lamQ (I : DefI) : Str := (I.qual ++ ".<locals>.") ++ "<lambda>"
structure DefF (S : Fx) (G : Gs) (f : Nat) (a : Addr) (fd : FuncData) (I : DefI) : Prop where
  fn : ∃ (oc : Value) (od : Option Addr) (dV kV doc pm : Value) (an : Option Addr) (cdv ct : Value) (osl : Array (Option Value)),
    fd = PySem.W.fnOf I.name I.qual I.params I.body I.scope dV kV doc pm an cdv ct ∧ S.K.lookup a = some ⟨oc, od, .func fd, osl⟩ ∧ PySem.W.codeIn S.K cdv I.qual = true ∧
      (I.lam = true → ∃ c P, LamX.TabB S.base S.mg c P ∧ cdv = .ref c ∧ (P, lamQ I) ∈ S.T ∧ ∀ p ∈ S.T, p.1 = P → p.2 = lamQ I)
  kp : PySem.W.keepIn S.K (.ref a) = true
  d : ∃ d, S.P.defs f = some d ∧ d.np = I.ps.length ∧ d.ns = I.N.length ∧ chkSs G d.body I.stat I.body = true
  sc : FnScope I.N I.ps I.scope
structure LawF (S : Fx) (G : Gs) : Prop where
  fn : ∀ x f, G.fn x = some f → ∃ a fd I, DefF S G f a fd I ∧ S.mg x = some (.ref a) ∧ Binds S.K fd I.ps [] ∧ ∀ q ∈ G.kf f, KForm fd I.ps q.1 q.2.1 q.2.2 ∧ I.ps ≠ []
  glb : ∀ x g, G.glb x = some g → ∃ v y u, S.P.glob g = some v ∧ S.mg x = some u ∧ RelV y u ∧ ∀ r H, RV S.K r H v y
  exc : ∀ x c, G.exc x = some c → ∃ Cc fI fd f, ExD S.prog S.K Cc fI fd f ∧ S.mg x = some (.ref Cc) ∧ S.xc c = Cc ∧ S.xf c = f ∧ S.mg "super" = none
  ref : ∀ x c, G.ref x = some c → ∃ g CS f, (∀ X : Cx, X.K = S.K → X.mg = S.mg → RefD X x g CS f) ∧ S.xc c = CS ∧ S.xf c = f
  blt : ∀ x, G.blt x = true → S.mg x = none
variable {S : Fx} {G : Gs}
theorem RE.start {r : List Addr} {H : Hp} {vs : List PV} {ys : List V} (h : RVs S.K r H vs ys) (n : Nat) : RE S r H (vs.map some ++ List.replicate n none) (ys.map some ++ List.replicate n none) := by
  refine ⟨by simp [h.length], fun i v e => ?_⟩
  by_cases hi : i < vs.length
  · rw [List.getElem?_append_left (by rw [List.length_map]; exact hi), List.getElem?_map] at e
    cases e2 : vs[i]? with
    | none => rw [e2] at e; cases e
    | some w =>
      rw [e2] at e
      cases e
      obtain ⟨y, h1, h2⟩ := h.get e2
      refine ⟨y, ?_, h2⟩
      rw [List.getElem?_append_left (by rw [List.length_map, ← h.length]; exact hi), List.getElem?_map, h1]
      rfl
  · rw [List.getElem?_append_right (by rw [List.length_map]; omega)] at e
    have := List.mem_of_getElem? e
    have := List.eq_of_mem_replicate this
    cases this
abbrev bcx (S : Fx) (I : DefI) (a : Addr) (cdv : Value) (A : Around) (outer : List PySem.Env) (s : Shared) (H : Hp) (E : XK) : Cx := cxOf (L2.CX S.prog S.w) S.prog S.w S.K S.mg S.base I.N I.qual I.scope a cdv A outer s H E
theorem body_takes (I : DefI) (a : Addr) (cdv : Value) (A : Around) (outer : List PySem.Env) (s : Shared) (H : Hp) (E : XK) : Takes (bcx S I a cdv A outer s H E) (fun cls d _ H => E cls d H) := takes_of rfl rfl rfl rfl
theorem body_passes (I : DefI) (a : Addr) (cdv : Value) (A : Around) (outer : List PySem.Env) (s : Shared) (H : Hp) (E : XK) : Passes (L2.CX S.prog S.w) (bcx S I a cdv A outer s H E) E := passes_call (body_takes I a cdv A outer s H E) (fun _ _ _ _ h => h)
theorem body_good (L : LawF S G) {n : Nat} (ih : ∀ {f : Nat} {a : Addr} {fd : FuncData} {I : DefI}, DefF S G f a fd I → FnOk S.prog S.w S.K S.mg S.base (L2.CX S.prog S.w) (3 * n) a fd I.ps (spOf S (callD S.P n) f))
    {I : DefI} (hsc : FnScope I.N I.ps I.scope) {a : Addr} {cdv : Value} (hlam : I.lam = true → ∃ c P, LamX.TabB S.base S.mg c P ∧ cdv = .ref c ∧ (P, lamQ I) ∈ S.T ∧ ∀ p ∈ S.T, p.1 = P → p.2 = lamQ I)
    {A : Around} {outer : List PySem.Env} {s : Shared} {H : Hp} {E : XK} (hr : Room (3 * n + 2) (A.deeper (envOfC I.qual I.scope s.heap.objs.size a cdv))) : Good S G I.stat (bcx S I a cdv A outer s H E) (callD S.P n) E (3 * n) where
  gx := {
    fn := fun x f' h => by
      obtain ⟨a', fd', I', F', h1, h2, h3⟩ := L.fn x f' h
      exact ⟨a', fd', I'.ps, ⟨h1, F'.kp, ih F', h2⟩, h3⟩
    glb := L.glb
    exc := L.exc
    ref := fun x c h => by
      obtain ⟨g', CS, f', h1, h2⟩ := L.ref x c h
      exact ⟨g', CS, f', h1 _ rfl rfl, h2⟩
    blt := L.blt }
  K := rfl
  w := rfl
  calm := rfl
  un := by
    have := hr.un
    show (A.deeper (envOfC I.qual I.scope s.heap.objs.size a cdv)).units + 65 < cLine
    omega
  N := rfl
  nd := hsc.nd
  sc := rfl
  st := fun _ _ => .inl rfl
  room := .inl hr
  pas := body_passes I a cdv A outer s H E
  lam := fun h => by
    have e : (bcx S I a cdv A outer s H E).env.qual ++ "<lambda>" = lamQ I := rfl
    rw [e]
    obtain ⟨c, P, h1, h2, h3, h4⟩ := hlam h
    exact ⟨c, P, h1, h2, h3, h4⟩
/-- a def of the law, in whatever frames: one level more -/
theorem defs_step (L : LawF S G) {n : Nat} (ih : ∀ {f : Nat} {a : Addr} {fd : FuncData} {I : DefI}, DefF S G f a fd I → FnOk S.prog S.w S.K S.mg S.base (L2.CX S.prog S.w) (3 * n) a fd I.ps (spOf S (callD S.P n) f))
    {f : Nat} {a : Addr} {fd : FuncData} {I : DefI} (F : DefF S G f a fd I) : FnOk S.prog S.w S.K S.mg S.base (L2.CX S.prog S.w) ((3 * n + 2) + 1) a fd I.ps (spOf S (callD S.P (n + 1)) f) := by
  obtain ⟨oc, od, dV, kV, doc, pm, an, cdv, ct, osl, rfl, lk, hcd, hlam⟩ := F.fn
  obtain ⟨d, d1, d2, d3, d4⟩ := F.d
  have open_ : ∀ {xs : List PV} {m : MH} {r : List Addr} {H : Hp} {vs : List V} {Q : VK} {E : XK}, RH S r m H → RVs S.K r H xs vs → GE S (Rv S) r H Q E (callD S.P (n + 1) f xs m) → xs.length = d.np ∧ ∃ (r1 : List Addr) (m1 : MH), RH S r1 m1 H ∧ RVs S.K r1 H xs vs ∧ GE S (Rv S) r1 H Q E (runB S.P (callD S.P n) d xs m1) := fun {xs m r H vs Q E} R hv g => by
    rw [callD, run, d1] at g
    obtain ⟨b, g⟩ := GE.guard g
    refine ⟨of_decide_eq_true b, ?_⟩
    by_cases hl : (d.lv.lifts && pures xs) = true
    · rw [if_pos hl] at g
      exact ⟨[], [], lift_ok R, hv.pur [] (ands hl).2, lift_ge R g⟩
    · rw [if_neg hl] at g
      exact ⟨r, m, R, hv, g⟩
  refine fn_of lk hcd F.sc (fun vs H Q E ⟨r, m, xs, R, hv, g⟩ => by rw [← hv.length, (open_ R hv g).1, d2]) fun A outer s H vs Q E hr hsp => ?_
  obtain ⟨r0, m0, xs, R0, hv0, g0⟩ := hsp
  obtain ⟨hl, r, m, R, hv, g⟩ := open_ R0 hv0 g0
  unfold runB at g
  have gd := body_good L ih F.sc hlam (E := E) (H := H) (outer := outer) hr
  have gs : GoodS S G I.stat (bcx S I a cdv A outer s H E) (callD S.P n) E (3 * n) := ⟨gd, passes_of rfl, body_takes I a cdv A outer s H E, F.sc.kind, hr.mono (by omega)⟩
  refine ⟨_, sndSs d.body gs d4, r, xs.map some ++ List.replicate (d.ns - d.np) none, m, ?_, R, ?_⟩
  · have hs : L2.start I.N vs = vs.map some ++ List.replicate (d.ns - d.np) none := by
      unfold L2.start
      rw [d3, ← hl, hv.length]
    rw [hs]
    exact RE.start hv _
  · cases hx : execs S.P (callD S.P n) d.body (xs.map some ++ List.replicate (d.ns - d.np) none) m with
    | ok fl m1 =>
      rw [hx] at g
      intro r1 H1 b e1 R1 q
      cases fl with
      | next e =>
        cases b with
        | inl σ => exact leave_ge R e1 R1 .non g
        | inr y => exact (show False from q).elim
      | ret v =>
        cases b with
        | inl σ => exact (show False from q).elim
        | inr y => exact leave_ge R e1 R1 q g
    | exc c v m1 => rw [hx] at g; exact g
    | stuck => rw [hx] at g; exact g
/-- at every level -/
theorem defs_ok (L : LawF S G) (n : Nat) : ∀ {f : Nat} {a : Addr} {fd : FuncData} {I : DefI}, DefF S G f a fd I → FnOk S.prog S.w S.K S.mg S.base (L2.CX S.prog S.w) (3 * n) a fd I.ps (spOf S (callD S.P n) f) := by
  induction n with
  | zero => exact fun _ => ⟨fun vs H Q E ⟨r, m, xs, _, _, g⟩ => (show False from g).elim, fun A outer s H args us vs Q E _ _ _ _ ⟨r, m, xs, _, _, g⟩ => (show False from g).elim⟩
  | succ n ih => exact fun F => defs_step L ih F
end Mi
end

section
set_option autoImplicit false
set_option Elab.async false
set_option linter.all false
set_option maxRecDepth 100000
set_option maxHeartbeats 1000000
namespace Mi
open PySem PySem.Spec PyProof.Rows L2
/-- such a class's object -/
def clsVB (C : Addr) (o : Obj) : Bool := decide (o.cls = .type "type") && match o.data with
  | .cls cd => cd.hasDict && !cd.hasDel && (match cd.mro with
    | .ref c :: bm => decide (c = C) && PySem.HandSPX.refsVE bm
    | _ => false) && (match o.slots.toList with
    | [_, _, _, _, some (.builtin n), _] => decide (n = "ValueError.__new__")
    | _ => false)
  | _ => false
theorem clsV_ok {C : Addr} {o : Obj} (h : clsVB C o = true) : ∃ nm q N bs bm sn sub ab col dd k0 k1 k2 k3 k5, o = excClassObj nm q C N bs bm true sn sub ab col dd k0 k1 k2 k3 k5 "ValueError.__new__" ∧ PySem.HandSPX.refsVE bm = true := by
  obtain ⟨oc, od, dt, sl⟩ := o
  unfold clsVB at h
  obtain ⟨h1, h2⟩ := ands h
  have h1 := of_decide_eq_true h1
  simp only at h1 h2
  subst h1
  cases dt with
  | cls cd =>
    obtain ⟨nm, bs, mro, ns, qn, hd, sn, sub, ab, col, del⟩ := cd
    simp only at h2
    obtain ⟨h2, h5⟩ := ands h2
    obtain ⟨h2, h4⟩ := ands h2
    obtain ⟨h2, h3⟩ := ands h2
    obtain ⟨l⟩ := sl
    cases mro with
    | nil => cases h4
    | cons v bm =>
      cases v with
      | ref c =>
        obtain ⟨h6, h7⟩ := ands h4
        have h6 := of_decide_eq_true h6
        subst h6
        cases hd with
        | false => cases h2
        | true =>
          cases del with
          | true => cases h3
          | false =>
            match l, h5 with
            | [k0, k1, k2, k3, some (.builtin n), k5], h5 =>
              have h5 := of_decide_eq_true h5
              subst h5
              exact ⟨nm, qn, ns, bs, bm, sn, sub, ab, col, od, k0, k1, k2, k3, k5, rfl, h7⟩
      | _ => cases h4
  | _ => cases h2
def oexB (K : PySem.W.Frag) (C : Addr) : Bool := (match K.lookup C with
  | some o => clsVB C o
  | none => false) && decide (PySem.W.findIn K (.ref C) "__setattr__" = some (some (.builtin "object.__setattr__"))) && decide (PySem.W.subIn K (.ref C) (.type "BaseException") = some true) && decide (PySem.W.typeIn K (.ref C) = some (.type "type")) && PySem.W.keepIn K (.ref C)
theorem oex_ok {K : PySem.W.Frag} {C : Addr} (h : oexB K C = true) : OexC K C := by
  unfold oexB at h
  obtain ⟨h, h5⟩ := ands h
  obtain ⟨h, h4⟩ := ands h
  obtain ⟨h, h3⟩ := ands h
  obtain ⟨h1, h2⟩ := ands h
  cases q : K.lookup C with
  | none => rw [q] at h1; cases h1
  | some o =>
    rw [q] at h1
    obtain ⟨nm, q', N, bs, bm, sn, sub, ab, col, dd, k0, k1, k2, k3, k5, rfl, hb⟩ := clsV_ok h1
    exact ⟨⟨nm, q', N, bs, bm, sn, sub, ab, col, dd, k0, k1, k2, k3, k5, q, hb⟩, of_decide_eq_true h2, of_decide_eq_true h3, of_decide_eq_true h4, h5⟩
/-- a def without defaults, called with keywords -/
theorem kformN {K : PySem.W.Frag} {x qual : Str} {params : Arguments} {body : List Stmt} {scope : Scope} {kws : List (Str × V)} {f : Addr} {fd : FuncData} {ps ks : List Str} {np : Nat} {pm : List Nat} (F : FunD K x qual params body scope [] kws f fd)
    (h : ∀ (kV doc pmv : Value) (an : Option Addr) (cdv ct : Value) (us ws : List Value), us.length = np → ws.length = ks.length →
      bindArgs (PySem.W.fnOf x qual params body scope .none kV doc pmv an cdv ct) ⟨us, ks.zip ws⟩ = Pure.pure (ps.zip (pm.filterMap fun i => (us ++ ws)[i]?))) : KForm fd ps np ks pm := by
  obtain ⟨oc, od, dV, kV, doc, pmv, an, cdv, ct, osl, rfl, lk, hcd, hD, hK⟩ := F.ex
  rcases hD with ⟨_, rfl⟩ | ⟨e, _⟩
  · exact fun us ws h1 h2 => h kV doc pmv an cdv ct us ws h1 h2
  · exact absurd rfl e
variable {S : Fx} {G : Gs}
/-- a def that makes no lambda -/
theorem defF_of {f : Nat} {a : Addr} {fd : FuncData} {I : DefI} {d : Def} {dvs : List V} {kws : List (Str × V)} (F : FunD S.K I.name I.qual I.params I.body I.scope dvs kws a fd) (h1 : S.P.defs f = some d) (h2 : d.np = I.ps.length) (h3 : d.ns = I.N.length) (h4 : chkSs G d.body I.stat I.body = true) (sc : FnScope I.N I.ps I.scope) (hl : I.lam = false) : DefF S G f a fd I := by
  obtain ⟨oc, od, dV, kV, doc, pm, an, cdv, ct, osl, e, lk, hcd, _, _⟩ := F.ex
  exact ⟨⟨oc, od, dV, kV, doc, pm, an, cdv, ct, osl, e, lk, hcd, fun z => by rw [hl] at z; cases z⟩, F.kp, ⟨d, h1, h2, h3, h4⟩, sc⟩
/-- a def that makes lambdas: its table is the only one -/
theorem defF_lam {f : Nat} {at_ : Str × Option Str} {fd : FuncData} {I : DefI} {d : Def} {dvs : List V} {kws : List (Str × V)} (F : FunD S.K I.name I.qual I.params I.body I.scope dvs kws (He.fAd S.K at_) fd) (h1 : S.P.defs f = some d) (h2 : d.np = I.ps.length) (h3 : d.ns = I.N.length) (h4 : chkSs G d.body I.stat I.body = true) (sc : FnScope I.N I.ps I.scope)
    (hT : LamX.TabB S.base S.mg (He.cT S.K at_).1 (He.cT S.K at_).2) (eT : S.T = [((He.cT S.K at_).2, lamQ I)]) : DefF S G f (He.fAd S.K at_) fd I := by
  obtain ⟨oc, od, dV, kV, doc, pm, an, cdv, ct, osl, rfl, lk, hcd, _, _⟩ := F.ex
  refine ⟨⟨oc, od, dV, kV, doc, pm, an, cdv, ct, osl, rfl, lk, hcd, fun _ => ?_⟩, F.kp, ⟨d, h1, h2, h3, h4⟩, sc⟩
  obtain ⟨c, hc⟩ := He.codeIn_ref hcd
  have ec : He.codeOf S.K at_ = c := He.codeOf_eq lk hc
  have e1 : (He.cT S.K at_).1 = c := ec
  rw [e1] at hT
  refine ⟨c, _, hT, hc, by rw [eT]; exact List.mem_cons_self, fun p hp _ => ?_⟩
  rw [eT] at hp
  rw [List.mem_singleton.mp hp]
end Mi
end

section
set_option autoImplicit false
set_option Elab.async false
set_option linter.all false
set_option maxRecDepth 100000
set_option maxHeartbeats 1000000
namespace Mi
open PySem PySem.Spec PyProof.Rows L2
/-- super().__init__(x); self.f = x -/
def initBody (self x f : Str) : List Stmt → Bool
  | [.Expr (.Call (.Attribute (.Call (.Name s _) [] [] _) i p3) [.Name x1 _] [] p5) _, .Assign [.Attribute (.Name s1 _) f1 _] (.Name x2 _) _] => decide (s = "super") && decide (i = "__init__") && decide (x1 = x) && decide (s1 = self) && decide (f1 = f) && decide (x2 = x) && (p3.endLine == p5.line)
  | _ => false
theorem initBody_ok {self x f : Str} {b : List Stmt} (h : initBody self x f b = true) : ∃ p1 p2 p3 p4 p5 p6 p7 p8 p9 p10 : Pos, b = [.Expr (.Call (.Attribute (.Call (.Name "super" p1) [] [] p2) "__init__" p3) [.Name x p4] [] p5) p6, .Assign [.Attribute (.Name self p7) f p8] (.Name x p9) p10] ∧ (p3.endLine == p5.line) = true := by
  unfold initBody at h
  split at h
  · obtain ⟨h, h7⟩ := ands h
    obtain ⟨h, h6⟩ := ands h
    obtain ⟨h, h5⟩ := ands h
    obtain ⟨h, h4⟩ := ands h
    obtain ⟨h, h3⟩ := ands h
    obtain ⟨h1, h2⟩ := ands h
    cases of_decide_eq_true h1
    cases of_decide_eq_true h2
    cases of_decide_eq_true h3
    cases of_decide_eq_true h4
    cases of_decide_eq_true h5
    cases of_decide_eq_true h6
    exact ⟨_, _, _, _, _, _, _, _, _, _, rfl, h7⟩
  · cases h
def initPar (self x : Str) : Arguments → Bool
  | ⟨[], [⟨a, _, _⟩, ⟨b, _, _⟩], none, [], [], none, []⟩ => decide (a = self) && decide (b = x)
  | _ => false
theorem initPar_ok {self x : Str} {p : Arguments} (h : initPar self x p = true) : ∃ n1 p1 n2 p2, p = ⟨[], [⟨self, n1, p1⟩, ⟨x, n2, p2⟩], none, [], [], none, []⟩ := by
  unfold initPar at h
  split at h
  · obtain ⟨h1, h2⟩ := ands h
    cases of_decide_eq_true h1
    cases of_decide_eq_true h2
    exact ⟨_, _, _, _, rfl⟩
  · cases h
def initSc (self x : Str) (sc : Scope) : Bool := decide (sc.kind = .function) && !sc.isCoroutine && !sc.isGenerator && (sc.names.all fun y => !decide (y.2 = .cell)) && decide (sc.names.lookup self = some .local) && decide (sc.names.lookup x = some .local) &&
  decide (sc.names.lookup ("super" : Str) = some .globalImplicit) && decide (sc.names.lookup ("__class__" : Str) = some .free)
def initOf (K : PySem.W.Frag) (C : Addr) : Addr := match PySem.W.findIn K (.ref C) "__init__" with
  | some (some (.ref a)) => a
  | _ => 0
def initCell (K : PySem.W.Frag) (C cc : Addr) : Bool := match K.lookup cc with
  | some o => (match o.data with
    | .cell (some (.ref D)) => decide (D = C)
    | _ => false)
  | none => false
def initFile (K : PySem.W.Frag) (file : Str) (cda : Addr) : Bool := match K.lookup cda with
  | some o => (match o.data with
    | .fields vs => (match (vs[2]? : Option Value) with
      | some (.str z _) => file == z
      | _ => false)
    | _ => false)
  | none => false
def initFd (K : PySem.W.Frag) (file : Str) (C : Addr) (self x f : Str) (fd : FuncData) : Bool := decide (fd.name = "__init__") && (match fd.body with
    | .stmts b => initBody self x f b
    | _ => false) && initPar self x fd.params && initSc self x fd.scope && decide (fd.globals = mainGlobals) && decide (fd.builtins = builtinsNs) && (match fd.closure with
    | [(n, cc)] => decide (n = "__class__") && initCell K C cc
    | _ => false) && (match fd.defaults with
    | .none => true
    | _ => false) && (match fd.code with
    | .ref cda => PySem.W.codeIn K (.ref cda) fd.qualname && initFile K file cda
    | _ => false)
def exdB (file : Str) (self x f : Str) (K : PySem.W.Frag) (C : Addr) : Bool := oexB K C && decide (PySem.W.findIn K (.ref C) "__init__" = some (some (.ref (initOf K C)))) && decide (PySem.W.typeIn K (.ref (initOf K C)) = some (.type "function")) && (match K.lookup (initOf K C) with
    | some o => (match o.data with
      | .func fd => initFd K file C self x f fd
      | _ => false)
    | none => false) && decide (PySem.W.nsIn K cStatics "thirdparty.any" = some none) && decide (PySem.W.ks_superIn K C C "__init__" = some (some (.builtin "ValueError.__init__"))) && decide (PySem.W.subIn K (.ref C) (.type "ValueError") = some true) && decide (PySem.W.mroIn K C (.ref C) = some true) && decide (PySem.W.findIn K (.ref C) f = some none)
end Mi
end

section
set_option autoImplicit false
set_option Elab.async false
set_option linter.all false
set_option maxRecDepth 100000
set_option maxHeartbeats 1000000
namespace Mi
open PySem PySem.Spec PyProof.Rows L2
theorem exd_ok {P : Program} {K : PySem.W.Frag} {C : Addr} {self x f : Str} (h : exdB (P.main.file : Str) self x f K C = true) (htop : (P.main.scope.names.lookup ("super" : Str)).isSome = false) (n1 : (self == x) = false) (n2 : (x == ("__debug__" : Str)) = false) (n3 : (self == ("__debug__" : Str)) = false)
    (hB : ∀ (qual : Str) (e1 e2 : Option Expr) (q1 q2 : Pos) (body : List Stmt) (scope : Scope) (kV doc pm ct : Value) (an : Option Addr) (cdv : Value) (cc : Addr) (us : List Value), us.length = 2 →
      bindArgs (PySem.W.ksFn "__init__" qual ⟨[], [⟨self, e1, q1⟩, ⟨x, e2, q2⟩], none, [], [], none, []⟩ body scope .none kV doc pm an cdv ct cc) ⟨us, []⟩ = Pure.pure ([self, x].zip us)) : ∃ fI fd, ExD P K C fI fd f := by
  unfold exdB at h
  obtain ⟨h, h9⟩ := ands h
  obtain ⟨h, h8⟩ := ands h
  obtain ⟨h, h7⟩ := ands h
  obtain ⟨h, h6⟩ := ands h
  obtain ⟨h, h5⟩ := ands h
  obtain ⟨h, h4⟩ := ands h
  obtain ⟨h, h3⟩ := ands h
  obtain ⟨h1, h2⟩ := ands h
  cases q : K.lookup (initOf K C) with
  | none => rw [q] at h4; cases h4
  | some o =>
    obtain ⟨oc, od, dt, osl⟩ := o
    rw [q] at h4
    cases dt <;> first | (cases h4; done) | skip
    rename_i fd
    have h4 : initFd K (P.main.file : Str) C self x f fd = true := h4
    unfold initFd at h4
    obtain ⟨g, g9⟩ := ands h4
    obtain ⟨g, g8⟩ := ands g
    obtain ⟨g, g7⟩ := ands g
    obtain ⟨g, g6⟩ := ands g
    obtain ⟨g, g5⟩ := ands g
    obtain ⟨g, g4⟩ := ands g
    obtain ⟨g, g3⟩ := ands g
    obtain ⟨g1, g2⟩ := ands g
    obtain ⟨nm, qual, params, body, scope, glob, clo, dfl, kwd, doc, pm, an, code, ct, bi⟩ := fd
    simp only at g1 g2 g3 g4 g5 g6 g7 g8 g9
    cases of_decide_eq_true g1
    cases of_decide_eq_true g5
    cases of_decide_eq_true g6
    obtain ⟨b, rfl⟩ : ∃ b, body = .stmts b := by cases body <;> first | exact ⟨_, rfl⟩ | (cases g2; done)
    obtain ⟨p1, p2, p3, p4, p5, p6, p7, p8, p9, p10, hb, hline⟩ := initBody_ok g2
    obtain ⟨e1, q1, e2, q2, rfl⟩ := initPar_ok g3
    cases dfl <;> first | (cases g8; done) | skip
    obtain ⟨cda, rfl⟩ : ∃ c, code = .ref c := by cases code <;> first | exact ⟨_, rfl⟩ | (cases g9; done)
    obtain ⟨g10, g11⟩ := ands g9
    match clo, g7, q with
    | [(n, cc)], g7, q =>
      obtain ⟨g12, g13⟩ := ands g7
      cases of_decide_eq_true g12
      unfold initSc at g4
      obtain ⟨s, s8⟩ := ands g4
      obtain ⟨s, s7⟩ := ands s
      obtain ⟨s, s6⟩ := ands s
      obtain ⟨s, s5⟩ := ands s
      obtain ⟨s, s4⟩ := ands s
      obtain ⟨s, s3⟩ := ands s
      obtain ⟨s1, s2⟩ := ands s
      refine ⟨initOf K C, _, oex_ok h1, of_decide_eq_true h2, of_decide_eq_true h3, ⟨oc, od, osl, qual, _, b, scope, kwd, doc, pm, ct, an, cda, cc, self, x, p1, p2, p3, p4, p5, p6, p7, p8, p9, p10, ⟨self, e1, q1⟩, rfl, q, g10, ?_, ?_, hb, rfl, rfl, hline, n1, n2, n3, of_decide_eq_true s1, by simpa using s2, by simpa using s3, ?_, of_decide_eq_true s5, of_decide_eq_true s6, of_decide_eq_true s7, of_decide_eq_true s8, ?_⟩, htop, of_decide_eq_true h5, of_decide_eq_true h6, of_decide_eq_true h7, of_decide_eq_true h8, of_decide_eq_true h9⟩
      · unfold initFile at g11
        cases z : K.lookup cda with
        | none => rw [z] at g11; cases g11
        | some ob =>
          obtain ⟨c1, c2, c3, c4⟩ := ob
          rw [z] at g11
          cases c3 <;> first | (cases g11; done) | skip
          rename_i vs
          have g11 : (match (vs[2]? : Option Value) with
            | some (.str z _) => (P.main.file : Str) == z
            | _ => false) = true := g11
          split at g11
          · rename_i z1 t1 e3
            exact ⟨_, _, _, _, z1, t1, rfl, e3, g11⟩
          · cases g11
      · unfold initCell at g13
        cases z : K.lookup cc with
        | none => rw [z] at g13; cases g13
        | some ob =>
          obtain ⟨c1, c2, c3, c4⟩ := ob
          rw [z] at g13
          have e : c3 = .cell (some (.ref C)) := by
            clear z
            cases c3 <;> first | (cases g13; done) | skip
            rename_i v
            cases v with
            | none => cases g13
            | some u => cases u <;> first | (cases g13; done) | (cases of_decide_eq_true g13; rfl)
          subst e
          exact ⟨_, _, _, rfl⟩
      · intro y hy e
        have := List.all_eq_true.mp s4 y hy
        rw [e] at this
        simp at this
      · exact Binds.all fun us hl => hB qual e1 e2 q1 q2 b scope kwd doc pm ct an _ cc us hl
    | [], g7, _ => cases g7
    | _ :: _ :: _, g7, _ => cases g7
end Mi
end

section
set_option autoImplicit false
set_option Elab.async false
set_option linter.all false
set_option maxRecDepth 100000
set_option maxHeartbeats 1000000
namespace Mi
open PySem PySem.Spec PyProof.Rows L2
theorem refD_of {K : PySem.W.Frag} {mg : Str → Option Value} {x f a n en : Str} {g CS : Addr} {pg : Arguments} {bg : List Stmt} {sg : Scope} {dvs : List V} {kws : List (Str × V)} {fd : FuncData} (F : FunD K x x pg bg sg dvs kws g fd) (hmg : mg x = some (.ref g)) (xf : XfC K CS) (nof : PySem.W.findIn K (.ref CS) f = some none)
    (exm : PySem.W.exmOne K (.ref CS) (.ref CS) = some true) (hb : Binds K fd [a] []) (sc : FnScope [a, n] [a] sg) (l1 : sg.names.lookup a = some .local) (l2 : sg.names.lookup n = some .local) (l3 : sg.names.lookup en = some .globalImplicit) (hme : mg en = some (.ref CS))
    (d1 : (en == ("__debug__" : Str)) = false) (d2 : (n == ("__debug__" : Str)) = false) (d3 : (n == ("__classdict__" : Str)) = false) (d4 : (a == ("__debug__" : Str)) = false) (d5 : (a == ("__classdict__" : Str)) = false)
    (hbody : ∃ (j : Nat) (p1 p2 p3 p4 p5 p6 p7 p8 p9 p10 p11 : Pos), bg = [.Try [.Expr (.Call (.Name a p1) [] [] p2) p3] [.ExceptHandler (some (.Name en p4)) (some n) [.Return (some (.Attribute (.Name n p5) f p6)) p7] p8] [] [] p9, .Return (some (.Constant (.str ⟨#[]⟩) j p10)) p11]) :
    ∀ X : Cx, X.K = K → X.mg = mg → RefD X x g CS f := by
  intro X eK em
  subst eK em
  obtain ⟨oc, od, dV, kV, doc, pm, an, cdv, ct, osl, rfl, lk, hcd, _, _⟩ := F.ex
  obtain ⟨j, p1, p2, p3, p4, p5, p6, p7, p8, p9, p10, p11, e⟩ := hbody
  exact ⟨hmg, F.kp, xf, nof, exm, oc, od, osl, pg, bg, sg, dV, kV, doc, pm, cdv, ct, an, a, n, en, j, p1, p2, p3, p4, p5, p6, p7, p8, p9, p10, p11, lk, hcd, hb, sc, l1, l2, l3, hme, d1, d2, d3, d4, d5, e⟩
end Mi
end

section
set_option autoImplicit false
set_option Elab.async false
set_option linter.all false
set_option maxRecDepth 100000
set_option maxHeartbeats 1000000
namespace Mi
open PySem PySem.Spec PyProof.Rows L2
theorem obj_frz {P : Program} {w : World} {H : Hp} {h : Heap} {a : Addr} {ys : List V} {ob : Obj} (ha : H a = some (.lst ys)) : ∀ (o : HO) {b : Addr}, ObjOk P w H h b o → ObjOk P w (upd H a (.frz ob (.lst ys))) h b o
  | .lst xs, b, x => x
  | .tup xs, b, x => x
  | .dK kvs, b, x => x
  | .dT kvs, b, ⟨x1, x2, xs, x3, x4⟩ => by
    refine ⟨x1, x2, xs, Paired.mapP x3 fun p q ⟨h1, h2, h3⟩ => ⟨h1, ?_, h3⟩, x4⟩
    rw [upd_ne fun e => by rw [e, ha] at h2; cases h2]
    exact h2
  | .set S n, b, x => x
  | .ins C dx fs, b, ⟨x1, x2⟩ => by
    refine ⟨?_, x2⟩
    rw [upd_ne fun e => by rw [e, ha] at x1; cases x1]
    exact x1
  | .own y, b, x => x
  | .xd fs, b, x => x
  | .rng lo hi, b, x => x
  | .frz o u, b, ⟨x1, x2⟩ => ⟨x1, obj_frz ha u x2⟩
  | .tbl ps, b, x => x
  | .met f y, b, x => x
  | .ext φ, b, x => x
theorem none_frz {H : Hp} {a b : Addr} {ys : List V} {ob : Obj} (ha : H a = some (.lst ys)) : upd H a (.frz ob (.lst ys)) b = none ↔ H b = none := by
  by_cases e : b = a
  · rw [e, upd_same, ha]; simp
  · rw [upd_ne e]
/-- a promise on lists that stand is one on lists -/
theorem fn_frz {P : Program} {w : World} {K : PySem.W.Frag} {mg : Str → Option Value} {base : Heap} {k : Nat} {f : Addr} {fd : FuncData} {x : Str} {sp : Sp} (F : FnOk P w K mg base (L2.CX P w) k f fd [x] sp) :
    FnOk P w K mg base (L2.CX P w) k f fd [x] (fun vs H Q E => sp vs H Q E ∨ ((∀ c d H', ¬ E c d H') ∧ ∃ a ys, vs = [.ref a] ∧ H a = some (.lst ys) ∧ ∀ ob, sp vs (upd H a (.frz ob (.lst ys))) Q E)) := by
  refine ⟨fun vs H Q E h => ?_, fun A outer s H args us vs Q E hr e0 hb rv h => ?_⟩
  · rcases h with h | ⟨_, a, ys, rfl, _, _⟩
    · exact F.len vs H Q E h
    · rfl
  · rcases h with h | ⟨hE, a, ys, rfl, ha, h⟩
    · exact F.run A outer s H args us vs Q E hr e0 hb rv h
    · obtain ⟨z, its, n, r, eo⟩ := e0.hok a _ ha
      have hok : HOk P w (upd H a (.frz { cls := .type "list", data := .seq its.toArray n } (.lst ys))) s.heap := fun b o e => by
        by_cases hb : b = a
        · subst hb
          rw [upd_same] at e
          cases e
          exact ⟨eo, z, its, n, r, eo⟩
        · rw [upd_ne hb] at e
          exact obj_frz ha o (e0.hok b o e)
      have e1 : Env0 P w K mg base A outer s (upd H a (.frz { cls := .type "list", data := .seq its.toArray n } (.lst ys))) := ⟨e0.frames, e0.mod, fun b o e => ⟨(e0.bs b o e).1, (none_frz ha).mpr (e0.bs b o e).2⟩, e0.bsz, e0.funs, fun b hb => (none_frz ha).mpr (e0.frf b hb), hok, e0.bare⟩
      refine codeAny_mono (F.run A outer s _ args us _ Q E hr e1 hb rv (h _)) fun rr s' hh => ?_
      cases rr with
      | error e =>
        obtain ⟨_, _, _, _, _, _, _, _, _, _, _, _, zz⟩ := hh
        exact (hE _ _ _ zz).elim
      | ok fl =>
        cases fl with
        | ret u =>
          obtain ⟨v, H', os, bare, un, ok', rv', q⟩ := hh
          refine ⟨v, H', os, bare, ⟨fun b o e n => un.keep b o e ((none_frz ha).mpr n), fun b o e n => un.slot b o e ((none_frz ha).mpr n), fun b o e n => un.free b o e ((none_frz ha).mpr n), un.there, fun b xs e => un.tups b xs ?_, fun b o u e => un.frzs b o u ?_, fun b ps e => un.tbls b ps ?_⟩, ok', rv', q⟩
          all_goals
            rw [upd_ne fun z => by rw [z, ha] at e; cases e]
            exact e
        | _ => exact hh.elim
end Mi
end

section
set_option autoImplicit false
set_option Elab.async false
set_option linter.all false
set_option maxRecDepth 100000
set_option maxHeartbeats 1000000
namespace Mi
open PySem PySem.Spec PyProof.Rows L2
theorem fn_weak {P : Program} {w : World} {K : PySem.W.Frag} {mg : Str → Option Value} {base : Heap} {CX : CXT} {k : Nat} {f : Addr} {fd : FuncData} {ps : List Str} {sp sp' : Sp} (F : FnOk P w K mg base CX k f fd ps sp) (h : ∀ vs H Q E, sp' vs H Q E → sp vs H Q E) : FnOk P w K mg base CX k f fd ps sp' :=
  ⟨fun vs H Q E z => F.len vs H Q E (h _ _ _ _ z), fun A outer s H args us vs Q E hr e0 hb rv z => F.run A outer s H args us vs Q E hr e0 hb rv (h _ _ _ _ z)⟩
/-- a promise on lists that stand, of lists too -/
def frzS (sp : Sp) : Sp := fun vs H Q E => sp vs H Q E ∨ ((∀ c d H', ¬ E c d H') ∧ ∃ a ys, vs = [.ref a] ∧ H a = some (.lst ys) ∧ ∀ ob, sp vs (upd H a (.frz ob (.lst ys))) Q E)
theorem law_at {l : PySem.W.OpenLaw} {w : World} {K : PySem.W.Frag} {mg : Str → Option Value} {h : Heap} {fa : Addr} {fd : FuncData} {n N f : Nat} {x : Str} {mk : Heap → Fx} {cs : List (Addr × Addr)} {T : List (Addr × Str)} {P : Prog}
    (eK : ∀ b, (mk b).K = K) (eT : ∀ b, (mk b).T = T) (eP : ∀ b, (mk b).P = P)
    (h1 : ∀ p ∈ cs, h.get? p.2 = some { cls := .none, data := .fields #[] }) (h2 : ∀ p ∈ cs, K.lookup p.2 = none) (h3 : ∀ p ∈ cs, PySem.W.CodeHd h p.1 p.2) (h4 : ∀ (s : Shared) (u : Value), BindsTo s fd ⟨[u], []⟩ [(x, u)])
    (hT : ∀ q ∈ T, ∃ p ∈ cs, p.2 = q.1)
    (plain : ∀ ns : List Int, ns.length ≤ n → (∀ z ∈ ns, Builtin.Int.intBits z ≤ 1048576) → ∃ m', callD P N f [.seq ns] [] = .ok (.bl true) m')
    (hF : ∀ base : Heap, K.In base → base.Ns mainGlobals mg → (∀ p ∈ cs, LamX.TabB base mg p.1 p.2) → FnOk l.prog w K mg base (L2.CX l.prog w) (3 * N) fa fd [x] (spOf (mk base) (callD P N) f)) :
    LamX.LawAtS l w K (L2.CX l.prog w) (3 * N) n x mg fa h := by
  refine ⟨fd, cs, fun vs H Q E => ∀ b, frzS (spOf (mk b) (callD P N) f) vs H Q E, h1, h2, h3, h4, fun H a ns hl hbits hcs hS b => ?_, fun base k1 k2 k3 => fn_weak (fn_frz (hF base k1 k2 k3)) fun vs H Q E z => z base⟩
  obtain ⟨m', e⟩ := plain ns hl hbits
  have fin : ∀ {H2 : Hp}, ScrL K H2 a (ns.map V.int) → (∀ p ∈ cs, H2 p.2 = some (.tbl #[])) → spOf (mk b) (callD P N) f [.ref a] H2 (fun v _ => v = .bl true) fun _ _ _ => False := fun {H2} hs hc => by
    refine ⟨[], [], [.seq ns], ⟨rfl, List.nodup_nil, fun l a o h => by simp at h, fun q hq => ?_⟩, .cons (.seq (by rw [eK]; exact hs)) .nil, ?_⟩
    · rw [eT] at hq
      obtain ⟨p, hp, e⟩ := hT q hq
      rw [← e]
      exact LamX.TabS.nil (hc p hp)
    · rw [e]
      intro r' H' y _ _ q
      cases q
      rfl
  rcases hS with (hS | ⟨ob, hS⟩) | hS
  · refine .inr ⟨fun _ _ _ z => z, a, ns.map V.int, rfl, hS, fun ob => fin (.inl ⟨ob, upd_same⟩) fun p hp => ?_⟩
    rw [upd_ne fun z => by
      have := hcs p hp
      rw [z, hS] at this
      cases this]
    exact hcs p hp
  · exact .inl (fin (.inl ⟨ob, hS⟩) hcs)
  · exact .inl (fin (.inr hS) hcs)
/-- names with numbers -/
def lookN (l : List (String × Nat)) (x : Str) : Option Nat := (l.map fun p => (PySem.Str.ofString p.1, p.2)).lookup x
theorem lookN_mem {l : List (String × Nat)} {x : Str} {f : Nat} (h : lookN l x = some f) : ∃ p ∈ l, PySem.Str.ofString p.1 = x ∧ p.2 = f := by
  unfold lookN at h
  induction l with
  | nil => cases h
  | cons p r ih =>
    rw [List.map_cons, List.lookup_cons] at h
    cases q : (x == PySem.Str.ofString p.1) with
    | true =>
      rw [q] at h
      exact ⟨p, List.mem_cons_self, (beq_iff_eq.mp q).symm, Option.some.inj h⟩
    | false =>
      rw [q] at h
      obtain ⟨p', h1, h2⟩ := ih h
      exact ⟨p', List.mem_cons_of_mem _ h1, h2⟩
theorem lookN_all {l : List (String × Nat)} {Q : Str → Nat → Prop} (h : ∀ p ∈ l, Q (PySem.Str.ofString p.1) p.2) : ∀ x f, lookN l x = some f → Q x f := fun x f e => by
  obtain ⟨p, hp, rfl, rfl⟩ := lookN_mem e
  exact h p hp
section
variable {K : PySem.W.Frag} {h : Heap} {mg : Str → Option Value}
/-- a name of an int -/
theorem glb_int (X : K.In h) (G : h.Ns mainGlobals mg) {x : Str} {i : Int} (c : (He.Fa.int x i).ok K = true) : ∃ v y u, some (PV.int i) = some v ∧ mg x = some u ∧ RelV y u ∧ ∀ r H, RV K r H v y := by
  obtain ⟨t, e⟩ := He.int_ok X G c
  exact ⟨_, .int i, _, rfl, e, ⟨t, rfl⟩, fun r H => .int i⟩
/-- atoms -/
def dvP : He.Dv → PV
  | .int i => .int i
  | .str x => .str x
  | .bl b => .bl b
  | _ => .non
def dvB : He.Dv → Bool
  | .int _ => true
  | .str _ => true
  | .bl _ => true
  | .non => true
  | _ => false
def noDictB (K : PySem.W.Frag) (a : Addr) : Bool := match K.lookup a with
  | some o => o.dict.isNone
  | none => false
/-- a name of a tuple of atoms -/
theorem glb_tup (X : K.In h) (G : h.Ns mainGlobals mg) {x : Str} {vs : List He.Dv} (g : mg x = some (.ref (He.ga K x))) (c : He.tupB K x vs = true) (n : noDictB K (He.ga K x) = true) (b : vs.all dvB = true) : ∃ v y u, some (PV.tup (vs.map dvP)) = some v ∧ mg x = some u ∧ RelV y u ∧ ∀ r H, RV K r H v y := by
  refine ⟨_, .ref (He.ga K x), _, rfl, g, rfl, fun r H => .tup (He.tupB_ok c H) (.inr ?_) ?_⟩
  · unfold noDictB at n
    cases q : K.lookup (He.ga K x) with
    | none => rw [q] at n; cases n
    | some o =>
      rw [q] at n
      exact ⟨o, rfl, Option.isNone_iff_eq_none.mp n⟩
  · clear c
    induction vs with
    | nil => exact .nil
    | cons d vs ih =>
      rw [List.all_cons, Bool.and_eq_true] at b
      refine .cons ?_ (ih b.2)
      cases d <;> first | exact .int _ | exact .str _ | exact .bl _ | exact .non | (cases b.1; done)
end
end Mi
end

section
set_option autoImplicit false
set_option Elab.async false
set_option linter.all false
set_option maxRecDepth 100000
set_option maxHeartbeats 1000000
namespace Mi
open PySem PySem.Spec PyProof.Rows L2 He
section
variable (n : Nat) (fs : List Fa) (ds : List DefD) (tt : List Tab) (lt : List Defn) (bx : PySem.W.Frag → Bool)
/-- the part -/
def kY (g : Addr → Option Obj) : PySem.W.Frag := frT g (cStatics :: asD g n)
def obY (g : Addr → Option Obj) : AlX := (obsT fs ds tt (kY n g), bx (kY n g) && tabsB g lt (kY n g))
theorem saysY {w : World} {h : Heap} (e : obY n fs ds tt lt bx h.get? = valX ds tt w) : SaysX fs ds tt lt bx w h (kY n h.get?) := by
  obtain ⟨e1, e2⟩ := Prod.mk.inj e
  obtain ⟨b1, b2⟩ := ba e2
  have one : ∀ q ∈ lt, PySem.W.codeHdIn (kY n h.get?) (cT (kY n h.get?) q).1 (cT (kY n h.get?) q).2 = true ∧ ∃ o, h.get? (cT (kY n h.get?) q).2 = some o ∧ emptyTab o = true := by
    intro q hq
    obtain ⟨b3, b4⟩ := ba (List.all_eq_true.mp b2 q hq)
    refine ⟨b3, ?_⟩
    split at b4
    · rename_i o ho
      exact ⟨o, ho, b4⟩
    · cases b4
  refine ⟨e1, b1, fun q hq => (one q hq).1, fun q hq => ?_, fun q hq => ?_⟩
  · obtain ⟨_, o, z1, z2⟩ := one q hq
    exact frT_none z1 z2
  · obtain ⟨_, o, z1, z2⟩ := one q hq
    exact z1.trans (congrArg some (emptyTab_eq z2))
def hookY : PySem.W.Hook where
  α := AlX
  obs s := obY n fs ds tt lt bx s.heap.get?
  val w := valX ds tt w
  says w h := ∃ K : PySem.W.Frag, K.In h ∧ SaysX fs ds tt lt bx w h K
  of _ _ e := ⟨kY n _, frT_in, saysY n fs ds tt lt bx e⟩
  keeps _ _ _ y k := by
    obtain ⟨K, z, c⟩ := y
    exact ⟨K, PySem.W.Frag.In.keeps z k, c.t, c.more, c.hd, c.out, fun q hq => k _ _ (c.empty q hq)⟩
theorem obY_eq {g : Addr → Option Obj} {s : Shared} (h : ∀ a, g a = s.heap.get? a) : obY n fs ds tt lt bx g = (hookY n fs ds tt lt bx).obs s := congrArg (obY n fs ds tt lt bx) (funext h)
end
end Mi
end

section
set_option autoImplicit false
set_option Elab.async false
set_option linter.all false
set_option maxRecDepth 100000
set_option maxHeartbeats 0
namespace Mi
open PySem PySem.Spec PyProof.Rows L2
abbrev P0 : Program := PySem.Challenge.pw_guessfewest_k01_whole_rows_that_are_move
def top (i : Nat) : Stmt := P0.main.body.getD i (.Pass ⟨0, 0, 0, 0⟩)
def I_demand : DefI := ⟨"demand", "demand", defArgs (top 4), defBody (top 4), defScope (top 4), ["is_good", "name"], ["is_good", "name"], false⟩
def I_is_in : DefI := ⟨"is_in", "is_in", defArgs (top 5), defBody (top 5), defScope (top 5), ["value", "low", "high"], ["value", "low", "high"], false⟩
def I_is_tuple : DefI := ⟨"is_tuple", "is_tuple", defArgs (top 6), defBody (top 6), defScope (top 6), ["value", "least", "most"], ["value", "least", "most"], false⟩
def I_are_in : DefI := ⟨"are_in", "are_in", defArgs (top 7), defBody (top 7), defScope (top 7), ["value", "least", "most", "low", "high", "one"], ["value", "least", "most", "low", "high"], false⟩
def I_is_set : DefI := ⟨"is_set", "is_set", defArgs (top 8), defBody (top 8), defScope (top 8), ["value", "many", "one", "two"], ["value", "many"], false⟩
def I_is_order : DefI := ⟨"is_order", "is_order", defArgs (top 9), defBody (top 9), defScope (top 9), ["value", "many"], ["value", "many"], false⟩
def I_how_many : DefI := ⟨"how_many", "how_many", defArgs (top 15), defBody (top 15), defScope (top 15), ["game", "found", "place"], ["game"], false⟩
def I_is_game : DefI := ⟨"is_game", "is_game", defArgs (top 16), defBody (top 16), defScope (top 16), ["value", "good"], ["value"], false⟩
def I_demand_game : DefI := ⟨"demand_game", "demand_game", defArgs (top 17), defBody (top 17), defScope (top 17), ["game", "name"], ["game", "name"], false⟩
def I_row_of : DefI := ⟨"row_of", "row_of", defArgs (top 18), defBody (top 18), defScope (top 18), ["game", "number", "found", "place"], ["game", "number"], false⟩
def I_number_of : DefI := ⟨"number_of", "number_of", defArgs (top 19), defBody (top 19), defScope (top 19), ["game", "row", "found", "hue"], ["game", "row"], false⟩
def I_is_row : DefI := ⟨"is_row", "is_row", defArgs (top 20), defBody (top 20), defScope (top 20), ["game", "value"], ["game", "value"], false⟩
def I_row_number : DefI := ⟨"row_number", "row_number", defArgs (top 21), defBody (top 21), defScope (top 21), ["game", "row"], ["game", "row"], false⟩
def I_common_hues : DefI := ⟨"common_hues", "common_hues", defArgs (top 22), defBody (top 22), defScope (top 22), ["hidden", "ask", "hue"], ["hidden", "ask"], false⟩
def I_answer_of : DefI := ⟨"answer_of", "answer_of", defArgs (top 23), defBody (top 23), defScope (top 23), ["kind", "hidden", "ask", "right", "found", "one", "other"], ["kind", "hidden", "ask"], false⟩
def I_answer : DefI := ⟨"answer", "answer", defArgs (top 24), defBody (top 24), defScope (top 24), ["game", "hidden", "ask"], ["game", "hidden", "ask"], false⟩
def I_hues_moved : DefI := ⟨"hues_moved", "hues_moved", defArgs (top 25), defBody (top 25), defScope (top 25), ["game", "row", "order", "hue"], ["game", "row", "order"], false⟩
def I_places_moved : DefI := ⟨"places_moved", "places_moved", defArgs (top 26), defBody (top 26), defScope (top 26), ["game", "row", "order", "place"], ["game", "row", "order"], false⟩
def I_demand_set : DefI := ⟨"demand_set", "demand_set", defArgs (top 28), defBody (top 28), defScope (top 28), ["game", "hidden", "name"], ["game", "hidden", "name"], false⟩
def I_demand_ask : DefI := ⟨"demand_ask", "demand_ask", defArgs (top 29), defBody (top 29), defScope (top 29), ["game", "ask", "name"], ["game", "ask", "name"], false⟩
def I_parts_of : DefI := ⟨"parts_of", "parts_of", defArgs (top 30), defBody (top 30), defScope (top 30), ["game", "hidden", "ask", "own", "found", "row", "reply"], ["game", "hidden", "ask"], false⟩
def I_parts : DefI := ⟨"parts", "parts", defArgs (top 31), defBody (top 31), defScope (top 31), ["game", "hidden", "ask"], ["game", "hidden", "ask"], false⟩
def I_greatest_part : DefI := ⟨"greatest_part", "greatest_part", defArgs (top 32), defBody (top 32), defScope (top 32), ["game", "hidden", "ask", "reply", "own"], ["game", "hidden", "ask"], false⟩
def I__law_dice : DefI := ⟨"_law_dice", "_law_dice", defArgs (top 34), defBody (top 34), defScope (top 34), ["script", "spot", "own", "mixed", "cell"], ["script", "spot"], false⟩
def I__law_roll : DefI := ⟨"_law_roll", "_law_roll", defArgs (top 35), defBody (top 35), defScope (top 35), ["dice", "total", "found"], ["dice", "total"], false⟩
def I__law_pick : DefI := ⟨"_law_pick", "_law_pick", defArgs (top 36), defBody (top 36), defScope (top 36), ["dice", "things"], ["dice", "things"], false⟩
def I__law_refused : DefI := ⟨"_law_refused", "_law_refused", defArgs (top 37), defBody (top 37), defScope (top 37), ["call", "e"], ["call"], false⟩
def I__law_size : DefI := ⟨"_law_size", "_law_size", defArgs (top 38), defBody (top 38), defScope (top 38), ["game", "found", "place"], ["game"], false⟩
def I__law_game : DefI := ⟨"_law_game", "_law_game", defArgs (top 39), defBody (top 39), defScope (top 39), ["dice", "most", "kind", "boards", "own", "board"], ["dice", "most"], false⟩
def I__law_rows : DefI := ⟨"_law_rows", "_law_rows", defArgs (top 40), defBody (top 40), defScope (top 40), ["game", "found", "place", "later", "own", "hue"], ["game"], false⟩
def I__law_order : DefI := ⟨"_law_order", "_law_order", defArgs (top 43), defBody (top 43), defScope (top 43), ["dice", "many", "left", "found", "place"], ["dice", "many"], false⟩
def I__law_back : DefI := ⟨"_law_back", "_law_back", defArgs (top 44), defBody (top 44), defScope (top 44), ["order", "own"], ["order"], false⟩
def I__law_stays : DefI := ⟨"_law_stays", "_law_stays", defArgs (top 45), defBody (top 45), defScope (top 45), ["kind", "is_hues"], ["kind", "is_hues"], false⟩
def I__law_last : DefI := ⟨"_law_last", "_law_last", defArgs (top 46), defBody (top 46), defScope (top 46), ["game", "told"], [], true⟩
def I_law : DefI := ⟨"law", "law", defArgs (top 47), defBody (top 47), defScope (top 47), ["script", "spot", "dice", "game", "rows", "first", "second", "kind", "hidden", "ask", "one", "other", "hues", "places", "own", "due", "moved", "goal", "here", "there", "number", "place", "hue", "reply", "part"], ["script"], false⟩
def G0 : Gs := ⟨lookN [("demand", 0), ("is_in", 1), ("is_tuple", 2), ("are_in", 3), ("is_set", 28), ("is_order", 29), ("how_many", 4), ("is_game", 5), ("demand_game", 6), ("row_of", 7), ("number_of", 8), ("is_row", 9), ("row_number", 12), ("common_hues", 13), ("answer_of", 14), ("answer", 15), ("hues_moved", 30), ("places_moved", 31), ("demand_set", 32), ("demand_ask", 33), ("parts_of", 34), ("parts", 35), ("greatest_part", 36), ("_law_dice", 18), ("_law_roll", 19), ("_law_pick", 20), ("_law_size", 21), ("_law_game", 22), ("_law_rows", 23), ("_law_order", 37), ("_law_back", 38), ("_law_stays", 39), ("_law_last", 40), ("law", 41)], lookN [("KINDS", 0), ("MOST_HUES", 1), ("MOST_PLACES", 2), ("MOST_ROWS", 3)], lookN [("BadArgument", 0)], lookN [("_law_refused", 0)], fun x => decide (x ∈ (["len", "abs", "int", "str", "min", "max", "sum", "all", "any", "tuple", "list", "range", "isinstance", "sorted", "set", "zip", "enumerate", "bool"] : List Str)), fun f => match f with
  | 30 => [(0, ["game", "order", "row"], [0, 2, 1])]
  | 31 => [(0, ["game", "order", "row"], [0, 2, 1])]
  | _ => []⟩
abbrev df (I : DefI) : He.DefD := ⟨(I.name, none), I.name, I.qual, I.params, I.body, I.scope, [], []⟩
def fn : List He.DefD := [df I_demand, df I_is_in, df I_is_tuple, df I_are_in, df I_is_set, df I_is_order, df I_how_many, df I_is_game, df I_demand_game, df I_row_of, df I_number_of, df I_is_row, df I_row_number, df I_common_hues, df I_answer_of, df I_answer, df I_hues_moved, df I_places_moved, df I_demand_set, df I_demand_ask, df I_parts_of, df I_parts, df I_greatest_part, df I__law_dice, df I__law_roll, df I__law_pick, df I__law_refused, df I__law_size, df I__law_game, df I__law_rows, df I__law_order, df I__law_back, df I__law_stays, df I__law_last, df I_law]
def fa : List He.Fa := [.glo "demand", .glo "is_in", .glo "is_tuple", .glo "are_in", .glo "is_set", .glo "is_order", .glo "how_many", .glo "is_game", .glo "demand_game", .glo "row_of", .glo "number_of", .glo "is_row", .glo "row_number", .glo "common_hues", .glo "answer_of", .glo "answer", .glo "hues_moved", .glo "places_moved", .glo "demand_set", .glo "demand_ask", .glo "parts_of", .glo "parts", .glo "greatest_part", .glo "_law_dice", .glo "_law_roll", .glo "_law_pick", .glo "_law_refused", .glo "_law_size", .glo "_law_game", .glo "_law_rows", .glo "_law_order", .glo "_law_back", .glo "_law_stays", .glo "_law_last", .glo "law", .glo "BadArgument", .glo "KINDS", .int "MOST_HUES" 6, .int "MOST_PLACES" 4, .int "MOST_ROWS" 36, .free "len", .free "abs", .free "int", .free "str", .free "min", .free "max", .free "sum", .free "all", .free "any", .free "tuple", .free "list", .free "range", .free "isinstance", .free "sorted", .free "set", .free "zip", .free "enumerate", .free "bool", .free "super"]
def tf : List He.Defn := [("_law_last", none)]
def ex (K : PySem.W.Frag) : Bool := [He.tupB K "KINDS" [.str "places", .str "both", .str "hues", .str "first", .str "apart", .str "more"], noDictB K (He.ga K "KINDS"), exdB (P0.main.file : Str) "self" "name" "name" K (He.ga K "BadArgument"), xfB K (He.ga K "BadArgument"), decide (PySem.W.findIn K (.ref (He.ga K "BadArgument")) "name" = some none), decide (PySem.W.exmOne K (.ref (He.ga K "BadArgument")) (.ref (He.ga K "BadArgument")) = some true)].all id
def xcF (K : PySem.W.Frag) : Nat → Addr := fun c => match c with
  | 0 => He.ga K "BadArgument"
  | _ => 0
def xfF : Nat → Str := fun c => match c with
  | 0 => "name"
  | _ => ""
abbrev TT (K : PySem.W.Frag) : List (Addr × Str) := [((He.cT K ("_law_last", none)).2, lamQ I__law_last)]
abbrev mkS (w : World) (K : PySem.W.Frag) (mg : Str → Option Value) (b : Heap) : Fx := ⟨P0, w, K, mg, b, D.P_k01, fun _ => 0, xcF K, xfF, TT K, []⟩
theorem sc_demand : FnScope I_demand.N I_demand.ps I_demand.scope := ⟨rfl, rfl, rfl, by decide +kernel, rfl, by decide +kernel, by decide +kernel⟩
theorem chk_demand : chkSs G0 D.d0.body I_demand.stat I_demand.body = true := by kernel_rfl
theorem sc_is_in : FnScope I_is_in.N I_is_in.ps I_is_in.scope := ⟨rfl, rfl, rfl, by decide +kernel, rfl, by decide +kernel, by decide +kernel⟩
theorem chk_is_in : chkSs G0 D.d1.body I_is_in.stat I_is_in.body = true := by kernel_rfl
theorem sc_is_tuple : FnScope I_is_tuple.N I_is_tuple.ps I_is_tuple.scope := ⟨rfl, rfl, rfl, by decide +kernel, rfl, by decide +kernel, by decide +kernel⟩
theorem chk_is_tuple : chkSs G0 D.d2.body I_is_tuple.stat I_is_tuple.body = true := by kernel_rfl
theorem sc_are_in : FnScope I_are_in.N I_are_in.ps I_are_in.scope := ⟨rfl, rfl, rfl, by decide +kernel, rfl, by decide +kernel, by decide +kernel⟩
theorem chk_are_in : chkSs G0 D.d3.body I_are_in.stat I_are_in.body = true := by kernel_rfl
theorem sc_is_set : FnScope I_is_set.N I_is_set.ps I_is_set.scope := ⟨rfl, rfl, rfl, by decide +kernel, rfl, by decide +kernel, by decide +kernel⟩
theorem chk_is_set : chkSs G0 D.d28.body I_is_set.stat I_is_set.body = true := by kernel_rfl
theorem sc_is_order : FnScope I_is_order.N I_is_order.ps I_is_order.scope := ⟨rfl, rfl, rfl, by decide +kernel, rfl, by decide +kernel, by decide +kernel⟩
theorem chk_is_order : chkSs G0 D.d29.body I_is_order.stat I_is_order.body = true := by kernel_rfl
theorem sc_how_many : FnScope I_how_many.N I_how_many.ps I_how_many.scope := ⟨rfl, rfl, rfl, by decide +kernel, rfl, by decide +kernel, by decide +kernel⟩
theorem chk_how_many : chkSs G0 D.d4.body I_how_many.stat I_how_many.body = true := by kernel_rfl
theorem sc_is_game : FnScope I_is_game.N I_is_game.ps I_is_game.scope := ⟨rfl, rfl, rfl, by decide +kernel, rfl, by decide +kernel, by decide +kernel⟩
theorem chk_is_game : chkSs G0 D.d5.body I_is_game.stat I_is_game.body = true := by kernel_rfl
theorem sc_demand_game : FnScope I_demand_game.N I_demand_game.ps I_demand_game.scope := ⟨rfl, rfl, rfl, by decide +kernel, rfl, by decide +kernel, by decide +kernel⟩
theorem chk_demand_game : chkSs G0 D.d6.body I_demand_game.stat I_demand_game.body = true := by kernel_rfl
theorem sc_row_of : FnScope I_row_of.N I_row_of.ps I_row_of.scope := ⟨rfl, rfl, rfl, by decide +kernel, rfl, by decide +kernel, by decide +kernel⟩
theorem chk_row_of : chkSs G0 D.d7.body I_row_of.stat I_row_of.body = true := by kernel_rfl
theorem sc_number_of : FnScope I_number_of.N I_number_of.ps I_number_of.scope := ⟨rfl, rfl, rfl, by decide +kernel, rfl, by decide +kernel, by decide +kernel⟩
theorem chk_number_of : chkSs G0 D.d8.body I_number_of.stat I_number_of.body = true := by kernel_rfl
theorem sc_is_row : FnScope I_is_row.N I_is_row.ps I_is_row.scope := ⟨rfl, rfl, rfl, by decide +kernel, rfl, by decide +kernel, by decide +kernel⟩
theorem chk_is_row : chkSs G0 D.d9.body I_is_row.stat I_is_row.body = true := by kernel_rfl
theorem sc_row_number : FnScope I_row_number.N I_row_number.ps I_row_number.scope := ⟨rfl, rfl, rfl, by decide +kernel, rfl, by decide +kernel, by decide +kernel⟩
theorem chk_row_number : chkSs G0 D.d12.body I_row_number.stat I_row_number.body = true := by kernel_rfl
theorem sc_common_hues : FnScope I_common_hues.N I_common_hues.ps I_common_hues.scope := ⟨rfl, rfl, rfl, by decide +kernel, rfl, by decide +kernel, by decide +kernel⟩
theorem chk_common_hues : chkSs G0 D.d13.body I_common_hues.stat I_common_hues.body = true := by kernel_rfl
theorem sc_answer_of : FnScope I_answer_of.N I_answer_of.ps I_answer_of.scope := ⟨rfl, rfl, rfl, by decide +kernel, rfl, by decide +kernel, by decide +kernel⟩
theorem chk_answer_of : chkSs G0 D.d14.body I_answer_of.stat I_answer_of.body = true := by kernel_rfl
theorem sc_answer : FnScope I_answer.N I_answer.ps I_answer.scope := ⟨rfl, rfl, rfl, by decide +kernel, rfl, by decide +kernel, by decide +kernel⟩
theorem chk_answer : chkSs G0 D.d15.body I_answer.stat I_answer.body = true := by kernel_rfl
theorem sc_hues_moved : FnScope I_hues_moved.N I_hues_moved.ps I_hues_moved.scope := ⟨rfl, rfl, rfl, by decide +kernel, rfl, by decide +kernel, by decide +kernel⟩
theorem chk_hues_moved : chkSs G0 D.d30.body I_hues_moved.stat I_hues_moved.body = true := by kernel_rfl
theorem sc_places_moved : FnScope I_places_moved.N I_places_moved.ps I_places_moved.scope := ⟨rfl, rfl, rfl, by decide +kernel, rfl, by decide +kernel, by decide +kernel⟩
theorem chk_places_moved : chkSs G0 D.d31.body I_places_moved.stat I_places_moved.body = true := by kernel_rfl
theorem sc_demand_set : FnScope I_demand_set.N I_demand_set.ps I_demand_set.scope := ⟨rfl, rfl, rfl, by decide +kernel, rfl, by decide +kernel, by decide +kernel⟩
theorem chk_demand_set : chkSs G0 D.d32.body I_demand_set.stat I_demand_set.body = true := by kernel_rfl
theorem sc_demand_ask : FnScope I_demand_ask.N I_demand_ask.ps I_demand_ask.scope := ⟨rfl, rfl, rfl, by decide +kernel, rfl, by decide +kernel, by decide +kernel⟩
theorem chk_demand_ask : chkSs G0 D.d33.body I_demand_ask.stat I_demand_ask.body = true := by kernel_rfl
theorem sc_parts_of : FnScope I_parts_of.N I_parts_of.ps I_parts_of.scope := ⟨rfl, rfl, rfl, by decide +kernel, rfl, by decide +kernel, by decide +kernel⟩
theorem chk_parts_of : chkSs G0 D.d34.body I_parts_of.stat I_parts_of.body = true := by kernel_rfl
theorem sc_parts : FnScope I_parts.N I_parts.ps I_parts.scope := ⟨rfl, rfl, rfl, by decide +kernel, rfl, by decide +kernel, by decide +kernel⟩
theorem chk_parts : chkSs G0 D.d35.body I_parts.stat I_parts.body = true := by kernel_rfl
theorem sc_greatest_part : FnScope I_greatest_part.N I_greatest_part.ps I_greatest_part.scope := ⟨rfl, rfl, rfl, by decide +kernel, rfl, by decide +kernel, by decide +kernel⟩
theorem chk_greatest_part : chkSs G0 D.d36.body I_greatest_part.stat I_greatest_part.body = true := by kernel_rfl
theorem sc__law_dice : FnScope I__law_dice.N I__law_dice.ps I__law_dice.scope := ⟨rfl, rfl, rfl, by decide +kernel, rfl, by decide +kernel, by decide +kernel⟩
theorem chk__law_dice : chkSs G0 D.d18.body I__law_dice.stat I__law_dice.body = true := by kernel_rfl
theorem sc__law_roll : FnScope I__law_roll.N I__law_roll.ps I__law_roll.scope := ⟨rfl, rfl, rfl, by decide +kernel, rfl, by decide +kernel, by decide +kernel⟩
theorem chk__law_roll : chkSs G0 D.d19.body I__law_roll.stat I__law_roll.body = true := by kernel_rfl
theorem sc__law_pick : FnScope I__law_pick.N I__law_pick.ps I__law_pick.scope := ⟨rfl, rfl, rfl, by decide +kernel, rfl, by decide +kernel, by decide +kernel⟩
theorem chk__law_pick : chkSs G0 D.d20.body I__law_pick.stat I__law_pick.body = true := by kernel_rfl
theorem sc__law_size : FnScope I__law_size.N I__law_size.ps I__law_size.scope := ⟨rfl, rfl, rfl, by decide +kernel, rfl, by decide +kernel, by decide +kernel⟩
theorem chk__law_size : chkSs G0 D.d21.body I__law_size.stat I__law_size.body = true := by kernel_rfl
theorem sc__law_game : FnScope I__law_game.N I__law_game.ps I__law_game.scope := ⟨rfl, rfl, rfl, by decide +kernel, rfl, by decide +kernel, by decide +kernel⟩
theorem chk__law_game : chkSs G0 D.d22.body I__law_game.stat I__law_game.body = true := by kernel_rfl
theorem sc__law_rows : FnScope I__law_rows.N I__law_rows.ps I__law_rows.scope := ⟨rfl, rfl, rfl, by decide +kernel, rfl, by decide +kernel, by decide +kernel⟩
theorem chk__law_rows : chkSs G0 D.d23.body I__law_rows.stat I__law_rows.body = true := by kernel_rfl
theorem sc__law_order : FnScope I__law_order.N I__law_order.ps I__law_order.scope := ⟨rfl, rfl, rfl, by decide +kernel, rfl, by decide +kernel, by decide +kernel⟩
theorem chk__law_order : chkSs G0 D.d37.body I__law_order.stat I__law_order.body = true := by kernel_rfl
theorem sc__law_back : FnScope I__law_back.N I__law_back.ps I__law_back.scope := ⟨rfl, rfl, rfl, by decide +kernel, rfl, by decide +kernel, by decide +kernel⟩
theorem chk__law_back : chkSs G0 D.d38.body I__law_back.stat I__law_back.body = true := by kernel_rfl
theorem sc__law_stays : FnScope I__law_stays.N I__law_stays.ps I__law_stays.scope := ⟨rfl, rfl, rfl, by decide +kernel, rfl, by decide +kernel, by decide +kernel⟩
theorem chk__law_stays : chkSs G0 D.d39.body I__law_stays.stat I__law_stays.body = true := by kernel_rfl
theorem sc__law_last : FnScope I__law_last.N I__law_last.ps I__law_last.scope := ⟨rfl, rfl, rfl, by decide +kernel, rfl, by decide +kernel, by decide +kernel⟩
theorem chk__law_last : chkSs G0 D.d40.body I__law_last.stat I__law_last.body = true := by kernel_rfl
theorem sc_law : FnScope I_law.N I_law.ps I_law.scope := ⟨rfl, rfl, rfl, by decide +kernel, rfl, by decide +kernel, by decide +kernel⟩
theorem chk_law : chkSs G0 D.d41.body I_law.stat I_law.body = true := by kernel_rfl
section
variable {w : World} {K : PySem.W.Frag} {h : Heap} {mg : Str → Option Value} {b : Heap}
theorem D_demand (X : K.In h) (Gn : h.Ns mainGlobals mg) (c : He.SaysX fa fn [] tf ex w h K) : ∃ a fd I, DefF (mkS w K mg b) G0 0 a fd I ∧ mg "demand" = some (.ref a) ∧ Binds K fd I.ps [] ∧ ∀ q ∈ G0.kf 0, KForm fd I.ps q.1 q.2.1 q.2.2 ∧ I.ps ≠ [] := by
  obtain ⟨fd, F⟩ := (He.SaysT.d c.t).def_ 0 (d := df I_demand) rfl
  exact ⟨He.fAd K ("demand", none), fd, I_demand, defF_of F rfl rfl rfl chk_demand sc_demand rfl, (He.glo_ok X Gn ((He.SaysT.d c.t).fact 0 (f := .glo "demand") rfl)), F.bindsN (ps := I_demand.ps) fun _ _ _ _ _ _ us hl => match us, hl with | [_, _], _ => rfl, fun _ hq => nomatch hq⟩
theorem D_is_in (X : K.In h) (Gn : h.Ns mainGlobals mg) (c : He.SaysX fa fn [] tf ex w h K) : ∃ a fd I, DefF (mkS w K mg b) G0 1 a fd I ∧ mg "is_in" = some (.ref a) ∧ Binds K fd I.ps [] ∧ ∀ q ∈ G0.kf 1, KForm fd I.ps q.1 q.2.1 q.2.2 ∧ I.ps ≠ [] := by
  obtain ⟨fd, F⟩ := (He.SaysT.d c.t).def_ 1 (d := df I_is_in) rfl
  exact ⟨He.fAd K ("is_in", none), fd, I_is_in, defF_of F rfl rfl rfl chk_is_in sc_is_in rfl, (He.glo_ok X Gn ((He.SaysT.d c.t).fact 1 (f := .glo "is_in") rfl)), F.bindsN (ps := I_is_in.ps) fun _ _ _ _ _ _ us hl => match us, hl with | [_, _, _], _ => rfl, fun _ hq => nomatch hq⟩
theorem D_is_tuple (X : K.In h) (Gn : h.Ns mainGlobals mg) (c : He.SaysX fa fn [] tf ex w h K) : ∃ a fd I, DefF (mkS w K mg b) G0 2 a fd I ∧ mg "is_tuple" = some (.ref a) ∧ Binds K fd I.ps [] ∧ ∀ q ∈ G0.kf 2, KForm fd I.ps q.1 q.2.1 q.2.2 ∧ I.ps ≠ [] := by
  obtain ⟨fd, F⟩ := (He.SaysT.d c.t).def_ 2 (d := df I_is_tuple) rfl
  exact ⟨He.fAd K ("is_tuple", none), fd, I_is_tuple, defF_of F rfl rfl rfl chk_is_tuple sc_is_tuple rfl, (He.glo_ok X Gn ((He.SaysT.d c.t).fact 2 (f := .glo "is_tuple") rfl)), F.bindsN (ps := I_is_tuple.ps) fun _ _ _ _ _ _ us hl => match us, hl with | [_, _, _], _ => rfl, fun _ hq => nomatch hq⟩
theorem D_are_in (X : K.In h) (Gn : h.Ns mainGlobals mg) (c : He.SaysX fa fn [] tf ex w h K) : ∃ a fd I, DefF (mkS w K mg b) G0 3 a fd I ∧ mg "are_in" = some (.ref a) ∧ Binds K fd I.ps [] ∧ ∀ q ∈ G0.kf 3, KForm fd I.ps q.1 q.2.1 q.2.2 ∧ I.ps ≠ [] := by
  obtain ⟨fd, F⟩ := (He.SaysT.d c.t).def_ 3 (d := df I_are_in) rfl
  exact ⟨He.fAd K ("are_in", none), fd, I_are_in, defF_of F rfl rfl rfl chk_are_in sc_are_in rfl, (He.glo_ok X Gn ((He.SaysT.d c.t).fact 3 (f := .glo "are_in") rfl)), F.bindsN (ps := I_are_in.ps) fun _ _ _ _ _ _ us hl => match us, hl with | [_, _, _, _, _], _ => rfl, fun _ hq => nomatch hq⟩
theorem D_is_set (X : K.In h) (Gn : h.Ns mainGlobals mg) (c : He.SaysX fa fn [] tf ex w h K) : ∃ a fd I, DefF (mkS w K mg b) G0 28 a fd I ∧ mg "is_set" = some (.ref a) ∧ Binds K fd I.ps [] ∧ ∀ q ∈ G0.kf 28, KForm fd I.ps q.1 q.2.1 q.2.2 ∧ I.ps ≠ [] := by
  obtain ⟨fd, F⟩ := (He.SaysT.d c.t).def_ 4 (d := df I_is_set) rfl
  exact ⟨He.fAd K ("is_set", none), fd, I_is_set, defF_of F rfl rfl rfl chk_is_set sc_is_set rfl, (He.glo_ok X Gn ((He.SaysT.d c.t).fact 4 (f := .glo "is_set") rfl)), F.bindsN (ps := I_is_set.ps) fun _ _ _ _ _ _ us hl => match us, hl with | [_, _], _ => rfl, fun _ hq => nomatch hq⟩
theorem D_is_order (X : K.In h) (Gn : h.Ns mainGlobals mg) (c : He.SaysX fa fn [] tf ex w h K) : ∃ a fd I, DefF (mkS w K mg b) G0 29 a fd I ∧ mg "is_order" = some (.ref a) ∧ Binds K fd I.ps [] ∧ ∀ q ∈ G0.kf 29, KForm fd I.ps q.1 q.2.1 q.2.2 ∧ I.ps ≠ [] := by
  obtain ⟨fd, F⟩ := (He.SaysT.d c.t).def_ 5 (d := df I_is_order) rfl
  exact ⟨He.fAd K ("is_order", none), fd, I_is_order, defF_of F rfl rfl rfl chk_is_order sc_is_order rfl, (He.glo_ok X Gn ((He.SaysT.d c.t).fact 5 (f := .glo "is_order") rfl)), F.bindsN (ps := I_is_order.ps) fun _ _ _ _ _ _ us hl => match us, hl with | [_, _], _ => rfl, fun _ hq => nomatch hq⟩
theorem D_how_many (X : K.In h) (Gn : h.Ns mainGlobals mg) (c : He.SaysX fa fn [] tf ex w h K) : ∃ a fd I, DefF (mkS w K mg b) G0 4 a fd I ∧ mg "how_many" = some (.ref a) ∧ Binds K fd I.ps [] ∧ ∀ q ∈ G0.kf 4, KForm fd I.ps q.1 q.2.1 q.2.2 ∧ I.ps ≠ [] := by
  obtain ⟨fd, F⟩ := (He.SaysT.d c.t).def_ 6 (d := df I_how_many) rfl
  exact ⟨He.fAd K ("how_many", none), fd, I_how_many, defF_of F rfl rfl rfl chk_how_many sc_how_many rfl, (He.glo_ok X Gn ((He.SaysT.d c.t).fact 6 (f := .glo "how_many") rfl)), F.bindsN (ps := I_how_many.ps) fun _ _ _ _ _ _ us hl => match us, hl with | [_], _ => rfl, fun _ hq => nomatch hq⟩
theorem D_is_game (X : K.In h) (Gn : h.Ns mainGlobals mg) (c : He.SaysX fa fn [] tf ex w h K) : ∃ a fd I, DefF (mkS w K mg b) G0 5 a fd I ∧ mg "is_game" = some (.ref a) ∧ Binds K fd I.ps [] ∧ ∀ q ∈ G0.kf 5, KForm fd I.ps q.1 q.2.1 q.2.2 ∧ I.ps ≠ [] := by
  obtain ⟨fd, F⟩ := (He.SaysT.d c.t).def_ 7 (d := df I_is_game) rfl
  exact ⟨He.fAd K ("is_game", none), fd, I_is_game, defF_of F rfl rfl rfl chk_is_game sc_is_game rfl, (He.glo_ok X Gn ((He.SaysT.d c.t).fact 7 (f := .glo "is_game") rfl)), F.bindsN (ps := I_is_game.ps) fun _ _ _ _ _ _ us hl => match us, hl with | [_], _ => rfl, fun _ hq => nomatch hq⟩
theorem D_demand_game (X : K.In h) (Gn : h.Ns mainGlobals mg) (c : He.SaysX fa fn [] tf ex w h K) : ∃ a fd I, DefF (mkS w K mg b) G0 6 a fd I ∧ mg "demand_game" = some (.ref a) ∧ Binds K fd I.ps [] ∧ ∀ q ∈ G0.kf 6, KForm fd I.ps q.1 q.2.1 q.2.2 ∧ I.ps ≠ [] := by
  obtain ⟨fd, F⟩ := (He.SaysT.d c.t).def_ 8 (d := df I_demand_game) rfl
  exact ⟨He.fAd K ("demand_game", none), fd, I_demand_game, defF_of F rfl rfl rfl chk_demand_game sc_demand_game rfl, (He.glo_ok X Gn ((He.SaysT.d c.t).fact 8 (f := .glo "demand_game") rfl)), F.bindsN (ps := I_demand_game.ps) fun _ _ _ _ _ _ us hl => match us, hl with | [_, _], _ => rfl, fun _ hq => nomatch hq⟩
theorem D_row_of (X : K.In h) (Gn : h.Ns mainGlobals mg) (c : He.SaysX fa fn [] tf ex w h K) : ∃ a fd I, DefF (mkS w K mg b) G0 7 a fd I ∧ mg "row_of" = some (.ref a) ∧ Binds K fd I.ps [] ∧ ∀ q ∈ G0.kf 7, KForm fd I.ps q.1 q.2.1 q.2.2 ∧ I.ps ≠ [] := by
  obtain ⟨fd, F⟩ := (He.SaysT.d c.t).def_ 9 (d := df I_row_of) rfl
  exact ⟨He.fAd K ("row_of", none), fd, I_row_of, defF_of F rfl rfl rfl chk_row_of sc_row_of rfl, (He.glo_ok X Gn ((He.SaysT.d c.t).fact 9 (f := .glo "row_of") rfl)), F.bindsN (ps := I_row_of.ps) fun _ _ _ _ _ _ us hl => match us, hl with | [_, _], _ => rfl, fun _ hq => nomatch hq⟩
theorem D_number_of (X : K.In h) (Gn : h.Ns mainGlobals mg) (c : He.SaysX fa fn [] tf ex w h K) : ∃ a fd I, DefF (mkS w K mg b) G0 8 a fd I ∧ mg "number_of" = some (.ref a) ∧ Binds K fd I.ps [] ∧ ∀ q ∈ G0.kf 8, KForm fd I.ps q.1 q.2.1 q.2.2 ∧ I.ps ≠ [] := by
  obtain ⟨fd, F⟩ := (He.SaysT.d c.t).def_ 10 (d := df I_number_of) rfl
  exact ⟨He.fAd K ("number_of", none), fd, I_number_of, defF_of F rfl rfl rfl chk_number_of sc_number_of rfl, (He.glo_ok X Gn ((He.SaysT.d c.t).fact 10 (f := .glo "number_of") rfl)), F.bindsN (ps := I_number_of.ps) fun _ _ _ _ _ _ us hl => match us, hl with | [_, _], _ => rfl, fun _ hq => nomatch hq⟩
theorem D_is_row (X : K.In h) (Gn : h.Ns mainGlobals mg) (c : He.SaysX fa fn [] tf ex w h K) : ∃ a fd I, DefF (mkS w K mg b) G0 9 a fd I ∧ mg "is_row" = some (.ref a) ∧ Binds K fd I.ps [] ∧ ∀ q ∈ G0.kf 9, KForm fd I.ps q.1 q.2.1 q.2.2 ∧ I.ps ≠ [] := by
  obtain ⟨fd, F⟩ := (He.SaysT.d c.t).def_ 11 (d := df I_is_row) rfl
  exact ⟨He.fAd K ("is_row", none), fd, I_is_row, defF_of F rfl rfl rfl chk_is_row sc_is_row rfl, (He.glo_ok X Gn ((He.SaysT.d c.t).fact 11 (f := .glo "is_row") rfl)), F.bindsN (ps := I_is_row.ps) fun _ _ _ _ _ _ us hl => match us, hl with | [_, _], _ => rfl, fun _ hq => nomatch hq⟩
theorem D_row_number (X : K.In h) (Gn : h.Ns mainGlobals mg) (c : He.SaysX fa fn [] tf ex w h K) : ∃ a fd I, DefF (mkS w K mg b) G0 12 a fd I ∧ mg "row_number" = some (.ref a) ∧ Binds K fd I.ps [] ∧ ∀ q ∈ G0.kf 12, KForm fd I.ps q.1 q.2.1 q.2.2 ∧ I.ps ≠ [] := by
  obtain ⟨fd, F⟩ := (He.SaysT.d c.t).def_ 12 (d := df I_row_number) rfl
  exact ⟨He.fAd K ("row_number", none), fd, I_row_number, defF_of F rfl rfl rfl chk_row_number sc_row_number rfl, (He.glo_ok X Gn ((He.SaysT.d c.t).fact 12 (f := .glo "row_number") rfl)), F.bindsN (ps := I_row_number.ps) fun _ _ _ _ _ _ us hl => match us, hl with | [_, _], _ => rfl, fun _ hq => nomatch hq⟩
theorem D_common_hues (X : K.In h) (Gn : h.Ns mainGlobals mg) (c : He.SaysX fa fn [] tf ex w h K) : ∃ a fd I, DefF (mkS w K mg b) G0 13 a fd I ∧ mg "common_hues" = some (.ref a) ∧ Binds K fd I.ps [] ∧ ∀ q ∈ G0.kf 13, KForm fd I.ps q.1 q.2.1 q.2.2 ∧ I.ps ≠ [] := by
  obtain ⟨fd, F⟩ := (He.SaysT.d c.t).def_ 13 (d := df I_common_hues) rfl
  exact ⟨He.fAd K ("common_hues", none), fd, I_common_hues, defF_of F rfl rfl rfl chk_common_hues sc_common_hues rfl, (He.glo_ok X Gn ((He.SaysT.d c.t).fact 13 (f := .glo "common_hues") rfl)), F.bindsN (ps := I_common_hues.ps) fun _ _ _ _ _ _ us hl => match us, hl with | [_, _], _ => rfl, fun _ hq => nomatch hq⟩
theorem D_answer_of (X : K.In h) (Gn : h.Ns mainGlobals mg) (c : He.SaysX fa fn [] tf ex w h K) : ∃ a fd I, DefF (mkS w K mg b) G0 14 a fd I ∧ mg "answer_of" = some (.ref a) ∧ Binds K fd I.ps [] ∧ ∀ q ∈ G0.kf 14, KForm fd I.ps q.1 q.2.1 q.2.2 ∧ I.ps ≠ [] := by
  obtain ⟨fd, F⟩ := (He.SaysT.d c.t).def_ 14 (d := df I_answer_of) rfl
  exact ⟨He.fAd K ("answer_of", none), fd, I_answer_of, defF_of F rfl rfl rfl chk_answer_of sc_answer_of rfl, (He.glo_ok X Gn ((He.SaysT.d c.t).fact 14 (f := .glo "answer_of") rfl)), F.bindsN (ps := I_answer_of.ps) fun _ _ _ _ _ _ us hl => match us, hl with | [_, _, _], _ => rfl, fun _ hq => nomatch hq⟩
theorem D_answer (X : K.In h) (Gn : h.Ns mainGlobals mg) (c : He.SaysX fa fn [] tf ex w h K) : ∃ a fd I, DefF (mkS w K mg b) G0 15 a fd I ∧ mg "answer" = some (.ref a) ∧ Binds K fd I.ps [] ∧ ∀ q ∈ G0.kf 15, KForm fd I.ps q.1 q.2.1 q.2.2 ∧ I.ps ≠ [] := by
  obtain ⟨fd, F⟩ := (He.SaysT.d c.t).def_ 15 (d := df I_answer) rfl
  exact ⟨He.fAd K ("answer", none), fd, I_answer, defF_of F rfl rfl rfl chk_answer sc_answer rfl, (He.glo_ok X Gn ((He.SaysT.d c.t).fact 15 (f := .glo "answer") rfl)), F.bindsN (ps := I_answer.ps) fun _ _ _ _ _ _ us hl => match us, hl with | [_, _, _], _ => rfl, fun _ hq => nomatch hq⟩
theorem D_hues_moved (X : K.In h) (Gn : h.Ns mainGlobals mg) (c : He.SaysX fa fn [] tf ex w h K) : ∃ a fd I, DefF (mkS w K mg b) G0 30 a fd I ∧ mg "hues_moved" = some (.ref a) ∧ Binds K fd I.ps [] ∧ ∀ q ∈ G0.kf 30, KForm fd I.ps q.1 q.2.1 q.2.2 ∧ I.ps ≠ [] := by
  obtain ⟨fd, F⟩ := (He.SaysT.d c.t).def_ 16 (d := df I_hues_moved) rfl
  exact ⟨He.fAd K ("hues_moved", none), fd, I_hues_moved, defF_of F rfl rfl rfl chk_hues_moved sc_hues_moved rfl, (He.glo_ok X Gn ((He.SaysT.d c.t).fact 16 (f := .glo "hues_moved") rfl)), F.bindsN (ps := I_hues_moved.ps) fun _ _ _ _ _ _ us hl => match us, hl with | [_, _, _], _ => rfl, List.forall_mem_cons.mpr ⟨⟨kformN F fun _ _ _ _ _ _ us ws h1 h2 => match us, h1, ws, h2 with | [], _, [_, _, _], _ => rfl, by decide⟩, fun _ hq => nomatch hq⟩⟩
theorem D_places_moved (X : K.In h) (Gn : h.Ns mainGlobals mg) (c : He.SaysX fa fn [] tf ex w h K) : ∃ a fd I, DefF (mkS w K mg b) G0 31 a fd I ∧ mg "places_moved" = some (.ref a) ∧ Binds K fd I.ps [] ∧ ∀ q ∈ G0.kf 31, KForm fd I.ps q.1 q.2.1 q.2.2 ∧ I.ps ≠ [] := by
  obtain ⟨fd, F⟩ := (He.SaysT.d c.t).def_ 17 (d := df I_places_moved) rfl
  exact ⟨He.fAd K ("places_moved", none), fd, I_places_moved, defF_of F rfl rfl rfl chk_places_moved sc_places_moved rfl, (He.glo_ok X Gn ((He.SaysT.d c.t).fact 17 (f := .glo "places_moved") rfl)), F.bindsN (ps := I_places_moved.ps) fun _ _ _ _ _ _ us hl => match us, hl with | [_, _, _], _ => rfl, List.forall_mem_cons.mpr ⟨⟨kformN F fun _ _ _ _ _ _ us ws h1 h2 => match us, h1, ws, h2 with | [], _, [_, _, _], _ => rfl, by decide⟩, fun _ hq => nomatch hq⟩⟩
theorem D_demand_set (X : K.In h) (Gn : h.Ns mainGlobals mg) (c : He.SaysX fa fn [] tf ex w h K) : ∃ a fd I, DefF (mkS w K mg b) G0 32 a fd I ∧ mg "demand_set" = some (.ref a) ∧ Binds K fd I.ps [] ∧ ∀ q ∈ G0.kf 32, KForm fd I.ps q.1 q.2.1 q.2.2 ∧ I.ps ≠ [] := by
  obtain ⟨fd, F⟩ := (He.SaysT.d c.t).def_ 18 (d := df I_demand_set) rfl
  exact ⟨He.fAd K ("demand_set", none), fd, I_demand_set, defF_of F rfl rfl rfl chk_demand_set sc_demand_set rfl, (He.glo_ok X Gn ((He.SaysT.d c.t).fact 18 (f := .glo "demand_set") rfl)), F.bindsN (ps := I_demand_set.ps) fun _ _ _ _ _ _ us hl => match us, hl with | [_, _, _], _ => rfl, fun _ hq => nomatch hq⟩
theorem D_demand_ask (X : K.In h) (Gn : h.Ns mainGlobals mg) (c : He.SaysX fa fn [] tf ex w h K) : ∃ a fd I, DefF (mkS w K mg b) G0 33 a fd I ∧ mg "demand_ask" = some (.ref a) ∧ Binds K fd I.ps [] ∧ ∀ q ∈ G0.kf 33, KForm fd I.ps q.1 q.2.1 q.2.2 ∧ I.ps ≠ [] := by
  obtain ⟨fd, F⟩ := (He.SaysT.d c.t).def_ 19 (d := df I_demand_ask) rfl
  exact ⟨He.fAd K ("demand_ask", none), fd, I_demand_ask, defF_of F rfl rfl rfl chk_demand_ask sc_demand_ask rfl, (He.glo_ok X Gn ((He.SaysT.d c.t).fact 19 (f := .glo "demand_ask") rfl)), F.bindsN (ps := I_demand_ask.ps) fun _ _ _ _ _ _ us hl => match us, hl with | [_, _, _], _ => rfl, fun _ hq => nomatch hq⟩
theorem D_parts_of (X : K.In h) (Gn : h.Ns mainGlobals mg) (c : He.SaysX fa fn [] tf ex w h K) : ∃ a fd I, DefF (mkS w K mg b) G0 34 a fd I ∧ mg "parts_of" = some (.ref a) ∧ Binds K fd I.ps [] ∧ ∀ q ∈ G0.kf 34, KForm fd I.ps q.1 q.2.1 q.2.2 ∧ I.ps ≠ [] := by
  obtain ⟨fd, F⟩ := (He.SaysT.d c.t).def_ 20 (d := df I_parts_of) rfl
  exact ⟨He.fAd K ("parts_of", none), fd, I_parts_of, defF_of F rfl rfl rfl chk_parts_of sc_parts_of rfl, (He.glo_ok X Gn ((He.SaysT.d c.t).fact 20 (f := .glo "parts_of") rfl)), F.bindsN (ps := I_parts_of.ps) fun _ _ _ _ _ _ us hl => match us, hl with | [_, _, _], _ => rfl, fun _ hq => nomatch hq⟩
theorem D_parts (X : K.In h) (Gn : h.Ns mainGlobals mg) (c : He.SaysX fa fn [] tf ex w h K) : ∃ a fd I, DefF (mkS w K mg b) G0 35 a fd I ∧ mg "parts" = some (.ref a) ∧ Binds K fd I.ps [] ∧ ∀ q ∈ G0.kf 35, KForm fd I.ps q.1 q.2.1 q.2.2 ∧ I.ps ≠ [] := by
  obtain ⟨fd, F⟩ := (He.SaysT.d c.t).def_ 21 (d := df I_parts) rfl
  exact ⟨He.fAd K ("parts", none), fd, I_parts, defF_of F rfl rfl rfl chk_parts sc_parts rfl, (He.glo_ok X Gn ((He.SaysT.d c.t).fact 21 (f := .glo "parts") rfl)), F.bindsN (ps := I_parts.ps) fun _ _ _ _ _ _ us hl => match us, hl with | [_, _, _], _ => rfl, fun _ hq => nomatch hq⟩
theorem D_greatest_part (X : K.In h) (Gn : h.Ns mainGlobals mg) (c : He.SaysX fa fn [] tf ex w h K) : ∃ a fd I, DefF (mkS w K mg b) G0 36 a fd I ∧ mg "greatest_part" = some (.ref a) ∧ Binds K fd I.ps [] ∧ ∀ q ∈ G0.kf 36, KForm fd I.ps q.1 q.2.1 q.2.2 ∧ I.ps ≠ [] := by
  obtain ⟨fd, F⟩ := (He.SaysT.d c.t).def_ 22 (d := df I_greatest_part) rfl
  exact ⟨He.fAd K ("greatest_part", none), fd, I_greatest_part, defF_of F rfl rfl rfl chk_greatest_part sc_greatest_part rfl, (He.glo_ok X Gn ((He.SaysT.d c.t).fact 22 (f := .glo "greatest_part") rfl)), F.bindsN (ps := I_greatest_part.ps) fun _ _ _ _ _ _ us hl => match us, hl with | [_, _, _], _ => rfl, fun _ hq => nomatch hq⟩
theorem D__law_dice (X : K.In h) (Gn : h.Ns mainGlobals mg) (c : He.SaysX fa fn [] tf ex w h K) : ∃ a fd I, DefF (mkS w K mg b) G0 18 a fd I ∧ mg "_law_dice" = some (.ref a) ∧ Binds K fd I.ps [] ∧ ∀ q ∈ G0.kf 18, KForm fd I.ps q.1 q.2.1 q.2.2 ∧ I.ps ≠ [] := by
  obtain ⟨fd, F⟩ := (He.SaysT.d c.t).def_ 23 (d := df I__law_dice) rfl
  exact ⟨He.fAd K ("_law_dice", none), fd, I__law_dice, defF_of F rfl rfl rfl chk__law_dice sc__law_dice rfl, (He.glo_ok X Gn ((He.SaysT.d c.t).fact 23 (f := .glo "_law_dice") rfl)), F.bindsN (ps := I__law_dice.ps) fun _ _ _ _ _ _ us hl => match us, hl with | [_, _], _ => rfl, fun _ hq => nomatch hq⟩
theorem D__law_roll (X : K.In h) (Gn : h.Ns mainGlobals mg) (c : He.SaysX fa fn [] tf ex w h K) : ∃ a fd I, DefF (mkS w K mg b) G0 19 a fd I ∧ mg "_law_roll" = some (.ref a) ∧ Binds K fd I.ps [] ∧ ∀ q ∈ G0.kf 19, KForm fd I.ps q.1 q.2.1 q.2.2 ∧ I.ps ≠ [] := by
  obtain ⟨fd, F⟩ := (He.SaysT.d c.t).def_ 24 (d := df I__law_roll) rfl
  exact ⟨He.fAd K ("_law_roll", none), fd, I__law_roll, defF_of F rfl rfl rfl chk__law_roll sc__law_roll rfl, (He.glo_ok X Gn ((He.SaysT.d c.t).fact 24 (f := .glo "_law_roll") rfl)), F.bindsN (ps := I__law_roll.ps) fun _ _ _ _ _ _ us hl => match us, hl with | [_, _], _ => rfl, fun _ hq => nomatch hq⟩
theorem D__law_pick (X : K.In h) (Gn : h.Ns mainGlobals mg) (c : He.SaysX fa fn [] tf ex w h K) : ∃ a fd I, DefF (mkS w K mg b) G0 20 a fd I ∧ mg "_law_pick" = some (.ref a) ∧ Binds K fd I.ps [] ∧ ∀ q ∈ G0.kf 20, KForm fd I.ps q.1 q.2.1 q.2.2 ∧ I.ps ≠ [] := by
  obtain ⟨fd, F⟩ := (He.SaysT.d c.t).def_ 25 (d := df I__law_pick) rfl
  exact ⟨He.fAd K ("_law_pick", none), fd, I__law_pick, defF_of F rfl rfl rfl chk__law_pick sc__law_pick rfl, (He.glo_ok X Gn ((He.SaysT.d c.t).fact 25 (f := .glo "_law_pick") rfl)), F.bindsN (ps := I__law_pick.ps) fun _ _ _ _ _ _ us hl => match us, hl with | [_, _], _ => rfl, fun _ hq => nomatch hq⟩
theorem D__law_size (X : K.In h) (Gn : h.Ns mainGlobals mg) (c : He.SaysX fa fn [] tf ex w h K) : ∃ a fd I, DefF (mkS w K mg b) G0 21 a fd I ∧ mg "_law_size" = some (.ref a) ∧ Binds K fd I.ps [] ∧ ∀ q ∈ G0.kf 21, KForm fd I.ps q.1 q.2.1 q.2.2 ∧ I.ps ≠ [] := by
  obtain ⟨fd, F⟩ := (He.SaysT.d c.t).def_ 27 (d := df I__law_size) rfl
  exact ⟨He.fAd K ("_law_size", none), fd, I__law_size, defF_of F rfl rfl rfl chk__law_size sc__law_size rfl, (He.glo_ok X Gn ((He.SaysT.d c.t).fact 27 (f := .glo "_law_size") rfl)), F.bindsN (ps := I__law_size.ps) fun _ _ _ _ _ _ us hl => match us, hl with | [_], _ => rfl, fun _ hq => nomatch hq⟩
theorem D__law_game (X : K.In h) (Gn : h.Ns mainGlobals mg) (c : He.SaysX fa fn [] tf ex w h K) : ∃ a fd I, DefF (mkS w K mg b) G0 22 a fd I ∧ mg "_law_game" = some (.ref a) ∧ Binds K fd I.ps [] ∧ ∀ q ∈ G0.kf 22, KForm fd I.ps q.1 q.2.1 q.2.2 ∧ I.ps ≠ [] := by
  obtain ⟨fd, F⟩ := (He.SaysT.d c.t).def_ 28 (d := df I__law_game) rfl
  exact ⟨He.fAd K ("_law_game", none), fd, I__law_game, defF_of F rfl rfl rfl chk__law_game sc__law_game rfl, (He.glo_ok X Gn ((He.SaysT.d c.t).fact 28 (f := .glo "_law_game") rfl)), F.bindsN (ps := I__law_game.ps) fun _ _ _ _ _ _ us hl => match us, hl with | [_, _], _ => rfl, fun _ hq => nomatch hq⟩
theorem D__law_rows (X : K.In h) (Gn : h.Ns mainGlobals mg) (c : He.SaysX fa fn [] tf ex w h K) : ∃ a fd I, DefF (mkS w K mg b) G0 23 a fd I ∧ mg "_law_rows" = some (.ref a) ∧ Binds K fd I.ps [] ∧ ∀ q ∈ G0.kf 23, KForm fd I.ps q.1 q.2.1 q.2.2 ∧ I.ps ≠ [] := by
  obtain ⟨fd, F⟩ := (He.SaysT.d c.t).def_ 29 (d := df I__law_rows) rfl
  exact ⟨He.fAd K ("_law_rows", none), fd, I__law_rows, defF_of F rfl rfl rfl chk__law_rows sc__law_rows rfl, (He.glo_ok X Gn ((He.SaysT.d c.t).fact 29 (f := .glo "_law_rows") rfl)), F.bindsN (ps := I__law_rows.ps) fun _ _ _ _ _ _ us hl => match us, hl with | [_], _ => rfl, fun _ hq => nomatch hq⟩
theorem D__law_order (X : K.In h) (Gn : h.Ns mainGlobals mg) (c : He.SaysX fa fn [] tf ex w h K) : ∃ a fd I, DefF (mkS w K mg b) G0 37 a fd I ∧ mg "_law_order" = some (.ref a) ∧ Binds K fd I.ps [] ∧ ∀ q ∈ G0.kf 37, KForm fd I.ps q.1 q.2.1 q.2.2 ∧ I.ps ≠ [] := by
  obtain ⟨fd, F⟩ := (He.SaysT.d c.t).def_ 30 (d := df I__law_order) rfl
  exact ⟨He.fAd K ("_law_order", none), fd, I__law_order, defF_of F rfl rfl rfl chk__law_order sc__law_order rfl, (He.glo_ok X Gn ((He.SaysT.d c.t).fact 30 (f := .glo "_law_order") rfl)), F.bindsN (ps := I__law_order.ps) fun _ _ _ _ _ _ us hl => match us, hl with | [_, _], _ => rfl, fun _ hq => nomatch hq⟩
theorem D__law_back (X : K.In h) (Gn : h.Ns mainGlobals mg) (c : He.SaysX fa fn [] tf ex w h K) : ∃ a fd I, DefF (mkS w K mg b) G0 38 a fd I ∧ mg "_law_back" = some (.ref a) ∧ Binds K fd I.ps [] ∧ ∀ q ∈ G0.kf 38, KForm fd I.ps q.1 q.2.1 q.2.2 ∧ I.ps ≠ [] := by
  obtain ⟨fd, F⟩ := (He.SaysT.d c.t).def_ 31 (d := df I__law_back) rfl
  exact ⟨He.fAd K ("_law_back", none), fd, I__law_back, defF_of F rfl rfl rfl chk__law_back sc__law_back rfl, (He.glo_ok X Gn ((He.SaysT.d c.t).fact 31 (f := .glo "_law_back") rfl)), F.bindsN (ps := I__law_back.ps) fun _ _ _ _ _ _ us hl => match us, hl with | [_], _ => rfl, fun _ hq => nomatch hq⟩
theorem D__law_stays (X : K.In h) (Gn : h.Ns mainGlobals mg) (c : He.SaysX fa fn [] tf ex w h K) : ∃ a fd I, DefF (mkS w K mg b) G0 39 a fd I ∧ mg "_law_stays" = some (.ref a) ∧ Binds K fd I.ps [] ∧ ∀ q ∈ G0.kf 39, KForm fd I.ps q.1 q.2.1 q.2.2 ∧ I.ps ≠ [] := by
  obtain ⟨fd, F⟩ := (He.SaysT.d c.t).def_ 32 (d := df I__law_stays) rfl
  exact ⟨He.fAd K ("_law_stays", none), fd, I__law_stays, defF_of F rfl rfl rfl chk__law_stays sc__law_stays rfl, (He.glo_ok X Gn ((He.SaysT.d c.t).fact 32 (f := .glo "_law_stays") rfl)), F.bindsN (ps := I__law_stays.ps) fun _ _ _ _ _ _ us hl => match us, hl with | [_, _], _ => rfl, fun _ hq => nomatch hq⟩
theorem D__law_last (X : K.In h) (Gn : h.Ns mainGlobals mg) (c : He.SaysX fa fn [] tf ex w h K) (hT : ∀ p ∈ tf, LamX.TabB b mg (He.cT K p).1 (He.cT K p).2) : ∃ a fd I, DefF (mkS w K mg b) G0 40 a fd I ∧ mg "_law_last" = some (.ref a) ∧ Binds K fd I.ps [] ∧ ∀ q ∈ G0.kf 40, KForm fd I.ps q.1 q.2.1 q.2.2 ∧ I.ps ≠ [] := by
  obtain ⟨fd, F⟩ := (He.SaysT.d c.t).def_ 33 (d := df I__law_last) rfl
  exact ⟨He.fAd K ("_law_last", none), fd, I__law_last, defF_lam F rfl rfl rfl chk__law_last sc__law_last (hT _ List.mem_cons_self) rfl, (He.glo_ok X Gn ((He.SaysT.d c.t).fact 33 (f := .glo "_law_last") rfl)), F.bindsN (ps := I__law_last.ps) fun _ _ _ _ _ _ us hl => match us, hl with | [], _ => rfl, fun _ hq => nomatch hq⟩
theorem D_law (X : K.In h) (Gn : h.Ns mainGlobals mg) (c : He.SaysX fa fn [] tf ex w h K) : ∃ a fd I, DefF (mkS w K mg b) G0 41 a fd I ∧ mg "law" = some (.ref a) ∧ Binds K fd I.ps [] ∧ ∀ q ∈ G0.kf 41, KForm fd I.ps q.1 q.2.1 q.2.2 ∧ I.ps ≠ [] := by
  obtain ⟨fd, F⟩ := (He.SaysT.d c.t).def_ 34 (d := df I_law) rfl
  exact ⟨He.fAd K ("law", none), fd, I_law, defF_of F rfl rfl rfl chk_law sc_law rfl, (He.glo_ok X Gn ((He.SaysT.d c.t).fact 34 (f := .glo "law") rfl)), F.bindsN (ps := I_law.ps) fun _ _ _ _ _ _ us hl => match us, hl with | [_], _ => rfl, fun _ hq => nomatch hq⟩
theorem lawF (X : K.In h) (Gn : h.Ns mainGlobals mg) (c : He.SaysX fa fn [] tf ex w h K) (hT : ∀ p ∈ tf, LamX.TabB b mg (He.cT K p).1 (He.cT K p).2) : LawF (mkS w K mg b) G0 where
  fn := lookN_all (List.forall_mem_cons.mpr ⟨D_demand X Gn c, List.forall_mem_cons.mpr ⟨D_is_in X Gn c, List.forall_mem_cons.mpr ⟨D_is_tuple X Gn c, List.forall_mem_cons.mpr ⟨D_are_in X Gn c, List.forall_mem_cons.mpr ⟨D_is_set X Gn c, List.forall_mem_cons.mpr ⟨D_is_order X Gn c, List.forall_mem_cons.mpr ⟨D_how_many X Gn c, List.forall_mem_cons.mpr ⟨D_is_game X Gn c, List.forall_mem_cons.mpr ⟨D_demand_game X Gn c, List.forall_mem_cons.mpr ⟨D_row_of X Gn c, List.forall_mem_cons.mpr ⟨D_number_of X Gn c, List.forall_mem_cons.mpr ⟨D_is_row X Gn c, List.forall_mem_cons.mpr ⟨D_row_number X Gn c, List.forall_mem_cons.mpr ⟨D_common_hues X Gn c, List.forall_mem_cons.mpr ⟨D_answer_of X Gn c, List.forall_mem_cons.mpr ⟨D_answer X Gn c, List.forall_mem_cons.mpr ⟨D_hues_moved X Gn c, List.forall_mem_cons.mpr ⟨D_places_moved X Gn c, List.forall_mem_cons.mpr ⟨D_demand_set X Gn c, List.forall_mem_cons.mpr ⟨D_demand_ask X Gn c, List.forall_mem_cons.mpr ⟨D_parts_of X Gn c, List.forall_mem_cons.mpr ⟨D_parts X Gn c, List.forall_mem_cons.mpr ⟨D_greatest_part X Gn c, List.forall_mem_cons.mpr ⟨D__law_dice X Gn c, List.forall_mem_cons.mpr ⟨D__law_roll X Gn c, List.forall_mem_cons.mpr ⟨D__law_pick X Gn c, List.forall_mem_cons.mpr ⟨D__law_size X Gn c, List.forall_mem_cons.mpr ⟨D__law_game X Gn c, List.forall_mem_cons.mpr ⟨D__law_rows X Gn c, List.forall_mem_cons.mpr ⟨D__law_order X Gn c, List.forall_mem_cons.mpr ⟨D__law_back X Gn c, List.forall_mem_cons.mpr ⟨D__law_stays X Gn c, List.forall_mem_cons.mpr ⟨D__law_last X Gn c hT, List.forall_mem_cons.mpr ⟨D_law X Gn c, fun _ hq => nomatch hq⟩⟩⟩⟩⟩⟩⟩⟩⟩⟩⟩⟩⟩⟩⟩⟩⟩⟩⟩⟩⟩⟩⟩⟩⟩⟩⟩⟩⟩⟩⟩⟩⟩⟩)
  glb := lookN_all (List.forall_mem_cons.mpr ⟨glb_tup (vs := [.str "places", .str "both", .str "hues", .str "first", .str "apart", .str "more"]) X Gn (He.glo_ok X Gn ((He.SaysT.d c.t).fact 36 (f := .glo "KINDS") rfl)) (List.all_eq_true.mp (show ([He.tupB K "KINDS" [.str "places", .str "both", .str "hues", .str "first", .str "apart", .str "more"], noDictB K (He.ga K "KINDS"), exdB (P0.main.file : Str) "self" "name" "name" K (He.ga K "BadArgument"), xfB K (He.ga K "BadArgument"), decide (PySem.W.findIn K (.ref (He.ga K "BadArgument")) "name" = some none), decide (PySem.W.exmOne K (.ref (He.ga K "BadArgument")) (.ref (He.ga K "BadArgument")) = some true)].all id) = true from c.more) _ (List.mem_of_getElem? (i := 0) rfl)) (List.all_eq_true.mp (show ([He.tupB K "KINDS" [.str "places", .str "both", .str "hues", .str "first", .str "apart", .str "more"], noDictB K (He.ga K "KINDS"), exdB (P0.main.file : Str) "self" "name" "name" K (He.ga K "BadArgument"), xfB K (He.ga K "BadArgument"), decide (PySem.W.findIn K (.ref (He.ga K "BadArgument")) "name" = some none), decide (PySem.W.exmOne K (.ref (He.ga K "BadArgument")) (.ref (He.ga K "BadArgument")) = some true)].all id) = true from c.more) _ (List.mem_of_getElem? (i := 1) rfl)) rfl, List.forall_mem_cons.mpr ⟨glb_int X Gn ((He.SaysT.d c.t).fact 37 (f := .int "MOST_HUES" 6) rfl), List.forall_mem_cons.mpr ⟨glb_int X Gn ((He.SaysT.d c.t).fact 38 (f := .int "MOST_PLACES" 4) rfl), List.forall_mem_cons.mpr ⟨glb_int X Gn ((He.SaysT.d c.t).fact 39 (f := .int "MOST_ROWS" 36) rfl), fun _ hq => nomatch hq⟩⟩⟩⟩)
  exc := lookN_all (List.forall_mem_cons.mpr ⟨(by
      obtain ⟨fI, fd, z⟩ := exd_ok (P := P0) (List.all_eq_true.mp (show ([He.tupB K "KINDS" [.str "places", .str "both", .str "hues", .str "first", .str "apart", .str "more"], noDictB K (He.ga K "KINDS"), exdB (P0.main.file : Str) "self" "name" "name" K (He.ga K "BadArgument"), xfB K (He.ga K "BadArgument"), decide (PySem.W.findIn K (.ref (He.ga K "BadArgument")) "name" = some none), decide (PySem.W.exmOne K (.ref (He.ga K "BadArgument")) (.ref (He.ga K "BadArgument")) = some true)].all id) = true from c.more) _ (List.mem_of_getElem? (i := 2) rfl)) (by rfl) (by rfl) (by rfl) (by rfl) (fun _ _ _ _ _ _ _ _ _ _ _ _ _ _ us hl => match us, hl with | [_, _], _ => rfl)
      exact ⟨_, fI, fd, _, z, (He.glo_ok X Gn ((He.SaysT.d c.t).fact 35 (f := .glo "BadArgument") rfl)), rfl, rfl, He.free_ok X Gn ((He.SaysT.d c.t).fact 58 (f := .free "super") rfl)⟩), fun _ hq => nomatch hq⟩)
  ref := lookN_all (List.forall_mem_cons.mpr ⟨(by
      obtain ⟨fd, F⟩ := (He.SaysT.d c.t).def_ 26 (d := df I__law_refused) rfl
      exact ⟨_, _, _, refD_of F (He.glo_ok X Gn ((He.SaysT.d c.t).fact 26 (f := .glo "_law_refused") rfl)) (xfB_ok (List.all_eq_true.mp (show ([He.tupB K "KINDS" [.str "places", .str "both", .str "hues", .str "first", .str "apart", .str "more"], noDictB K (He.ga K "KINDS"), exdB (P0.main.file : Str) "self" "name" "name" K (He.ga K "BadArgument"), xfB K (He.ga K "BadArgument"), decide (PySem.W.findIn K (.ref (He.ga K "BadArgument")) "name" = some none), decide (PySem.W.exmOne K (.ref (He.ga K "BadArgument")) (.ref (He.ga K "BadArgument")) = some true)].all id) = true from c.more) _ (List.mem_of_getElem? (i := 3) rfl))) (of_decide_eq_true (List.all_eq_true.mp (show ([He.tupB K "KINDS" [.str "places", .str "both", .str "hues", .str "first", .str "apart", .str "more"], noDictB K (He.ga K "KINDS"), exdB (P0.main.file : Str) "self" "name" "name" K (He.ga K "BadArgument"), xfB K (He.ga K "BadArgument"), decide (PySem.W.findIn K (.ref (He.ga K "BadArgument")) "name" = some none), decide (PySem.W.exmOne K (.ref (He.ga K "BadArgument")) (.ref (He.ga K "BadArgument")) = some true)].all id) = true from c.more) _ (List.mem_of_getElem? (i := 4) rfl))) (of_decide_eq_true (List.all_eq_true.mp (show ([He.tupB K "KINDS" [.str "places", .str "both", .str "hues", .str "first", .str "apart", .str "more"], noDictB K (He.ga K "KINDS"), exdB (P0.main.file : Str) "self" "name" "name" K (He.ga K "BadArgument"), xfB K (He.ga K "BadArgument"), decide (PySem.W.findIn K (.ref (He.ga K "BadArgument")) "name" = some none), decide (PySem.W.exmOne K (.ref (He.ga K "BadArgument")) (.ref (He.ga K "BadArgument")) = some true)].all id) = true from c.more) _ (List.mem_of_getElem? (i := 5) rfl))) (F.bindsN (ps := ["call"]) fun _ _ _ _ _ _ us hl => match us, hl with | [_], _ => rfl) ⟨rfl, rfl, rfl, by decide +kernel, rfl, by decide +kernel, by decide +kernel⟩ rfl rfl rfl (He.glo_ok X Gn ((He.SaysT.d c.t).fact 35 (f := .glo "BadArgument") rfl)) rfl rfl rfl rfl rfl ⟨_, _, _, _, _, _, _, _, _, _, _, _, rfl⟩, rfl, rfl⟩), fun _ hq => nomatch hq⟩)
  blt := fun x hx => by
    have z : ∀ y ∈ (["len", "abs", "int", "str", "min", "max", "sum", "all", "any", "tuple", "list", "range", "isinstance", "sorted", "set", "zip", "enumerate", "bool"] : List Str), mg y = none := List.forall_mem_cons.mpr ⟨He.free_ok X Gn ((He.SaysT.d c.t).fact 40 (f := .free "len") rfl), List.forall_mem_cons.mpr ⟨He.free_ok X Gn ((He.SaysT.d c.t).fact 41 (f := .free "abs") rfl), List.forall_mem_cons.mpr ⟨He.free_ok X Gn ((He.SaysT.d c.t).fact 42 (f := .free "int") rfl), List.forall_mem_cons.mpr ⟨He.free_ok X Gn ((He.SaysT.d c.t).fact 43 (f := .free "str") rfl), List.forall_mem_cons.mpr ⟨He.free_ok X Gn ((He.SaysT.d c.t).fact 44 (f := .free "min") rfl), List.forall_mem_cons.mpr ⟨He.free_ok X Gn ((He.SaysT.d c.t).fact 45 (f := .free "max") rfl), List.forall_mem_cons.mpr ⟨He.free_ok X Gn ((He.SaysT.d c.t).fact 46 (f := .free "sum") rfl), List.forall_mem_cons.mpr ⟨He.free_ok X Gn ((He.SaysT.d c.t).fact 47 (f := .free "all") rfl), List.forall_mem_cons.mpr ⟨He.free_ok X Gn ((He.SaysT.d c.t).fact 48 (f := .free "any") rfl), List.forall_mem_cons.mpr ⟨He.free_ok X Gn ((He.SaysT.d c.t).fact 49 (f := .free "tuple") rfl), List.forall_mem_cons.mpr ⟨He.free_ok X Gn ((He.SaysT.d c.t).fact 50 (f := .free "list") rfl), List.forall_mem_cons.mpr ⟨He.free_ok X Gn ((He.SaysT.d c.t).fact 51 (f := .free "range") rfl), List.forall_mem_cons.mpr ⟨He.free_ok X Gn ((He.SaysT.d c.t).fact 52 (f := .free "isinstance") rfl), List.forall_mem_cons.mpr ⟨He.free_ok X Gn ((He.SaysT.d c.t).fact 53 (f := .free "sorted") rfl), List.forall_mem_cons.mpr ⟨He.free_ok X Gn ((He.SaysT.d c.t).fact 54 (f := .free "set") rfl), List.forall_mem_cons.mpr ⟨He.free_ok X Gn ((He.SaysT.d c.t).fact 55 (f := .free "zip") rfl), List.forall_mem_cons.mpr ⟨He.free_ok X Gn ((He.SaysT.d c.t).fact 56 (f := .free "enumerate") rfl), List.forall_mem_cons.mpr ⟨He.free_ok X Gn ((He.SaysT.d c.t).fact 57 (f := .free "bool") rfl), fun _ hq => nomatch hq⟩⟩⟩⟩⟩⟩⟩⟩⟩⟩⟩⟩⟩⟩⟩⟩⟩⟩
    exact z x (of_decide_eq_true hx)
end
abbrev R0 : PySem.W.OpenRow := PySem.W.OpenLaw.row PySem.Challenge.rw_guessfewest_k01_whole_rows_that_are_move
abbrev hk : PySem.W.Hook := hookY 5 fa fn [] tf ex
def ob (s : PySem.W.SharedT) : He.AlX := obY 5 fa fn [] tf ex (HandSHeadRun.getT s)
theorem ob_eq (s : PySem.W.SharedT) : ob s = hk.obs s.abs := obY_eq _ _ _ _ _ _ (HandSHeadRun.getT_eq s)
def loose : List PySem.Str := List.map PySem.Str.ofString ["GuessError", "BadArgument", "demand", "is_in", "is_tuple", "are_in", "is_set", "is_order", "KINDS", "MOST_HUES", "MOST_PLACES", "MOST_ROWS", "how_many", "is_game", "demand_game", "row_of", "number_of", "is_row", "row_number", "common_hues", "answer_of", "answer", "hues_moved", "places_moved", "demand_set", "demand_ask", "parts_of", "parts", "greatest_part", "_law_dice", "_law_roll", "_law_pick", "_law_refused", "_law_size", "_law_game", "_law_rows", "_law_common", "_law_answer", "_law_order", "_law_back", "_law_stays", "_law_last"]
theorem run0 (w : World) : HandSHeadRun.RunEq R0 (PySem.W.view R0.prog [47]) hk ob 3000 loose w := by
  intro os
  kernel_rfl
theorem end0 (plain : ∀ ns : List Int, ns.length ≤ 63 → (∀ z ∈ ns, Builtin.Int.intBits z ≤ 1048576) → ∃ m', callD D.P_k01 10 41 [.seq ns] [] = .ok (.bl true) m') {w : World} {mg : Str → Option Value} {fa0 : Addr} {h : Heap} (Y : hk.says w h) (Gn : h.Ns mainGlobals mg) (hmg : mg "law" = some (.ref fa0)) : ∃ K : PySem.W.Frag, K.In h ∧ LamX.LawAtS PySem.Challenge.rw_guessfewest_k01_whole_rows_that_are_move w K (L2.CX P0 w) (3 * 10) 63 "script" mg fa0 h := by
  obtain ⟨K, X, c⟩ := Y
  obtain ⟨fd, F⟩ := (He.SaysT.d c.t).def_ 34 (d := df I_law) rfl
  have e := hmg.symm.trans (He.glo_ok X Gn ((He.SaysT.d c.t).fact 34 (f := .glo "law") rfl))
  cases e
  refine ⟨K, X, law_at (mk := mkS w K mg) (cs := tf.map (He.cT K)) (T := TT K) (P := D.P_k01) (f := 41) (fun _ => rfl) (fun _ => rfl) (fun _ => rfl) ?_ ?_ ?_ (fun s u => F.bindsA (ps := ["script"]) (fun _ _ _ _ _ _ us hl => match us, hl with | [_], _ => rfl) s [u] rfl) ?_ plain ?_⟩
  · intro p hp
    obtain ⟨q, hq, rfl⟩ := List.mem_map.mp hp
    exact c.empty q hq
  · intro p hp
    obtain ⟨q, hq, rfl⟩ := List.mem_map.mp hp
    exact c.out q hq
  · intro p hp
    obtain ⟨q, hq, rfl⟩ := List.mem_map.mp hp
    exact PySem.W.codeHd_of_K X (c.hd q hq)
  · exact List.forall_mem_cons.mpr ⟨⟨_, List.mem_map.mpr ⟨_, List.mem_of_getElem? (i := 0) rfl, rfl⟩, rfl⟩, fun _ hq => nomatch hq⟩
  · intro base k1 k2 k3
    have hT : ∀ p ∈ tf, LamX.TabB base mg (He.cT K p).1 (He.cT K p).2 := fun p hp => k3 _ (List.mem_map.mpr ⟨p, hp, rfl⟩)
    exact defs_ok (lawF (b := base) X Gn c hT) 10 (I := I_law) (defF_of F rfl rfl rfl chk_law sc_law rfl)
theorem holds0 (plain : ∀ ns : List Int, ns.length ≤ 63 → (∀ z ∈ ns, Builtin.Int.intBits z ≤ 1048576) → ∃ m', callD D.P_k01 10 41 [.seq ns] [] = .ok (.bl true) m') : PySem.Challenge.rw_guessfewest_k01_whole_rows_that_are_move.Holds := by
  w_on; o_law
  refine HandSHeadRun.head_any (r := PySem.W.OpenLaw.row PySem.Challenge.rw_guessfewest_k01_whole_rows_that_are_move) (q := PySem.W.view R0.prog [47]) (H := hk) (ob := ob) (M := 3000) (loose := loose) (d := HandSHeadRun.topDef R0.prog 47) (kwd := []) ob_eq (by kernel_rfl) (fun s => by kernel_rfl) run0 (by kernel_rfl) (by kernel_rfl) (by kernel_rfl) (by rfl) (by first | assumption | decide +kernel) (by decide +kernel) ⟨rfl, rfl, rfl, rfl, rfl, by decide +kernel⟩ ?hw ?hc
  case hw => w_witness2
  case hc =>
    refine LamX.walk_ofTsE (l := PySem.Challenge.rw_guessfewest_k01_whole_rows_that_are_move) (n := 63) (k := 3 * 10) (x := "script") (CX := L2.CX P0) rfl (by decide) (by kernel_rfl) ⟨rfl, by decide, by decide⟩ ?F (fun _ _ _ _ _ ⟨_, _, _, _, _, _, _, _, _, _, _, _, z⟩ => z)
    intro w mg fa0 h Y G hmg0
    have hmg : mg ("law" : PySem.Str) = some (.ref fa0) := by
      have e : (HandSHeadRun.topDef R0.prog 47).name = ("law" : PySem.Str) := by kernel_rfl
      rw [← e]
      exact hmg0
    exact end0 plain Y G hmg
end Mi
end

theorem PySem.Challenge.cw_guessfewest_k01_whole_rows_that_are_move_holds : PySem.Challenge.rw_guessfewest_k01_whole_rows_that_are_move.Holds := by
  exact Mi.holds0 fun ns h _ => Mi.plainLaw ns h
