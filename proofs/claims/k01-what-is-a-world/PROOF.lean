import PyProof.Rows.All
import Wide.All
import OpenK.AllK
import Wide.FinOn
import KE.KStateDown
import HandS.More
import HandS.Words
import HandS.WordsExc
import HandS.Defaults
import HandS.List
import HandS.ForMost
import HandS.Exc
import HandS.ExcOwn
import HandS.Deep
import HandS.IsInst
import HandS.Sort
import HandS.Conv
import HandS.Zip
import HandS.Style
import HandS.Codes
import HandS.Head0
import HandS.Head1
import HandS.Head2
import HandS.HeadEnd
import HandS.HeadHook1
import HandS.HeadHook2
import PySem.Challenge.RW_foreseehall_k01_what_is_a_world
set_option linter.all false
set_option Elab.async false
set_option maxRecDepth 100000
set_option maxHeartbeats 0
/-! The small language: values, trees, terms, and what they compute. -/
namespace MP
open PySem

/-- a value: a tree; ref n is the n-th mutable cell of the running frame -/
inductive D where
  | none | bool (b : Bool) | int (i : Int) | str (s : Str)
  | list (xs : List D) | tup (xs : List D)
  | dk (ks : List L2.Key) (vs : List D)
  | dt (ks : List (List L2.Key)) (vs : List D)
  | ref (n : Nat)
  | scr (ns : List Int)
  deriving Inhabited

/-- a mutable cell -/
inductive Cell where
  | lst (xs : List D)
  | dk (ks : List L2.Key) (vs : List D)
  | dt (ks : List (List L2.Key)) (vs : List D)
  | dead
  deriving Inhabited

abbrev Env := List (Option D)
abbrev Sto := List Cell

inductive R (α : Type) where
  | ok (a : α) (st : Sto)
  | err (c : Str) (st : Sto)
  | stuck

def R.bind {α β : Type} (r : R α) (f : α → Sto → R β) : R β := match r with
  | .ok a st => f a st
  | .err c st => .err c st
  | .stuck => .stuck
@[simp] theorem R.bind_ok {α β : Type} (a : α) (st : Sto) (f : α → Sto → R β) : (R.ok a st).bind f = f a st := rfl
@[simp] theorem R.bind_err {α β : Type} (c : Str) (st : Sto) (f : α → Sto → R β) : (R.err c st : R α).bind f = .err c st := rfl
@[simp] theorem R.bind_stuck {α β : Type} (f : α → Sto → R β) : (R.stuck : R α).bind f = .stuck := rfl

/-- what an expression hands on: a value, or a list that was made just now -/
inductive Val where
  | v (d : D)
  | new (ds : List D)
@[simp] def Val.d : Val → D
  | .v d => d
  | .new ds => .list ds

/-- what a statement comes to -/
inductive X where
  | nx (env : Env) (st : Sto)
  | rt (d : D) (st : Sto)
  | err (c : Str) (env : Env) (st : Sto)
  | stuck

/-! ### trees without cells -/
mutual
def D.noref : D → Bool
  | .ref _ => false
  | .list xs => norefs xs
  | .tup xs => norefs xs
  | .dk _ vs => norefs vs
  | .dt _ vs => norefs vs
  | _ => true
def norefs : List D → Bool
  | [] => true
  | x :: xs => x.noref && norefs xs
end
/-! no list, no dict that is a tree -/
mutual
def D.nolist : D → Bool
  | .list _ => false
  | .scr _ => false
  | .dk _ _ => false
  | .dt _ _ => false
  | .tup xs => nolists xs
  | _ => true
def nolists : List D → Bool
  | [] => true
  | x :: xs => x.nolist && nolists xs
end
def Cell.nolist : Cell → Bool
  | .lst xs => nolists xs
  | .dk _ vs => nolists vs
  | .dt _ vs => nolists vs
  | .dead => true
/-! all cells that are named stand below n -/
mutual
def D.low (n : Nat) : D → Bool
  | .ref m => decide (m < n)
  | .list xs => lows n xs
  | .tup xs => lows n xs
  | .dk _ vs => lows n vs
  | .dt _ vs => lows n vs
  | _ => true
def lows (n : Nat) : List D → Bool
  | [] => true
  | x :: xs => x.low n && lows n xs
end
def Cell.low (n : Nat) : Cell → Bool
  | .lst xs => lows n xs
  | .dk _ vs => lows n vs
  | .dt _ vs => lows n vs
  | .dead => true
/-! cells renumbered -/
mutual
def D.shift (k : Nat) : D → D
  | .ref m => .ref (m + k)
  | .list xs => .list (shifts k xs)
  | .tup xs => .tup (shifts k xs)
  | .dk ks vs => .dk ks (shifts k vs)
  | .dt ks vs => .dt ks (shifts k vs)
  | .none => .none
  | .bool b => .bool b
  | .int i => .int i
  | .str s => .str s
  | .scr ns => .scr ns
def shifts (k : Nat) : List D → List D
  | [] => []
  | x :: xs => x.shift k :: shifts k xs
end
def Cell.shift (k : Nat) : Cell → Cell
  | .lst xs => .lst (shifts k xs)
  | .dk ks vs => .dk ks (shifts k vs)
  | .dt ks vs => .dt ks (shifts k vs)
  | .dead => .dead
/-! cells read as trees -/
mutual
def D.mapRef (g : Nat → Option D) : D → Option D
  | .ref n => g n
  | .list xs => match mapRefs g xs with
    | some ys => some (.list ys)
    | Option.none => Option.none
  | .tup xs => match mapRefs g xs with
    | some ys => some (.tup ys)
    | Option.none => Option.none
  | .dk ks vs => match mapRefs g vs with
    | some ys => some (.dk ks ys)
    | Option.none => Option.none
  | .dt ks vs => match mapRefs g vs with
    | some ys => some (.dt ks ys)
    | Option.none => Option.none
  | .none => some .none
  | .bool b => some (.bool b)
  | .int i => some (.int i)
  | .str s => some (.str s)
  | .scr ns => some (.scr ns)
def mapRefs (g : Nat → Option D) : List D → Option (List D)
  | [] => some []
  | x :: xs => match x.mapRef g, mapRefs g xs with
    | some y, some ys => some (y :: ys)
    | _, _ => Option.none
end
def readN : Nat → Sto → Nat → Option D
  | 0, _, _ => Option.none
  | k + 1, st, n => match st[n]? with
    | some (.lst xs) => (match mapRefs (readN k st) xs with
      | some ys => some (.list ys)
      | Option.none => Option.none)
    | _ => Option.none
/-- a value as a tree -/
def frz (st : Sto) (d : D) : Option D := d.mapRef (readN st.length st)
def frzs (st : Sto) (ds : List D) : Option (List D) := mapRefs (readN st.length st) ds

/-! ### trees compared -/
mutual
def D.py : D → PyData
  | .none => .none
  | .bool b => .bool b
  | .int i => .int i
  | .str s => .str s
  | .list xs => .list (pys xs)
  | .tup xs => .tuple (pys xs)
  | .dk _ _ => .dict []
  | .dt _ _ => .dict []
  | .ref _ => .dict []
  | .scr _ => .dict []
def pys : List D → List PyData
  | [] => []
  | x :: xs => x.py :: pys xs
end
/-- == may be asked -/
def D.shp (d : D) : Bool := SeqAt.shaped d.py
def eqD (a b : D) : Bool := PyData.eqv a.py b.py
/-! the same tree (for a list that is walked: it must stand) -/
mutual
def D.same : D → D → Bool
  | .none, .none => true
  | .bool a, .bool b => a == b
  | .int a, .int b => a == b
  | .str a, .str b => decide (a = b)
  | .list xs, .list ys => sames xs ys
  | .tup xs, .tup ys => sames xs ys
  | .ref a, .ref b => a == b
  | _, _ => false
def sames : List D → List D → Bool
  | [], [] => true
  | x :: xs, y :: ys => x.same y && sames xs ys
  | _, _ => false
end

/-! ### terms -/
inductive BOp where
  | add | sub | mul | fdiv | mod | pow
  deriving DecidableEq
inductive COp where
  | eq | ne | lt | le | gt | ge | isin | notin | is | isnot
  deriving DecidableEq
/-- built-in functions -/
inductive BI where
  | len | range1 | range2 | listOf | tupleOf | sorted | sortedSet | sum | any | all | max2 | maxL | minL | maxD0 | minT
  | toInt | toStr | isinst (T : String) | dictOf | reprOf
  deriving DecidableEq
/-- methods -/
inductive MT where
  | append | extend | pop0 | popAt | insert | remove | reverse | clear | index | count
  | split | join | find | rfind3 | countS | endswith | islower | get
  deriving DecidableEq

mutual
inductive E where
  | var (i : Nat)
  | lit (d : D)
  | glob (x : Str) (d : D)
  | bin (o : BOp) (a b : E)
  | cmp (o : COp) (a b : E)
  | chain (o p : COp) (a b c : E)
  | land (a b : E)
  | lor (a b : E)
  | lnot (a : E)
  | ite (c a b : E)
  | tup (es : Es)
  | list (es : Es)
  | ix (a b : E)
  | sl (a lo hi : E)
  | call (f : Nat) (es : Es)
  | callC (f : Nat) (es : Es)
  | callS (f : Nat) (es : Es)
  | bi (f : BI) (es : Es)
  | mt (m : MT) (o : E) (es : Es)
  | comp (elt : E) (tg : Tg) (it : It) (cond : E) (own : List Nat)
  | cell (e : E)
  | dnew (tuples : Bool)
inductive Es where
  | nil
  | cons (e : E) (es : Es)
inductive It where
  | seq (e : E)
  | range1 (a : E)
  | range2 (a b : E)
  | zip (a b : E)
inductive Tg where
  | one (i : Nat)
  | many (is : List Nat)
end

/-- a slice's part -/
def isNoneLit : E → Bool
  | .lit .none => true
  | _ => false
def partOf (e : E) (d : D) : Option (Option Int) := if isNoneLit e then some Option.none else match d with
  | .int i => some (some i)
  | _ => Option.none

inductive S where
  | set (i : Nat) (e : E)
  | unpack (is : List Nat) (e : E)
  | par2 (i j : Nat) (a b : E)
  | par3 (i j k : Nat) (a b c : E)
  | put (o i v : E)
  | expr (e : E)
  | ret (e : E)
  | retN
  | ife (c : E) (a b : List S)
  | for_ (tg : Tg) (it : It) (body : List S) (tmp : List Nat) (trim : Bool)
  | while_ (c : E) (body : List S) (tmp : List Nat) (trim : Bool)
  | raise (c : Str)

structure Def where
  name : Str
  pars : List Str
  locs : List Str
  body : List S

/-! ### what the operations come to -/
/-- the items of a list, a tuple, a list's cell -/
def seqOf (st : Sto) : D → Option (List D)
  | .list xs => some xs
  | .scr ns => some (ns.map D.int)
  | .tup xs => some xs
  | .ref n => match st[n]? with
    | some (.lst xs) => some xs
    | _ => Option.none
  | _ => Option.none
def listOf (st : Sto) : D → Option (List D)
  | .list xs => some xs
  | .ref n => match st[n]? with
    | some (.lst xs) => some xs
    | _ => Option.none
  | _ => Option.none
def sgn (c : Nat) : D := .str ⟨#[c]⟩
def signs (s : Str) : List D := s.cps.toList.map sgn

instance (i j : Int) : Decidable (L2.CMul i j) := by unfold L2.CMul; infer_instance
instance (i j : Int) : Decidable (L2.CDivN i j) := by unfold L2.CDivN; infer_instance
instance (i j : Int) : Decidable (L2.CPow i j) := by unfold L2.CPow; infer_instance

def addV (x y : D) (st : Sto) : R Val := match x, y with
  | .int i, .int j => .ok (.v (.int (i + j))) st
  | .str a, .str b => if a.length + b.length ≤ sizeLine then .ok (.v (.str (a ++ b))) st else .stuck
  | .tup xs, .tup ys => if xs.length ≠ 0 ∧ xs.length + ys.length ≤ sizeLine then .ok (.v (.tup (xs ++ ys))) st else .stuck
  | x, y => match listOf st x, listOf st y with
    | some xs, some ys => if xs.length + ys.length ≤ sizeLine then .ok (.new (xs ++ ys)) st else .stuck
    | _, _ => .stuck
def mulV (x y : D) (st : Sto) : R Val := match x, y with
  | .int i, .int j => if L2.CMul i j then .ok (.v (.int (i * j))) st else .stuck
  | x, .int k => match listOf st x with
    | some xs => if -(2 ^ 63) ≤ k ∧ k < 2 ^ 63 ∧ xs.length * k.toNat ≤ sizeLine then .ok (.new (List.replicate k.toNat xs).flatten) st else .stuck
    | _ => .stuck
  | _, _ => .stuck
def intV (x y : D) (f : Int → Int → R Val) : R Val := match x, y with
  | .int i, .int j => f i j
  | _, _ => .stuck
def binV (o : BOp) (x y : D) (st : Sto) : R Val := match o with
  | .add => addV x y st
  | .sub => intV x y fun i j => .ok (.v (.int (i - j))) st
  | .mul => mulV x y st
  | .fdiv => intV x y fun i j => if L2.CDivN i j then .ok (.v (.int (i.fdiv j))) st else .stuck
  | .mod => intV x y fun i j => if j ≠ 0 then .ok (.v (.int (i.fmod j))) st else .stuck
  | .pow => intV x y fun i j => if L2.CPow i j then .ok (.v (.int (i ^ j.toNat))) st else .stuck

/-- the one text within the other -/
def strIn (i j : Str) : Bool := !(Builtin.Str.occurrences j i 0 j.length 1).isEmpty
def flatD : D → Bool
  | .none => true
  | .bool _ => true
  | .int _ => true
  | .str _ => true
  | _ => false
/-- x among items: of a list; of a tuple -/
def inD (st : Sto) (x y : D) : Option Bool := match y with
  | .str b => (match x with
    | .str a => some (strIn a b)
    | _ => Option.none)
  | .tup ys => if flatD x && ys.all flatD then some (ys.any fun z => eqD z x) else Option.none
  | .ref n => (match st[n]?, x with
    | some (.lst _), _ => (match frz st x, frz st y with
      | some d, some (.list ds) => if d.shp && (D.list ds).shp then some (ds.any fun z => eqD z d) else Option.none
      | _, _ => Option.none)
    | _, _ => Option.none)
  | .list _ => (match frz st x, frz st y with
    | some d, some (.list ds) => if d.shp && (D.list ds).shp then some (ds.any fun z => eqD z d) else Option.none
    | _, _ => Option.none)
  | _ => Option.none
def isD (x y : D) : Option Bool := match y with
  | .none => some (match x with
    | .none => true
    | _ => false)
  | .bool c => some (match x with
    | .bool b => b == c
    | _ => false)
  | _ => Option.none
def cmpV (o : COp) (st : Sto) (x y : D) : Option Bool := match o with
  | .lt => (match x, y with
    | .int i, .int j => some (decide (i < j))
    | .str a, .str b => some (decide (a.cps.toList < b.cps.toList))
    | _, _ => Option.none)
  | .le => (match x, y with
    | .int i, .int j => some (decide (i ≤ j))
    | _, _ => Option.none)
  | .gt => (match x, y with
    | .int i, .int j => some (decide (j < i))
    | _, _ => Option.none)
  | .ge => (match x, y with
    | .int i, .int j => some (decide (j ≤ i))
    | .str a, .str b => some (!decide (a.cps.toList < b.cps.toList))
    | _, _ => Option.none)
  | .eq => (match frz st x, frz st y with
    | some a, some b => if a.shp && b.shp then some (eqD a b) else Option.none
    | _, _ => Option.none)
  | .ne => (match frz st x, frz st y with
    | some a, some b => if a.shp && b.shp then some (!eqD a b) else Option.none
    | _, _ => Option.none)
  | .isin => inD st x y
  | .notin => (inD st x y).map (!·)
  | .is => isD x y
  | .isnot => (isD x y).map (!·)
def cutA {α : Type} (xs : List α) (lo hi : Option Int) : List α := (xs.drop (HT.sIx xs.length 0 lo)).take (HT.sIx xs.length xs.length hi - HT.sIx xs.length 0 lo)
def cutS (z : Str) (lo hi : Option Int) : Str := ⟨((z.cps.toList.drop (HT.sIx z.length 0 lo)).take (HT.sIx z.length z.length hi - HT.sIx z.length 0 lo)).toArray⟩
def look {κ : Type} [BEq κ] (k : κ) : List κ → List D → Option D
  | a :: ks, v :: vs => if a == k then some v else look k ks vs
  | _, _ => Option.none
def ixV (st : Sto) (x y : D) : Option D := match y with
  | .int i => (match x with
    | .str z => if z.length ≤ sizeLine then (L2.atI z.cps.toList i).map sgn else Option.none
    | _ => (match seqOf st x with
      | some xs => L2.atI xs i
      | Option.none => Option.none))
  | _ => Option.none
def slV (x : D) (lo hi : Option Int) (st : Sto) : R Val := match x with
  | .str z => if z.length ≤ sizeLine then .ok (.v (.str (cutS z lo hi))) st else .stuck
  | .tup xs => if HT.sIx xs.length 0 lo = 0 ∧ HT.sIx xs.length xs.length hi = xs.length then .stuck else .ok (.v (.tup (cutA xs lo hi))) st
  | x => (match listOf st x with
    | some xs => .ok (.new (cutA xs lo hi)) st
    | Option.none => .stuck)

def intsOf : List D → Option (List Int)
  | [] => some []
  | .int i :: r => (intsOf r).map (i :: ·)
  | _ :: _ => Option.none
def strsOf : List D → Option (List Str)
  | [] => some []
  | .str i :: r => (strsOf r).map (i :: ·)
  | _ :: _ => Option.none
def boolsOf : List D → Option (List Bool)
  | [] => some []
  | .bool i :: r => (boolsOf r).map (i :: ·)
  | _ :: _ => Option.none
def leS (a b : Str) : Bool := decide (a.cps.toList ≤ b.cps.toList)
def sortI (l : List Int) : List Int := l.mergeSort (fun a b => decide (a ≤ b))
def sortS (l : List Str) : List Str := l.mergeSort leS
def rangeI (a : Int) (n : Nat) : List Int := (List.range n).map fun (k : Nat) => a + (k : Int)
def maxI : List Int → Int
  | [] => 0
  | x :: r => r.foldl (fun m y => if y > m then y else m) x
def minI : List Int → Int
  | [] => 0
  | x :: r => r.foldl (fun m y => if y < m then y else m) x
/-- the builtin type's name of a value -/
def tyOf (st : Sto) : D → Option String
  | .none => some "NoneType"
  | .bool _ => some "bool"
  | .int _ => some "int"
  | .str _ => some "str"
  | .list _ => some "list"
  | .scr _ => Option.none
  | .tup _ => some "tuple"
  | .dk _ _ => Option.none
  | .dt _ _ => Option.none
  | .ref n => match st[n]? with
    | some (.lst _) => some "list"
    | _ => Option.none
def isinstT (T t : String) : Bool := T == t || (T == "int" && t == "bool")
def one (ds : List D) (f : D → R Val) : R Val := match ds with
  | [x] => f x
  | _ => .stuck
def two (ds : List D) (f : D → D → R Val) : R Val := match ds with
  | [x, y] => f x y
  | _ => .stuck
def lenV (x : D) (st : Sto) : R Val := match x with
  | .str z => if z.length ≤ sizeLine then .ok (.v (.int z.length)) st else .stuck
  | _ => (match seqOf st x with
    | some xs => .ok (.v (.int xs.length)) st
    | Option.none => .stuck)
def listV (x : D) (st : Sto) : R Val := match x with
  | .str z => if z.length ≤ sizeLine then .ok (.new (signs z)) st else .stuck
  | _ => (match seqOf st x with
    | some xs => .ok (.new xs) st
    | Option.none => .stuck)
def tupV (x : D) (st : Sto) : R Val := match x with
  | .tup xs => .ok (.v (.tup xs)) st
  | _ => (match listOf st x with
    | some xs => .ok (.v (.tup xs)) st
    | Option.none => .stuck)
def onInts (x : D) (st : Sto) (f : List Int → R Val) : R Val := match listOf st x with
  | some xs => (match intsOf xs with
    | some ns => f ns
    | Option.none => .stuck)
  | Option.none => .stuck
def onBools (x : D) (st : Sto) (f : List Bool → R Val) : R Val := match listOf st x with
  | some xs => (match boolsOf xs with
    | some ns => f ns
    | Option.none => .stuck)
  | Option.none => .stuck
def toIntV (x : D) (st : Sto) : R Val := match x with
  | .int i => .ok (.v (.int i)) st
  | .bool b => .ok (.v (.int (if b then 1 else 0))) st
  | _ => .stuck
def isinstV (T : String) (x : D) (st : Sto) : R Val := match tyOf st x with
  | some t => .ok (.v (.bool (isinstT T t))) st
  | Option.none => .stuck
def range1V (x : D) (st : Sto) : R Val := match x with
  | .int n => if n ≤ sizeLine ∧ -(2 ^ 62) ≤ n then .ok (.new ((rangeI 0 n.toNat).map D.int)) st else .stuck
  | _ => .stuck
def biV (f : BI) (ds : List D) (st : Sto) : R Val := match f with
  | .len => one ds fun x => lenV x st
  | .range1 => one ds fun x => range1V x st
  | .range2 => two ds fun x y => intV x y fun a b => if (b - a) ≤ sizeLine ∧ -(2 ^ 62) ≤ a ∧ a < 2 ^ 62 ∧ -(2 ^ 62) ≤ b ∧ b < 2 ^ 62 then .ok (.new ((rangeI a (b - a).toNat).map D.int)) st else .stuck
  | .listOf => one ds fun x => listV x st
  | .tupleOf => one ds fun x => tupV x st
  | .sorted => one ds fun x => onInts x st fun ns => if ns.length < 64 then .ok (.new ((sortI ns).map D.int)) st else .stuck
  | .sum => one ds fun x => onInts x st fun ns => .ok (.v (.int ns.sum)) st
  | .any => one ds fun x => onBools x st fun bs => .ok (.v (.bool (bs.any id))) st
  | .all => one ds fun x => onBools x st fun bs => .ok (.v (.bool (bs.all id))) st
  | .max2 => two ds fun x y => intV x y fun i j => .ok (.v (.int (if j > i then j else i))) st
  | .maxL => one ds fun x => onInts x st fun ns => if 0 < ns.length then .ok (.v (.int (maxI ns))) st else .stuck
  | .minL => one ds fun x => onInts x st fun ns => if 0 < ns.length then .ok (.v (.int (minI ns))) st else .stuck
  | .toInt => one ds fun x => toIntV x st
  | .isinst T => one ds fun x => isinstV T x st
  | _ => .stuck

def putKey {κ : Type} [BEq κ] (k : κ) (v : D) : List κ → List D → List κ × List D
  | a :: ks, x :: vs => if a == k then (a :: ks, v :: vs) else let r := putKey k v ks vs; (a :: r.1, x :: r.2)
  | _, _ => ([k], [v])
def onCell (x : D) (st : Sto) (f : Nat → List D → R Val) : R Val := match x with
  | .ref n => (match st[n]? with
    | some (.lst xs) => f n xs
    | _ => .stuck)
  | _ => .stuck
def zero (ds : List D) (r : R Val) : R Val := match ds with
  | [] => r
  | _ => .stuck
def popV (xs : List D) (f : D → R Val) : R Val := match xs[xs.length - 1]? with
  | some y => f y
  | Option.none => .stuck
def popAtV (xs : List D) (y : D) (f : D → Nat → R Val) : R Val := match y with
  | .int i => if -(2 ^ 63) ≤ i ∧ i < 2 ^ 63 then (match L2.ixN xs.length i with
    | some k => (match xs[k]? with
      | some y => f y k
      | Option.none => .stuck)
    | Option.none => .stuck) else .stuck
  | _ => .stuck
def indexV (x y : D) (st : Sto) : R Val := match frz st x, frz st y with
  | some (.list ds), some d => if d.shp && (D.list ds).shp then (match ds.findIdx? (fun z => eqD z d) with
    | some j => .ok (.v (.int j)) st
    | Option.none => .stuck) else .stuck
  | _, _ => .stuck
def mtV (m : MT) (x : D) (ds : List D) (st : Sto) : R Val := match m with
  | .append => one ds fun y => onCell x st fun n xs => if xs.length < sizeLine then .ok (.v .none) (st.set n (.lst (xs ++ [y]))) else .stuck
  | .extend => one ds fun y => onCell x st fun n xs => (match listOf st y with
    | some ys => if xs.length + ys.length ≤ sizeLine then .ok (.v .none) (st.set n (.lst (xs ++ ys))) else .stuck
    | Option.none => .stuck)
  | .pop0 => zero ds (onCell x st fun n xs => popV xs fun y => .ok (.v y) (st.set n (.lst xs.dropLast)))
  | .popAt => one ds fun y => onCell x st fun n xs => popAtV xs y fun y k => .ok (.v y) (st.set n (.lst (xs.eraseIdx k)))
  | .insert => two ds fun i y => onCell x st fun n xs => (match i with
    | .int i => if xs.length < sizeLine ∧ 0 ≤ i ∧ i < 2 ^ 63 then .ok (.v .none) (st.set n (.lst (xs.take i.toNat ++ [y] ++ xs.drop i.toNat))) else .stuck
    | _ => .stuck)
  | .reverse => zero ds (onCell x st fun n xs => .ok (.v .none) (st.set n (.lst xs.reverse)))
  | .clear => zero ds (onCell x st fun n xs => .ok (.v .none) (st.set n (.lst [])))
  | .index => one ds fun y => indexV x y st
  | _ => .stuck
/-- the receiver has the method -/
def mtIs (m : MT) (x : D) (st : Sto) : Bool := match m with
  | .append | .extend | .pop0 | .popAt | .insert | .remove | .reverse | .clear | .index | .count => (listOf st x).isSome
  | .get => false
  | _ => (match x with
    | .str _ => true
    | _ => false)
def putV (o i v : D) (st : Sto) : Option Sto := match o, i with
  | .ref n, .int k => (match st[n]? with
    | some (.lst xs) => (match L2.ixN xs.length k with
      | some j => some (st.set n (.lst (xs.set j v)))
      | Option.none => Option.none)
    | _ => Option.none)
  | _, _ => Option.none

/-! ### the frame's names -/
def bindT (env : Env) : Tg → D → Option Env
  | .one i, d => some (env.set i (some d))
  | .many is, .tup ds => if is.length = ds.length then some (bindAll env is ds) else Option.none
  | .many _, _ => Option.none
where bindAll (env : Env) : List Nat → List D → Env
  | i :: is, d :: ds => bindAll (env.set i (some d)) is ds
  | _, _ => env
def wipeE (env : Env) : List Nat → Env
  | [] => env
  | v :: vs => (wipeE env vs).set v Option.none
/-- cells made in a turn are dropped -/
def envBelow (n : Nat) : Env → Bool
  | [] => true
  | some d :: r => d.low n && envBelow n r
  | Option.none :: r => envBelow n r
def fin (trim : Bool) (n : Nat) (tmp : List Nat) (env : Env) (st : Sto) : Option (Env × Sto) :=
  if trim then
    if envBelow n (wipeE env tmp) && (st.take n).all (Cell.low n) then some (wipeE env tmp, st.take n) else Option.none
  else some (wipeE env tmp, st)

/-! ### loops -/
def items (st : Sto) : D → Option (List D)
  | .str z => some (signs z)
  | d => seqOf st d
/-- what is walked stands -/
def stands (src : D) (ds : List D) (st : Sto) : Bool := match src with
  | .ref n => (match st[n]? with
    | some (.lst xs) => sames xs ds
    | _ => false)
  | _ => true
def loopF (ok : Sto → Bool) (trim : Bool) (n : Nat) (tmp : List Nat) (body : D → Env → Sto → X) : List D → Env → Sto → X
  | [], env, st => .nx env st
  | d :: ds, env, st => match body d env st with
    | .nx env' st' => (match fin trim n tmp env' st' with
      | some (env'', st'') => if ok st'' then loopF ok trim n tmp body ds env'' st'' else .stuck
      | Option.none => .stuck)
    | r => r
def loopC (ok : Sto → Bool) (f : D → Sto → R (Option D)) : List D → Sto → R (List D)
  | [], st => .ok [] st
  | d :: ds, st => match f d st with
    | .ok r st' => if ok st' then (match loopC ok f ds st' with
        | .ok ys st'' => .ok (match r with
          | some y => y :: ys
          | Option.none => ys) st''
        | _ => .stuck) else .stuck
    | _ => .stuck
def loopW (trim : Bool) (n : Nat) (tmp : List Nat) (c : Env → Sto → R Bool) (body : Env → Sto → X) : Nat → Env → Sto → X
  | 0, _, _ => .stuck
  | k + 1, env, st => match c env st with
    | .ok true st' => (match body env st' with
      | .nx env' st'' => (match fin trim n tmp env' st'' with
        | some (env3, st3) => loopW trim n tmp c body k env3 st3
        | Option.none => .stuck)
      | r => r)
    | .ok false st' => .nx env st'
    | .err e st' => .err e env st'
    | .stuck => .stuck
/-- the turns of a while that are let by -/
def wmost : Nat := 1000000

abbrev CF := Nat → List D → Sto → R D
/-- a call in a frame of its own: what is handed in is read as trees, what is handed back too -/
def callP (cf : CF) (f : Nat) (ds : List D) (st : Sto) : R Val := match frzs st ds with
  | some ts => (match cf f ts [] with
    | .ok d st' => if norefs ds || (d.nolist && st'.all Cell.nolist) then (match frz st' d with
        | some t => .ok (.v t) st
        | Option.none => .stuck) else .stuck
    | .err c _ => .err c st
    | .stuck => .stuck)
  | Option.none => .stuck
/-- .. the cells that it has made are taken over -/
def callC (cf : CF) (f : Nat) (ds : List D) (st : Sto) : R Val := if norefs ds then (match cf f ds [] with
    | .ok d st' => .ok (.v (d.shift st.length)) (st ++ st'.map (Cell.shift st.length))
    | .err c _ => .err c st
    | .stuck => .stuck) else .stuck
/-- .. over the caller's own cells -/
def callS (cf : CF) (f : Nat) (ds : List D) (st : Sto) : R Val := match cf f ds st with
  | .ok d st' => .ok (.v d) st'
  | .err c st' => .err c st'
  | .stuck => .stuck

mutual
def evX (cf : CF) : E → Env → Sto → R Val
  | .var i, env, st => (match env[i]? with
    | some (some d) => .ok (.v d) st
    | _ => .stuck)
  | .lit d, _, st => .ok (.v d) st
  | .glob _ d, _, st => .ok (.v d) st
  | .bin o a b, env, st => (evX cf a env st).bind fun x st => (evX cf b env st).bind fun y st => binV o x.d y.d st
  | .cmp o a b, env, st => (evX cf a env st).bind fun x st => (evX cf b env st).bind fun y st => (match cmpV o st x.d y.d with
    | some c => .ok (.v (.bool c)) st
    | Option.none => .stuck)
  | .chain o p a b c, env, st => (evX cf a env st).bind fun x st => (evX cf b env st).bind fun y st => (match cmpV o st x.d y.d with
    | some true => (evX cf c env st).bind fun z st => (match cmpV p st y.d z.d with
      | some k => .ok (.v (.bool k)) st
      | Option.none => .stuck)
    | some false => .ok (.v (.bool false)) st
    | Option.none => .stuck)
  | .land a b, env, st => (evX cf a env st).bind fun x st => (match x with
    | .v (.bool true) => evX cf b env st
    | .v (.bool false) => .ok (.v (.bool false)) st
    | _ => .stuck)
  | .lor a b, env, st => (evX cf a env st).bind fun x st => (match x with
    | .v (.bool false) => evX cf b env st
    | .v (.bool true) => .ok (.v (.bool true)) st
    | _ => .stuck)
  | .lnot a, env, st => (evX cf a env st).bind fun x st => (match x with
    | .v (.bool c) => .ok (.v (.bool (!c))) st
    | _ => .stuck)
  | .ite c a b, env, st => (evX cf c env st).bind fun x st => (match x with
    | .v (.bool true) => evX cf a env st
    | .v (.bool false) => evX cf b env st
    | _ => .stuck)
  | .tup es, env, st => (evXs cf es env st).bind fun ds st => if ds.length ≤ sizeLine then .ok (.v (.tup ds)) st else .stuck
  | .list es, env, st => (evXs cf es env st).bind fun ds st => if ds.length ≤ sizeLine then .ok (.new ds) st else .stuck
  | .ix a b, env, st => (evX cf a env st).bind fun x st => (evX cf b env st).bind fun y st => (match ixV st x.d y.d with
    | some d => .ok (.v d) st
    | Option.none => .stuck)
  | .sl a lo hi, env, st => (evX cf a env st).bind fun x st => (evX cf lo env st).bind fun l st => (match partOf lo l.d with
    | some l => (evX cf hi env st).bind fun u st => (match partOf hi u.d with
      | some u => slV x.d l u st
      | Option.none => .stuck)
    | Option.none => .stuck)
  | .call f es, env, st => (evXs cf es env st).bind fun ds st => callP cf f ds st
  | .callC f es, env, st => (evXs cf es env st).bind fun ds st => callC cf f ds st
  | .callS f es, env, st => (evXs cf es env st).bind fun ds st => callS cf f ds st
  | .bi f es, env, st => (evXs cf es env st).bind fun ds st => biV f ds st
  | .mt m o es, env, st => (evX cf o env st).bind fun x st => if mtIs m x.d st then (evXs cf es env st).bind fun ds st => mtV m x.d ds st else .stuck
  | .comp elt tg it cond own, env, st => (evI cf it env st).bind fun (src, ds) st =>
      if !stands src ds st then .stuck else (match loopC (stands src ds) (fun d st => match bindT (wipeE env own) tg d with
        | some env' => (evX cf cond env' st).bind fun c st => (match c with
          | .v (.bool true) => (evX cf elt env' st).bind fun y st => .ok (some y.d) st
          | .v (.bool false) => .ok Option.none st
          | _ => .stuck)
        | Option.none => .stuck) ds st with
      | .ok ys st => if ys.length ≤ sizeLine then .ok (.new ys) st else .stuck
      | _ => .stuck)
  | .cell e, env, st => (evX cf e env st).bind fun x st => (match x with
    | .new ds => .ok (.v (.ref st.length)) (st ++ [.lst ds])
    | _ => .stuck)
  | .dnew _, _, _ => .stuck
def evXs (cf : CF) : Es → Env → Sto → R (List D)
  | .nil, _, st => .ok [] st
  | .cons e es, env, st => (evX cf e env st).bind fun x st => (evXs cf es env st).bind fun xs st => .ok (x.d :: xs) st
def evI (cf : CF) : It → Env → Sto → R (D × List D)
  | .seq e, env, st => (evX cf e env st).bind fun x st => (match items st x.d with
    | some ds => .ok (x.d, ds) st
    | Option.none => .stuck)
  | .range1 a, env, st => (evX cf a env st).bind fun x st => (match x with
    | .v (.int n) => if n ≤ sizeLine ∧ -(2 ^ 62) ≤ n then .ok (.none, (rangeI 0 n.toNat).map D.int) st else .stuck
    | _ => .stuck)
  | .range2 a b, env, st => (evX cf a env st).bind fun x st => (evX cf b env st).bind fun y st => (match x, y with
    | .v (.int i), .v (.int j) => if j - i ≤ sizeLine ∧ -(2 ^ 62) ≤ i ∧ i < 2 ^ 62 ∧ -(2 ^ 62) ≤ j ∧ j < 2 ^ 62 then .ok (.none, (rangeI i (j - i).toNat).map D.int) st else .stuck
    | _, _ => .stuck)
  | .zip a b, env, st => (evX cf a env st).bind fun x st => (evX cf b env st).bind fun y st => (match x.d, y.d with
    | .list xs, .list ys => .ok (.none, List.zipWith (fun x y => D.tup [x, y]) xs ys) st
    | _, _ => .stuck)
end
/-- an expression's value as a tree or a cell -/
def evE (cf : CF) (e : E) (env : Env) (st : Sto) : R D := (evX cf e env st).bind fun x st => .ok x.d st

def R.toX {α : Type} (r : R α) (env : Env) (f : α → Sto → X) : X := match r with
  | .ok a st => f a st
  | .err c st => .err c env st
  | .stuck => .stuck
@[simp] theorem R.toX_ok {α : Type} (a : α) (st : Sto) (env : Env) (f : α → Sto → X) : (R.ok a st).toX env f = f a st := rfl
@[simp] theorem R.toX_err {α : Type} (c : Str) (st : Sto) (env : Env) (f : α → Sto → X) : (R.err c st : R α).toX env f = .err c env st := rfl
@[simp] theorem R.toX_stuck {α : Type} (env : Env) (f : α → Sto → X) : (R.stuck : R α).toX env f = .stuck := rfl
/-- a test's bool -/
def boolR (d : D) (st : Sto) : R Bool := match d with
  | .bool b => .ok b st
  | _ => .stuck
mutual
def exS (cf : CF) : S → Env → Sto → X
  | .set i e, env, st => (evE cf e env st).toX env fun d st => .nx (env.set i (some d)) st
  | .unpack is e, env, st => (evE cf e env st).toX env fun d st => (match bindT env (.many is) d with
      | some env' => .nx env' st
      | Option.none => .stuck)
  | .par2 i j a b, env, st => (evE cf a env st).toX env fun x st => (evE cf b env st).toX env fun y st => .nx ((env.set i (some x)).set j (some y)) st
  | .par3 i j k a b c, env, st => (evE cf a env st).toX env fun x st => (evE cf b env st).toX env fun y st => (evE cf c env st).toX env fun z st => .nx (((env.set i (some x)).set j (some y)).set k (some z)) st
  | .put o i v, env, st => (evE cf v env st).toX env fun z st => (evE cf o env st).toX env fun x st => (evE cf i env st).toX env fun y st => (match putV x y z st with
      | some st' => .nx env st'
      | Option.none => .stuck)
  | .expr e, env, st => (evE cf e env st).toX env fun _ st => .nx env st
  | .ret e, env, st => (evE cf e env st).toX env fun d st => .rt d st
  | .retN, _, st => .rt .none st
  | .ife c a b, env, st => (evE cf c env st).toX env fun d st => (match d with
      | .bool true => exL cf a env st
      | .bool false => exL cf b env st
      | _ => .stuck)
  | .for_ tg it body tmp trim, env, st => (evI cf it env st).toX env fun p st => if !stands p.1 p.2 st then .stuck else
      loopF (stands p.1 p.2) trim st.length tmp (fun d env st => match bindT env tg d with
        | some env' => exL cf body env' st
        | Option.none => .stuck) p.2 env st
  | .while_ c body tmp trim, env, st => loopW trim st.length tmp (fun env st => (evE cf c env st).bind boolR) (fun env st => exL cf body env st) wmost env st
  | .raise c, env, st => .err c env st
def exL (cf : CF) : List S → Env → Sto → X
  | [], env, st => .nx env st
  | s :: r, env, st => match exS cf s env st with
    | .nx env st => exL cf r env st
    | x => x
end
/-- a def's body -/
def runD (cf : CF) (d : Def) (args : List D) (st : Sto) : R D :=
  if args.length = d.pars.length then
    match exL cf d.body (args.map some ++ List.replicate (d.locs.length - args.length) Option.none) st with
    | .nx _ st => .ok .none st
    | .rt x st => .ok x st
    | .err c _ st => .err c st
    | .stuck => .stuck
  else .stuck
/-- the defs, to a depth of calls -/
def run (T : Nat → Option Def) : Nat → CF
  | 0 => fun _ _ _ => .stuck
  | k + 1 => fun f args st => match T f with
    | some d => runD (run T k) d args st
    | Option.none => .stuck
end MP

/-! What the small language's values are in the machine. -/
namespace MP
open PySem PySem.Spec PyProof.Rows L2

mutual
inductive Rep (K : PySem.W.Frag) (F : Hp) (ad : List Addr) : V → D → Prop
  | none : Rep K F ad .non .none
  | bool (b : Bool) : Rep K F ad (.bl b) (.bool b)
  | int (i : Int) : Rep K F ad (.int i) (.int i)
  | str (x : Str) : Rep K F ad (.str x) (.str x)
  | scr {a : Addr} {ns : List Int} : SqL K F a (ns.map V.int) → Rep K F ad (.ref a) (.scr ns)
  | list {a : Addr} {vs : List V} {ds : List D} : F a = some (.lst vs) → Reps K F ad vs ds → Rep K F ad (.ref a) (.list ds)
  | tup {a : Addr} {vs : List V} {ds : List D} : SqT K F a vs → Reps K F ad vs ds → Rep K F ad (.ref a) (.tup ds)
  | ref {a : Addr} {n : Nat} : ad[n]? = some a → Rep K F ad (.ref a) (.ref n)
inductive Reps (K : PySem.W.Frag) (F : Hp) (ad : List Addr) : List V → List D → Prop
  | nil : Reps K F ad [] []
  | cons {v : V} {vs : List V} {d : D} {ds : List D} : Rep K F ad v d → Reps K F ad vs ds → Reps K F ad (v :: vs) (d :: ds)
end

theorem sqlUp {K : PySem.W.Frag} {F F' : Hp} {a : Addr} {vs : List V} (le : ∀ a o, F a = some o → F' a = some o) (h : SqL K F a vs) : SqL K F' a vs := by
  rcases h with (h | ⟨o, h⟩) | h
  · exact .inl (.inl (le _ _ h))
  · exact .inl (.inr ⟨o, le _ _ h⟩)
  · exact .inr h
theorem sqtUp {K : PySem.W.Frag} {F F' : Hp} {a : Addr} {vs : List V} (le : ∀ a o, F a = some o → F' a = some o) (h : SqT K F a vs) : SqT K F' a vs := by
  rcases h with (h | ⟨o, h⟩) | h
  · exact .inl (.inl (le _ _ h))
  · exact .inl (.inr ⟨o, le _ _ h⟩)
  · exact .inr h

section
variable {K : PySem.W.Frag} {F F' : Hp} {ad ad' : List Addr}
mutual
theorem Rep.up (le : ∀ a o, F a = some o → F' a = some o) (pa : ∀ (n : Nat) (a : Addr), ad[n]? = some a → ad'[n]? = some a) : ∀ {v : V} {d : D}, Rep K F ad v d → Rep K F' ad' v d
  | _, _, .none => .none
  | _, _, .bool b => .bool b
  | _, _, .int i => .int i
  | _, _, .str x => .str x
  | _, _, .scr h => .scr (sqlUp le h)
  | _, _, .list h r => .list (le _ _ h) (Reps.up le pa r)
  | _, _, .tup h r => .tup (sqtUp le h) (Reps.up le pa r)
  | _, _, .ref h => .ref (pa _ _ h)
theorem Reps.up (le : ∀ a o, F a = some o → F' a = some o) (pa : ∀ (n : Nat) (a : Addr), ad[n]? = some a → ad'[n]? = some a) : ∀ {vs : List V} {ds : List D}, Reps K F ad vs ds → Reps K F' ad' vs ds
  | _, _, .nil => .nil
  | _, _, .cons h r => .cons (Rep.up le pa h) (Reps.up le pa r)
end
theorem Reps.length : ∀ {vs : List V} {ds : List D}, Reps K F ad vs ds → vs.length = ds.length
  | _, _, .nil => rfl
  | _, _, .cons _ r => by simp [Reps.length r]
theorem Reps.get : ∀ {vs : List V} {ds : List D} {i : Nat} {d : D}, Reps K F ad vs ds → ds[i]? = some d → ∃ v, vs[i]? = some v ∧ Rep K F ad v d
  | _, _, _, _, .nil, e => by simp at e
  | _, _, 0, _, .cons h _, e => by simp at e; subst e; exact ⟨_, rfl, h⟩
  | _, _, i + 1, d, .cons _ r, e => by
    obtain ⟨v, h1, h2⟩ := Reps.get (i := i) (d := d) r (by simpa using e)
    exact ⟨v, by simpa using h1, h2⟩
theorem Reps.getV : ∀ {vs : List V} {ds : List D} {i : Nat} {v : V}, Reps K F ad vs ds → vs[i]? = some v → ∃ d, ds[i]? = some d ∧ Rep K F ad v d
  | _, _, _, _, .nil, e => by simp at e
  | _, _, 0, _, .cons h _, e => by simp at e; subst e; exact ⟨_, rfl, h⟩
  | _, _, i + 1, d, .cons _ r, e => by
    obtain ⟨v, h1, h2⟩ := Reps.getV (i := i) (v := d) r (by simpa using e)
    exact ⟨v, by simpa using h1, h2⟩
theorem Reps.append : ∀ {vs ws : List V} {ds es : List D}, Reps K F ad vs ds → Reps K F ad ws es → Reps K F ad (vs ++ ws) (ds ++ es)
  | _, _, _, _, .nil, s => s
  | _, _, _, _, .cons h r, s => .cons h (Reps.append r s)
theorem Reps.one {v : V} {d : D} (h : Rep K F ad v d) : Reps K F ad [v] [d] := .cons h .nil
theorem Reps.take : ∀ {vs : List V} {ds : List D} (n : Nat), Reps K F ad vs ds → Reps K F ad (vs.take n) (ds.take n)
  | _, _, 0, _ => .nil
  | _, _, _ + 1, .nil => .nil
  | _, _, n + 1, .cons h r => .cons h (Reps.take n r)
theorem Reps.drop : ∀ {vs : List V} {ds : List D} (n : Nat), Reps K F ad vs ds → Reps K F ad (vs.drop n) (ds.drop n)
  | _, _, 0, r => r
  | _, _, _ + 1, .nil => .nil
  | _, _, n + 1, .cons _ r => Reps.drop n r
theorem Reps.set : ∀ {vs : List V} {ds : List D} (n : Nat) {v : V} {d : D}, Reps K F ad vs ds → Rep K F ad v d → Reps K F ad (vs.set n v) (ds.set n d)
  | _, _, _, _, _, .nil, _ => .nil
  | _, _, 0, _, _, .cons _ r, h => .cons h r
  | _, _, n + 1, _, _, .cons h r, h' => .cons h (Reps.set n r h')
theorem Reps.eraseIdx : ∀ {vs : List V} {ds : List D} (n : Nat), Reps K F ad vs ds → Reps K F ad (vs.eraseIdx n) (ds.eraseIdx n)
  | _, _, _, .nil => .nil
  | _, _, 0, .cons _ r => r
  | _, _, n + 1, .cons h r => .cons h (Reps.eraseIdx n r)
theorem Reps.dropLast {vs : List V} {ds : List D} (h : Reps K F ad vs ds) : Reps K F ad vs.dropLast ds.dropLast := by
  rw [List.dropLast_eq_take, List.dropLast_eq_take, h.length]
  exact h.take _
theorem Reps.reverse : ∀ {vs : List V} {ds : List D}, Reps K F ad vs ds → Reps K F ad vs.reverse ds.reverse
  | _, _, .nil => .nil
  | _, _, .cons h r => by
    rw [List.reverse_cons, List.reverse_cons]
    exact (Reps.reverse r).append (Reps.one h)
theorem Reps.flat {vs : List V} {ds : List D} (h : Reps K F ad vs ds) : ∀ k : Nat, Reps K F ad (List.replicate k vs).flatten (List.replicate k ds).flatten
  | 0 => .nil
  | k + 1 => by
    rw [List.replicate_succ, List.replicate_succ, List.flatten_cons, List.flatten_cons]
    exact h.append (Reps.flat h k)
theorem Reps.ints : ∀ {vs : List V} {ns : List Int}, Reps K F ad vs (ns.map D.int) → vs = ns.map V.int
  | _, [], .nil => rfl
  | _, _ :: ns, .cons (.int _) r => by rw [Reps.ints (ns := ns) r]; rfl
theorem reps_ints : ∀ ns : List Int, Reps K F ad (ns.map V.int) (ns.map D.int)
  | [] => .nil
  | n :: ns => .cons (.int n) (reps_ints ns)
theorem Reps.strs : ∀ {vs : List V} {ns : List Str}, Reps K F ad vs (ns.map D.str) → vs = ns.map V.str
  | _, [], .nil => rfl
  | _, _ :: ns, .cons (.str _) r => by rw [Reps.strs (ns := ns) r]; rfl
theorem reps_strs : ∀ ns : List Str, Reps K F ad (ns.map V.str) (ns.map D.str)
  | [] => .nil
  | n :: ns => .cons (.str n) (reps_strs ns)
theorem Reps.bools : ∀ {vs : List V} {ns : List Bool}, Reps K F ad vs (ns.map D.bool) → vs = ns.map V.bl
  | _, [], .nil => rfl
  | _, _ :: ns, .cons (.bool _) r => by rw [Reps.bools (ns := ns) r]; rfl
theorem intsOf_eq : ∀ {ds : List D} {ns : List Int}, intsOf ds = some ns → ds = ns.map D.int
  | [], ns, h => by cases h; rfl
  | .int i :: r, ns, h => by
    unfold intsOf at h
    cases e : intsOf r with
    | none => rw [e] at h; cases h
    | some ms => rw [e] at h; cases h; rw [intsOf_eq e]; rfl
  | .none :: r, ns, h => by cases h
  | .bool _ :: r, ns, h => by cases h
  | .str _ :: r, ns, h => by cases h
  | .list _ :: r, ns, h => by cases h
  | .tup _ :: r, ns, h => by cases h
  | .dk _ _ :: r, ns, h => by cases h
  | .dt _ _ :: r, ns, h => by cases h
  | .scr _ :: r, ns, h => by cases h
  | .ref _ :: r, ns, h => by cases h
theorem strsOf_eq : ∀ {ds : List D} {ns : List Str}, strsOf ds = some ns → ds = ns.map D.str
  | [], ns, h => by cases h; rfl
  | .str i :: r, ns, h => by
    unfold strsOf at h
    cases e : strsOf r with
    | none => rw [e] at h; cases h
    | some ms => rw [e] at h; cases h; rw [strsOf_eq e]; rfl
  | .none :: r, ns, h => by cases h
  | .bool _ :: r, ns, h => by cases h
  | .int _ :: r, ns, h => by cases h
  | .list _ :: r, ns, h => by cases h
  | .tup _ :: r, ns, h => by cases h
  | .dk _ _ :: r, ns, h => by cases h
  | .dt _ _ :: r, ns, h => by cases h
  | .scr _ :: r, ns, h => by cases h
  | .ref _ :: r, ns, h => by cases h
theorem boolsOf_eq : ∀ {ds : List D} {ns : List Bool}, boolsOf ds = some ns → ds = ns.map D.bool
  | [], ns, h => by cases h; rfl
  | .bool i :: r, ns, h => by
    unfold boolsOf at h
    cases e : boolsOf r with
    | none => rw [e] at h; cases h
    | some ms => rw [e] at h; cases h; rw [boolsOf_eq e]; rfl
  | .none :: r, ns, h => by cases h
  | .int _ :: r, ns, h => by cases h
  | .str _ :: r, ns, h => by cases h
  | .list _ :: r, ns, h => by cases h
  | .tup _ :: r, ns, h => by cases h
  | .dk _ _ :: r, ns, h => by cases h
  | .dt _ _ :: r, ns, h => by cases h
  | .scr _ :: r, ns, h => by cases h
  | .ref _ :: r, ns, h => by cases h
end

/-- a cell in the machine -/
def CellAt (K : PySem.W.Frag) (F : Hp) (ad : List Addr) (H : Hp) (a : Addr) : Cell → Prop
  | .lst ds => ∃ vs, H a = some (.lst vs) ∧ Reps K F ad vs ds
  | .dk ks ds => ∃ vs, H a = some (.dK (ks.zip vs)) ∧ ks.length = vs.length ∧ Reps K F ad vs ds
  | .dt ks ds => ∃ vs, H a = some (.dT (ks.zip vs)) ∧ ks.length = vs.length ∧ Reps K F ad vs ds
  | .dead => False
/-- F: what is never changed; ad: where the frame's cells stand -/
structure RelS (K : PySem.W.Frag) (F : Hp) (ad : List Addr) (st : Sto) (H : Hp) : Prop where
  sub : ∀ a o, F a = some o → H a = some o
  nd : ad.Nodup
  out : ∀ a ∈ ad, F a = none
  len : ad.length = st.length
  live : ∀ a ∈ ad, H a ≠ none
  cell : ∀ (n : Nat) (c : Cell) (a : Addr), st[n]? = some c → ad[n]? = some a → CellAt K F ad H a c
/-- from one state to a later one -/
structure Step (F : Hp) (ad : List Addr) (H : Hp) (F' : Hp) (ad' : List Addr) (H' : Hp) : Prop where
  le : ∀ a o, F a = some o → F' a = some o
  pre : ∃ more, ad' = ad ++ more
  newF : ∀ a, F a = none → F' a ≠ none → H a = none
  newA : ∀ a ∈ ad', a ∉ ad → H a = none
  keep : ∀ a o, a ∉ ad → H a = some o → H' a = some o
  dom : ∀ a, H' a = none → H a = none
section
variable {K : PySem.W.Frag} {F F1 F2 : Hp} {ad ad1 ad2 : List Addr} {H H1 H2 : Hp} {st : Sto}
theorem Step.refl (F : Hp) (ad : List Addr) (H : Hp) : Step F ad H F ad H :=
  ⟨fun _ _ h => h, ⟨[], by simp⟩, fun a h1 h2 => absurd h1 h2, fun a h1 h2 => absurd h1 h2, fun _ _ _ h => h, fun _ h => h⟩
theorem Step.pa (s : Step F ad H F1 ad1 H1) : ∀ (n : Nat) (a : Addr), ad[n]? = some a → ad1[n]? = some a := by
  obtain ⟨m, e⟩ := s.pre
  intro n a h
  subst e
  have hn : n < ad.length := (List.getElem?_eq_some_iff.mp h).1
  rw [List.getElem?_append_left hn]; exact h
theorem Step.mem (s : Step F ad H F1 ad1 H1) {a : Addr} (h : a ∈ ad) : a ∈ ad1 := by
  obtain ⟨m, e⟩ := s.pre
  subst e
  exact List.mem_append_left _ h
theorem Step.trans (a : Step F ad H F1 ad1 H1) (b : Step F1 ad1 H1 F2 ad2 H2) : Step F ad H F2 ad2 H2 where
  le := fun x o h => b.le x o (a.le x o h)
  pre := by
    obtain ⟨m, e⟩ := a.pre
    obtain ⟨m', e'⟩ := b.pre
    exact ⟨m ++ m', by rw [e', e, List.append_assoc]⟩
  newF := fun x h1 h2 => by
    by_cases q : F1 x = none
    · exact a.dom x (b.newF x q h2)
    · exact a.newF x h1 q
  newA := fun x h1 h2 => by
    by_cases q : x ∈ ad1
    · exact a.newA x q h2
    · exact a.dom x (b.newA x h1 q)
  keep := fun x o h1 h2 => by
    have q : x ∉ ad1 := fun hm => by
      have := a.newA x hm h1
      rw [this] at h2; cases h2
    exact b.keep x o q (a.keep x o h1 h2)
  dom := fun x h => a.dom x (b.dom x h)
theorem Rep.step (s : Step F ad H F1 ad1 H1) {v : V} {d : D} (h : Rep K F ad v d) : Rep K F1 ad1 v d := Rep.up s.le s.pa h
theorem Reps.step (s : Step F ad H F1 ad1 H1) {v : List V} {d : List D} (h : Reps K F ad v d) : Reps K F1 ad1 v d := Reps.up s.le s.pa h
theorem CellAt.up {F' : Hp} {ad' : List Addr} {a : Addr} (le : ∀ a o, F a = some o → F' a = some o) (pa : ∀ (n : Nat) (a : Addr), ad[n]? = some a → ad'[n]? = some a) (hH : ∀ o, H a = some o → H1 a = some o) : ∀ {c : Cell}, CellAt K F ad H a c → CellAt K F' ad' H1 a c
  | .lst _, ⟨vs, h, r⟩ => ⟨vs, hH _ h, r.up le pa⟩
  | .dk _ _, ⟨vs, h, l, r⟩ => ⟨vs, hH _ h, l, r.up le pa⟩
  | .dt _ _, ⟨vs, h, l, r⟩ => ⟨vs, hH _ h, l, r.up le pa⟩
  | .dead, h => h.elim
/-- an object laid beside all that is known -/
theorem RelS.beside {p : Addr} {o : HO} (r : RelS K F ad st H) (hp : H p = none) : RelS K F ad st (upd H p o) where
  sub := fun a u h => by rw [upd_ne (ne_of_none (r.sub a u h) hp)]; exact r.sub a u h
  nd := r.nd
  out := r.out
  len := r.len
  live := fun a h => by
    have h' := r.live a h
    by_cases e : a = p
    · rw [e, upd_same]; simp
    · rw [upd_ne e]; exact h'
  cell := fun n c a h1 h2 => (r.cell n c a h1 h2).up (fun _ _ h => h) (fun _ _ h => h) fun u hu => by rw [upd_ne (ne_of_none hu hp)]; exact hu
theorem Step.beside {p : Addr} {o : HO} (hp : H p = none) : Step F ad H F ad (upd H p o) :=
  ⟨fun _ _ h => h, ⟨[], by simp⟩, fun a h1 h2 => absurd h1 h2, fun a h1 h2 => absurd h1 h2, fun a u _ h => by rw [upd_ne (ne_of_none h hp)]; exact h,
    fun a h => by
      by_cases e : a = p
      · rw [e]; exact hp
      · rw [upd_ne e] at h; exact h⟩
/-- .. and never changed from then on; H0: the state at the start -/
theorem RelS.frozen {p : Addr} {o : HO} (r : RelS K F ad st H) (hp : H p = some o) (hf : F p = none) (ha : p ∉ ad) : RelS K (upd F p o) ad st H where
  sub := fun a u h => by
    by_cases e : a = p
    · rw [e, upd_same] at h; cases h; rw [e]; exact hp
    · rw [upd_ne e] at h; exact r.sub a u h
  nd := r.nd
  out := fun a h => by
    have q : a ≠ p := fun e => ha (by rw [← e]; exact h)
    rw [upd_ne q]; exact r.out a h
  len := r.len
  live := r.live
  cell := fun n c a h1 h2 => (r.cell n c a h1 h2).up (fun x u h => by rw [upd_ne (ne_of_none h hf)]; exact h) (fun _ _ h => h) fun _ h => h
theorem up_frozen {p : Addr} {o : HO} (hf : F p = none) : ∀ a u, F a = some u → upd F p o a = some u := fun a u h => by rw [upd_ne (ne_of_none h hf)]; exact h
theorem Step.frozen {H0 : Hp} {F0 : Hp} {ad0 : List Addr} {p : Addr} {o : HO} (s : Step F0 ad0 H0 F ad H) (hf : F p = none) (h0 : H0 p = none) : Step F0 ad0 H0 (upd F p o) ad H where
  le := fun a u h => up_frozen hf a u (s.le a u h)
  pre := s.pre
  newF := fun a h1 h2 => by
    by_cases e : a = p
    · rw [e]; exact h0
    · rw [upd_ne e] at h2; exact s.newF a h1 h2
  newA := s.newA
  keep := s.keep
  dom := s.dom
theorem app_get {α : Type} {l : List α} {x y : α} {n : Nat} (h : (l ++ [x])[n]? = some y) : l[n]? = some y ∨ (n = l.length ∧ y = x) := by
  by_cases hn : n < l.length
  · rw [List.getElem?_append_left hn] at h; exact .inl h
  · rw [List.getElem?_append_right (by omega)] at h
    have : n - l.length = 0 := by
      by_cases z : n - l.length = 0
      · exact z
      · rw [List.getElem?_singleton, if_neg z] at h; cases h
    rw [this] at h
    exact .inr ⟨by omega, by simpa using h.symm⟩
theorem pa_app {ad : List Addr} {p : Addr} : ∀ (n : Nat) (a : Addr), ad[n]? = some a → (ad ++ [p])[n]? = some a := fun n a h => by
  rw [List.getElem?_append_left (List.getElem?_eq_some_iff.mp h).1]; exact h
/-- .. or a cell from then on -/
theorem RelS.celled {p : Addr} {c : Cell} (r : RelS K F ad st H) (hl : H p ≠ none) (hf : F p = none) (ha : p ∉ ad) (hc : CellAt K F (ad ++ [p]) H p c) : RelS K F (ad ++ [p]) (st ++ [c]) H where
  sub := r.sub
  nd := by
    rw [List.nodup_append]
    exact ⟨r.nd, by simp, fun a ha' b hb e => by
      have : b = p := by simpa using hb
      subst this; subst e; exact ha ha'⟩
  out := fun a h => by
    rcases List.mem_append.mp h with h | h
    · exact r.out a h
    · have : a = p := by simpa using h
      rw [this]; exact hf
  len := by simp [r.len]
  live := fun a h => by
    rcases List.mem_append.mp h with h | h
    · exact r.live a h
    · have : a = p := by simpa using h
      rw [this]; exact hl
  cell := fun n c' a h1 h2 => by
    rcases app_get h1 with h1 | ⟨e1, e2⟩
    · rcases app_get h2 with h2 | ⟨e3, _⟩
      · exact (r.cell n c' a h1 h2).up (fun _ _ h => h) pa_app fun _ h => h
      · have := (List.getElem?_eq_some_iff.mp h1).1
        have := r.len
        omega
    · rcases app_get h2 with h2 | ⟨e3, e4⟩
      · have := (List.getElem?_eq_some_iff.mp h2).1
        have := r.len
        omega
      · subst e2; subst e4; exact hc
theorem Step.celled {H0 : Hp} {F0 : Hp} {ad0 : List Addr} {p : Addr} (s : Step F0 ad0 H0 F ad H) (h0 : H0 p = none) : Step F0 ad0 H0 F (ad ++ [p]) H where
  le := s.le
  pre := by
    obtain ⟨m, e⟩ := s.pre
    exact ⟨m ++ [p], by rw [e, List.append_assoc]⟩
  newF := s.newF
  newA := fun a h1 h2 => by
    rcases List.mem_append.mp h1 with h | h
    · exact s.newA a h h2
    · have : a = p := by simpa using h
      rw [this]; exact h0
  keep := s.keep
  dom := s.dom
/-- a cell is written -/
theorem RelS.write {n : Nat} {a : Addr} {o : HO} {c : Cell} (r : RelS K F ad st H) (ha : ad[n]? = some a) (hc : CellAt K F ad (upd H a o) a c) : RelS K F ad (st.set n c) (upd H a o) where
  sub := fun x u h => by
    have : x ≠ a := fun e => by
      subst e
      rw [r.out x (List.mem_of_getElem? ha)] at h; cases h
    rw [upd_ne this]; exact r.sub x u h
  nd := r.nd
  out := r.out
  len := by simp [r.len]
  live := fun x h => by
    by_cases e : x = a
    · rw [e, upd_same]; simp
    · rw [upd_ne e]; exact r.live x h
  cell := fun m c' x h1 h2 => by
    by_cases e : m = n
    · subst e
      rw [ha] at h2; cases h2
      have hm : m < st.length := by
        have := (List.getElem?_eq_some_iff.mp ha).1
        have := r.len
        omega
      rw [List.getElem?_set_self hm] at h1
      cases h1; exact hc
    · rw [List.getElem?_set_ne (Ne.symm e)] at h1
      have hx : x ≠ a := fun z => by
        subst z
        obtain ⟨l1, e1⟩ := List.getElem?_eq_some_iff.mp h2
        obtain ⟨l2, e2⟩ := List.getElem?_eq_some_iff.mp ha
        exact e ((List.getElem_inj r.nd).mp (e1.trans e2.symm))
      exact (r.cell m c' x h1 h2).up (fun _ _ h => h) (fun _ _ h => h) fun u hu => by rw [upd_ne hx]; exact hu
theorem Step.write {n : Nat} {a : Addr} {o : HO} (ha : ad[n]? = some a) : Step F ad H F ad (upd H a o) :=
  ⟨fun _ _ h => h, ⟨[], by simp⟩, fun a h1 h2 => absurd h1 h2, fun a h1 h2 => absurd h1 h2, fun x u hx h => by
    have : x ≠ a := fun e => hx (e ▸ List.mem_of_getElem? ha)
    rw [upd_ne this]; exact h, fun x h => by
    by_cases e : x = a
    · rw [e, upd_same] at h; cases h
    · rw [upd_ne e] at h; exact h⟩
theorem RelS.at (r : RelS K F ad st H) {n : Nat} {c : Cell} (h : st[n]? = some c) : ∃ a, ad[n]? = some a ∧ CellAt K F ad H a c := by
  have hn : n < ad.length := by
    have := (List.getElem?_eq_some_iff.mp h).1
    have := r.len
    omega
  exact ⟨ad[n], by simp [hn], r.cell n c _ h (by simp [hn])⟩
end

/-- the frame's names -/
structure EnvRel (K : PySem.W.Frag) (F : Hp) (ad : List Addr) (env : Env) (σ : L2.St) : Prop where
  len : env.length = σ.length
  at_ : ∀ (i : Nat) (d : D), env[i]? = some (some d) → ∃ v, σ[i]? = some (some v) ∧ Rep K F ad v d
section
variable {K : PySem.W.Frag} {F F1 : Hp} {ad ad1 : List Addr} {H H1 : Hp} {env : Env} {σ : L2.St}
theorem EnvRel.step (s : Step F ad H F1 ad1 H1) (e : EnvRel K F ad env σ) : EnvRel K F1 ad1 env σ :=
  ⟨e.len, fun i d h => let ⟨v, h1, h2⟩ := e.at_ i d h; ⟨v, h1, h2.step s⟩⟩
theorem EnvRel.set (e : EnvRel K F ad env σ) (i : Nat) {v : V} {d : D} (h : Rep K F ad v d) : EnvRel K F ad (env.set i (some d)) (σ.set i (some v)) := by
  refine ⟨by simp [e.len], fun j d' hj => ?_⟩
  by_cases q : i = j
  · subst q
    have hi : i < env.length := by
      have := (List.getElem?_eq_some_iff.mp hj).1
      simpa using this
    rw [List.getElem?_set_self hi] at hj
    cases hj
    exact ⟨v, by rw [List.getElem?_set_self (by rw [← e.len]; exact hi)], h⟩
  · rw [List.getElem?_set_ne q] at hj
    obtain ⟨v', h1, h2⟩ := e.at_ j d' hj
    exact ⟨v', by rw [List.getElem?_set_ne q]; exact h1, h2⟩
theorem wipeE_len (env : Env) : ∀ vs : List Nat, (wipeE env vs).length = env.length
  | [] => rfl
  | v :: vs => by unfold wipeE; rw [List.length_set, wipeE_len env vs]
theorem wipeE_some {env : Env} {i : Nat} {d : D} : ∀ {vs : List Nat}, (wipeE env vs)[i]? = some (some d) → env[i]? = some (some d) ∧ i ∉ vs
  | [], h => ⟨h, by simp⟩
  | v :: vs, h => by
    unfold wipeE at h
    by_cases hi : v = i
    · subst hi
      by_cases hv : v < (wipeE env vs).length
      · rw [List.getElem?_set_self hv] at h; cases h
      · rw [List.getElem?_eq_none (by simpa using hv)] at h; cases h
    · rw [List.getElem?_set_ne hi] at h
      obtain ⟨h1, h2⟩ := wipeE_some h
      exact ⟨h1, by simp only [List.mem_cons, not_or]; exact ⟨fun e => hi e.symm, h2⟩⟩
theorem wipe_keeps {σ : L2.St} {i : Nat} : ∀ {vs : List Nat}, i ∉ vs → (wipe σ vs)[i]? = σ[i]?
  | [], _ => rfl
  | v :: vs, h => by
    unfold wipe
    rw [List.getElem?_set_ne (fun e => h (by simp [e])), wipe_keeps (fun e => h (List.mem_cons_of_mem _ e))]
/-- names forgotten -/
theorem EnvRel.wipeL (e : EnvRel K F ad env σ) (vs : List Nat) : EnvRel K F ad (wipeE env vs) σ :=
  ⟨by rw [wipeE_len]; exact e.len, fun i d h => e.at_ i d (wipeE_some h).1⟩
theorem EnvRel.wipe2 (e : EnvRel K F ad env σ) (vs : List Nat) : EnvRel K F ad (wipeE env vs) (wipe σ vs) :=
  ⟨by rw [wipeE_len, wipe_length]; exact e.len, fun i d h => by
    obtain ⟨h1, h2⟩ := wipeE_some h
    obtain ⟨v, h3, h4⟩ := e.at_ i d h1
    exact ⟨v, by rw [wipe_keeps h2]; exact h3, h4⟩⟩
end

/-! ### trees read by the machine -/
section
variable {K : PySem.W.Frag} {F : Hp} {ad : List Addr} {st : Sto} {H : Hp}
mutual
theorem Rep.dp (g : Nat → Option D) (hg : ∀ (n : Nat) (t : D) (a : Addr), g n = some t → ad[n]? = some a → t.py.canLay0 = true → Dp K H (.ref a) t.py) (sub : ∀ a o, F a = some o → H a = some o) : ∀ {d : D} {v : V} {t : D}, Rep K F ad v d → d.mapRef g = some t → t.py.canLay0 = true → Dp K H v t.py
  | _, _, _, .none, h, _ => by simp only [D.mapRef, Option.some.injEq] at h; subst h; exact .non
  | _, _, _, .bool b, h, _ => by simp only [D.mapRef, Option.some.injEq] at h; subst h; exact .bl b
  | _, _, _, .int b, h, _ => by simp only [D.mapRef, Option.some.injEq] at h; subst h; exact .int b
  | _, _, _, .str b, h, _ => by simp only [D.mapRef, Option.some.injEq] at h; subst h; exact .str b
  | .list ds, _, t, .list hs r, h, l => by
    simp only [D.mapRef] at h
    cases e : mapRefs g ds with
    | none => rw [e] at h; cases h
    | some ys =>
      rw [e] at h
      simp only [Option.some.injEq] at h
      subst h
      exact .lst (SqL.of (sub _ _ hs)) (Reps.dp g hg sub r e (by simpa only [D.py, PyData.canLay0] using l))
  | .tup ds, _, t, .tup hs r, h, l => by
    simp only [D.mapRef] at h
    cases e : mapRefs g ds with
    | none => rw [e] at h; cases h
    | some ys =>
      rw [e] at h
      simp only [Option.some.injEq] at h
      subst h
      exact .tup (sqtUp sub hs) (Reps.dp g hg sub r e (by simpa only [D.py, PyData.canLay0] using l))
  | _, _, _, .scr _, h, l => by
    simp only [D.mapRef, Option.some.injEq] at h
    subst h
    simp only [D.py, PyData.canLay0] at l
    cases l
  | _, _, _, .ref ha, h, l => hg _ _ _ (by simpa only [D.mapRef] using h) ha l
theorem Reps.dp (g : Nat → Option D) (hg : ∀ (n : Nat) (t : D) (a : Addr), g n = some t → ad[n]? = some a → t.py.canLay0 = true → Dp K H (.ref a) t.py) (sub : ∀ a o, F a = some o → H a = some o) : ∀ {ds : List D} {vs : List V} {ts : List D}, Reps K F ad vs ds → mapRefs g ds = some ts → PyData.canLayAll0 (pys ts) = true → DpAll K H vs (pys ts)
  | [], _, _, .nil, h, _ => by simp only [mapRefs, Option.some.injEq] at h; subst h; exact .nil
  | d :: ds, _, ts, .cons h1 h2, h, l => by
    simp only [mapRefs] at h
    cases e1 : d.mapRef g with
    | none => rw [e1] at h; cases h
    | some y =>
      cases e2 : mapRefs g ds with
      | none => rw [e1, e2] at h; cases h
      | some ys =>
        rw [e1, e2] at h
        simp only [Option.some.injEq] at h
        subst h
        have l' : y.py.canLay0 = true ∧ PyData.canLayAll0 (pys ys) = true := by simpa only [pys, PyData.canLayAll0, Bool.and_eq_true] using l
        exact .cons (Rep.dp g hg sub h1 e1 l'.1) (Reps.dp g hg sub h2 e2 l'.2)
end
theorem readN_dp (r : RelS K F ad st H) : ∀ (k n : Nat) (t : D) (a : Addr), readN k st n = some t → ad[n]? = some a → t.py.canLay0 = true → Dp K H (.ref a) t.py := by
  intro k
  induction k with
  | zero => intro n t a h; cases h
  | succ k ih =>
    intro n t a h ha hd
    simp only [readN] at h
    cases e : st[n]? with
    | none => rw [e] at h; cases h
    | some c =>
      rw [e] at h
      have hc := r.cell n c a e ha
      cases c with
      | lst xs =>
        simp only at h
        cases e2 : mapRefs (readN k st) xs with
        | none => rw [e2] at h; cases h
        | some ys =>
          rw [e2] at h
          simp only [Option.some.injEq] at h
          subst h
          obtain ⟨vs, h1, h2⟩ := hc
          exact .lst (SqL.of h1) (Reps.dp _ ih r.sub h2 e2 (by simpa only [D.py, PyData.canLay0] using hd))
      | dk ks vs => cases h
      | dt ks vs => cases h
      | dead => cases h
theorem frz_dp (r : RelS K F ad st H) {v : V} {d t : D} (h : Rep K F ad v d) (e : frz st d = some t) (s : t.shp = true) : Dp K H v t.py :=
  Rep.dp _ (readN_dp r st.length) r.sub h e (SeqAt.canLay_of_shaped s)
/-- a list or a tuple read at a value -/
theorem seqOf_rep (r : RelS K F ad st H) {v : V} {d : D} {ds : List D} (h : Rep K F ad v d) (e : seqOf st d = some ds) : ∃ a vs, v = .ref a ∧ (SqL K H a vs ∨ SqT K H a vs) ∧ Reps K F ad vs ds := by
  cases h with
  | list hs hr => simp only [seqOf, Option.some.injEq] at e; subst e; exact ⟨_, _, rfl, .inl (SqL.of (r.sub _ _ hs)), hr⟩
  | scr hs => simp only [seqOf, Option.some.injEq] at e; subst e; exact ⟨_, _, rfl, .inl (sqlUp r.sub hs), reps_ints _⟩
  | tup hs hr => simp only [seqOf, Option.some.injEq] at e; subst e; exact ⟨_, _, rfl, .inr (sqtUp r.sub hs), hr⟩
  | ref ha =>
    simp only [seqOf] at e
    split at e
    · rename_i xs hx
      cases e
      obtain ⟨vs, h1, h2⟩ := r.cell _ _ _ hx ha
      exact ⟨_, _, rfl, .inl (SqL.of h1), h2⟩
    · cases e
  | _ => simp only [seqOf] at e; cases e
theorem listOf_rep (r : RelS K F ad st H) {v : V} {d : D} {ds : List D} (h : Rep K F ad v d) (e : listOf st d = some ds) : ∃ a vs, v = .ref a ∧ H a = some (.lst vs) ∧ Reps K F ad vs ds := by
  cases h with
  | list hs hr => simp only [listOf, Option.some.injEq] at e; subst e; exact ⟨_, _, rfl, r.sub _ _ hs, hr⟩
  | ref ha =>
    simp only [listOf] at e
    split at e
    · rename_i xs hx
      cases e
      obtain ⟨vs, h1, h2⟩ := r.cell _ _ _ hx ha
      exact ⟨_, _, rfl, h1, h2⟩
    · cases e
  | _ => simp only [listOf] at e; cases e
end
end MP

/-! The operations by values. -/
namespace MP
open PySem PySem.Spec PyProof.Rows L2

def RepX (K : PySem.W.Frag) (H0 F : Hp) (ad : List Addr) (H : Hp) (v : V) : Val → Prop
  | .v d => Rep K F ad v d
  | .new ds => ∃ p vs, v = .ref p ∧ H0 p = none ∧ H p = some (.lst vs) ∧ F p = none ∧ p ∉ ad ∧ Reps K F ad vs ds
/-- what is wanted behind an expression; cls: where the classes of errors stand; ew: what is wanted of an error -/
def OkV (K : PySem.W.Frag) (cls : Str → Option Addr) (ew : XK) (F : Hp) (ad : List Addr) (H : Hp) (r : R Val) (Q : VK) : Prop := match r with
  | .ok x st' => ∀ F' ad' H' v, Step F ad H F' ad' H' → RelS K F' ad' st' H' → RepX K H F' ad' H' v x → Q v H'
  | .err c st' => ∀ F' ad' H' a, Step F ad H F' ad' H' → RelS K F' ad' st' H' → cls c = some a → ew (.ref a) none H'
  | .stuck => False
section
variable {K : PySem.W.Frag} {cls : Str → Option Addr} {ew : XK} {F F1 : Hp} {ad ad1 : List Addr} {H H1 : Hp} {st st1 : Sto} {Q : VK}
theorem RepX.back {H0 : Hp} (dom : ∀ a, H a = none → H0 a = none) {v : V} {x : Val} {H' : Hp} (h : RepX K H F ad H' v x) : RepX K H0 F ad H' v x := by
  cases x with
  | v d => exact h
  | new ds =>
    obtain ⟨p, vs, h1, h2, h3⟩ := h
    exact ⟨p, vs, h1, dom _ h2, h3⟩
theorem OkV.step (s : Step F ad H F1 ad1 H1) {r : R Val} (h : OkV K cls ew F ad H r Q) : OkV K cls ew F1 ad1 H1 r Q := by
  cases r with
  | ok x st' => exact fun F' ad' H' v s' r' x' => h F' ad' H' v (s.trans s') r' (x'.back s.dom)
  | err c st' => exact fun F' ad' H' a s' r' e => h F' ad' H' a (s.trans s') r' e
  | stuck => exact h
/-- a list that was made just now is never changed -/
theorem freezeX {H0 F0 : Hp} {ad0 : List Addr} {v : V} {x : Val} (s : Step F0 ad0 H0 F ad H) (r : RelS K F ad st H) (h : RepX K H0 F ad H v x) : ∃ F', Step F0 ad0 H0 F' ad H ∧ RelS K F' ad st H ∧ Rep K F' ad v x.d := by
  cases x with
  | v d => exact ⟨F, s, r, h⟩
  | new ds =>
    obtain ⟨p, vs, rfl, h0, hp, hf, ha, hr⟩ := h
    exact ⟨upd F p (.lst vs), s.frozen hf h0, r.frozen hp hf ha, .list upd_same (hr.up (up_frozen hf) fun _ _ h => h)⟩
/-- .. or a cell -/
theorem cellX {H0 F0 : Hp} {ad0 : List Addr} {v : V} {ds : List D} (s : Step F0 ad0 H0 F ad H) (r : RelS K F ad st H) (h : RepX K H0 F ad H v (.new ds)) :
    ∃ p, Step F0 ad0 H0 F (ad ++ [p]) H ∧ RelS K F (ad ++ [p]) (st ++ [.lst ds]) H ∧ Rep K F (ad ++ [p]) v (.ref st.length) := by
  obtain ⟨p, vs, rfl, h0, hp, hf, ha, hr⟩ := h
  refine ⟨p, s.celled h0, r.celled (by rw [hp]; simp) hf ha ⟨vs, hp, hr.up (fun _ _ h => h) pa_app⟩, .ref ?_⟩
  rw [← r.len]; simp
/-- a value, nothing else changed -/
theorem OkV.val {d : D} {v : V} (h : OkV K cls ew F ad H (.ok (.v d) st) Q) (r : RelS K F ad st H) (q : Rep K F ad v d) : Q v H := h F ad H v (Step.refl F ad H) r q
/-- a new tuple -/
theorem OkV.tuple {ds : List D} {vs : List V} (h : OkV K cls ew F ad H (.ok (.v (.tup ds)) st) Q) (r : RelS K F ad st H) (q : Reps K F ad vs ds) {p : Addr} (hp : H p = none) : Q (.ref p) (upd H p (.tup vs)) := by
  have hf : F p = none := by
    cases e : F p with
    | none => rfl
    | some o => rw [r.sub p o e] at hp; cases hp
  have ha : p ∉ ad := fun hm => r.live p hm hp
  have s1 : Step F ad H F ad (upd H p (.tup vs)) := Step.beside hp
  exact h _ _ _ _ (s1.frozen (p := p) (o := .tup vs) hf hp) ((r.beside hp).frozen upd_same hf ha) (.tup (.inl (.inl upd_same)) (q.up (up_frozen hf) fun _ _ h => h))
/-- a new list -/
theorem OkV.list {ds : List D} {vs : List V} (h : OkV K cls ew F ad H (.ok (.new ds) st) Q) (r : RelS K F ad st H) (q : Reps K F ad vs ds) {p : Addr} (hp : H p = none) : Q (.ref p) (upd H p (.lst vs)) := by
  have hf : F p = none := by
    cases e : F p with
    | none => rfl
    | some o => rw [r.sub p o e] at hp; cases hp
  have ha : p ∉ ad := fun hm => r.live p hm hp
  exact h _ _ _ _ (Step.beside hp) (r.beside hp) ⟨p, vs, rfl, hp, upd_same, hf, ha, q⟩
/-- a cell written -/
theorem OkV.wrote {n : Nat} {a : Addr} {o : HO} {c : Cell} {d : D} {v : V} (h : OkV K cls ew F ad H (.ok (.v d) (st.set n c)) Q) (r : RelS K F ad st H) (ha : ad[n]? = some a) (hc : CellAt K F ad (upd H a o) a c) (q : Rep K F ad v d) : Q v (upd H a o) :=
  h _ _ _ _ (Step.write ha) (r.write ha hc) q
end

theorem flatRep {K : PySem.W.Frag} {F : Hp} {ad : List Addr} {v : V} {d : D} (h : Rep K F ad v d) (f : flatD d = true) : flatV v = true := by
  cases h <;> first | rfl | (simp only [flatD] at f; cases f)
theorem eqRep {K : PySem.W.Frag} {F : Hp} {ad : List Addr} {v w : V} {d e : D} (h : Rep K F ad v d) (h' : Rep K F ad w e) (f : flatD d = true) (f' : flatD e = true) : eqV v w = eqD d e := by
  cases h <;> cases h' <;> first | rfl | (simp only [flatD] at f; cases f) | (simp only [flatD] at f'; cases f') | (simp only [eqV, eqD, D.py, PyData.eqv])
theorem flatReps {K : PySem.W.Frag} {F : Hp} {ad : List Addr} : ∀ {vs : List V} {ds : List D}, Reps K F ad vs ds → ds.all flatD = true → vs.all flatV = true
  | _, _, .nil, _ => rfl
  | _, _, .cons h r, f => by
    rw [List.all_cons, Bool.and_eq_true] at f
    rw [List.all_cons, flatRep h f.1, flatReps r f.2]; rfl
theorem inRep {K : PySem.W.Frag} {F : Hp} {ad : List Addr} {v : V} {d : D} (h : Rep K F ad v d) (f : flatD d = true) : ∀ {vs : List V} {ds : List D}, Reps K F ad vs ds → ds.all flatD = true → inV v vs = ds.any fun z => eqD z d
  | _, _, .nil, _ => rfl
  | _, _, .cons h' r, f' => by
    rw [List.all_cons, Bool.and_eq_true] at f'
    have ih := inRep h f r f'.2
    unfold inV at ih ⊢
    rw [List.any_cons, List.any_cons, ih, eqRep h' h f'.1 f]

section
variable {X : Cx} {cls : Str → Option Addr} {ew : XK}
/-- two values under an operator -/
def rBin (K : PySem.W.Frag) (cls : Str → Option Addr) (ew : XK) (f : D → D → Sto → R Val) : R2 := fun x y H Q => ∃ F ad st dx dy, RelS K F ad st H ∧ Rep K F ad x dx ∧ Rep K F ad y dy ∧ OkV K cls ew F ad H (f dx dy st) Q
def bopOf : BOp → Operator
  | .add => .Add
  | .sub => .Sub
  | .mul => .Mult
  | .fdiv => .FloorDiv
  | .mod => .Mod
  | .pow => .Pow


theorem OpR.imp {f : Value → Value → Sem Value} {r r' : R2} (h : OpR X f r) (i : ∀ x y H Q, r' x y H Q → r x y H Q) : OpR X f r' :=
  fun pins s σ H x y v u Q I rx ry q => h pins s σ H x y v u Q I rx ry (i x y H Q q)
theorem intV_ok {x y : D} {f : Int → Int → R Val} {F : Hp} {ad : List Addr} {H : Hp} {Q : VK} {v w : V} (ok : OkV X.K cls ew F ad H (intV x y f) Q) (hx : Rep X.K F ad v x) (hy : Rep X.K F ad w y) :
    ∃ i j, v = .int i ∧ w = .int j ∧ OkV X.K cls ew F ad H (f i j) Q := by
  unfold intV at ok
  split at ok
  · cases hx; cases hy
    exact ⟨_, _, rfl, rfl, ok⟩
  · exact ok.elim
theorem op_bin (o : BOp) : OpR X (binaryOp (bopOf o)) (rBin X.K cls ew (binV o)) := by
  intro pins s σ H x y v u Q I rx ry ⟨F, ad, st, dx, dy, r, hx, hy, ok⟩
  cases o with
  | add =>
    have ok : OkV X.K cls ew F ad H (addV dx dy st) Q := ok
    unfold addV at ok
    split at ok
    · cases hx; cases hy
      exact op_add pins s σ H _ _ v u Q I rx ry ⟨_, _, rfl, rfl, ok.val r (.int _)⟩
    · cases hx; cases hy
      split at ok
      · rename_i hz
        exact op_add_str pins s σ H _ _ v u Q I rx ry ⟨_, _, rfl, rfl, hz, ok.val r (.str _)⟩
      · exact ok.elim
    · cases hx with
      | tup h1 r1 =>
        cases hy with
        | tup h2 r2 =>
          split at ok
          · rename_i hz
            refine op_catT pins s σ H _ _ v u Q I rx ry ⟨_, _, _, _, rfl, rfl, sqtUp r.sub h1, sqtUp r.sub h2, ?_, ?_, ?_, ?_⟩
            · intro e
              subst e
              have := r1.length
              simp at this
              exact hz.1 this.symm
            · rw [r1.length, r2.length]; exact hz.2
            · intro e
              subst e
              cases r2
              rw [List.append_nil] at ok
              exact ok.val r (.tup h1 r1)
            · intro _ p hp
              exact ok.tuple r (r1.append r2) hp
          · exact ok.elim
    · split at ok
      · rename_i xs ys e1 e2
        obtain ⟨a, vs, rfl, ha, hr⟩ := listOf_rep r hx e1
        obtain ⟨b, ws, rfl, hb, hs⟩ := listOf_rep r hy e2
        split at ok
        · rename_i hz
          exact op_cat pins s σ H _ _ v u Q I rx ry ⟨_, _, _, _, rfl, rfl, ha, hb, by rw [hr.length, hs.length]; exact hz, fun p hp => ok.list r (hr.append hs) hp⟩
        · exact ok.elim
      · exact ok.elim
  | sub =>
    obtain ⟨i, j, rfl, rfl, ok⟩ := intV_ok ok hx hy
    exact op_sub pins s σ H _ _ v u Q I rx ry ⟨_, _, rfl, rfl, ok.val r (.int _)⟩
  | mul =>
    have ok : OkV X.K cls ew F ad H (mulV dx dy st) Q := ok
    unfold mulV at ok
    split at ok
    · cases hx; cases hy
      split at ok
      · rename_i hz
        exact op_mul pins s σ H _ _ v u Q I rx ry ⟨_, _, rfl, rfl, hz, ok.val r (.int _)⟩
      · exact ok.elim
    · split at ok
      · rename_i xs e1
        obtain ⟨a, vs, rfl, ha, hr⟩ := listOf_rep r hx e1
        cases hy
        split at ok
        · rename_i hz
          exact op_rep pins s σ H _ _ v u Q I rx ry ⟨_, _, _, rfl, rfl, ha, hz.1, hz.2.1, by rw [hr.length]; exact hz.2.2, fun p hp => ok.list r (hr.flat _) hp⟩
        · exact ok.elim
      · exact ok.elim
    · exact ok.elim
  | fdiv =>
    obtain ⟨i, j, rfl, rfl, ok⟩ := intV_ok ok hx hy
    by_cases hz : CDivN i j
    · rw [if_pos hz] at ok
      exact op_fdivN pins s σ H _ _ v u Q I rx ry ⟨_, _, rfl, rfl, hz, ok.val r (.int _)⟩
    · rw [if_neg hz] at ok; exact ok.elim
  | mod =>
    obtain ⟨i, j, rfl, rfl, ok⟩ := intV_ok ok hx hy
    by_cases hz : j ≠ 0
    · rw [if_pos hz] at ok
      exact op_modN pins s σ H _ _ v u Q I rx ry ⟨_, _, rfl, rfl, hz, ok.val r (.int _)⟩
    · rw [if_neg hz] at ok; exact ok.elim
  | pow =>
    obtain ⟨i, j, rfl, rfl, ok⟩ := intV_ok ok hx hy
    by_cases hz : CPow i j
    · rw [if_pos hz] at ok
      exact op_pow pins s σ H _ _ v u Q I rx ry ⟨_, _, rfl, rfl, hz, ok.val r (.int _)⟩
    · rw [if_neg hz] at ok; exact ok.elim

/-! ### comparisons -/
def rCmp (K : PySem.W.Frag) (o : COp) : R2 := fun x y H Q => ∃ F ad st dx dy, RelS K F ad st H ∧ Rep K F ad x dx ∧ Rep K F ad y dy ∧ ∃ c, cmpV o st dx dy = some c ∧ Q (.bl c) H
def copOf : COp → CmpOp
  | .eq => .Eq
  | .ne => .NotEq
  | .lt => .Lt
  | .le => .LtE
  | .gt => .Gt
  | .ge => .GtE
  | .isin => .In
  | .notin => .NotIn
  | .is => .Is
  | .isnot => .IsNot
theorem opt_map_not {o : Option Bool} {c : Bool} (h : o.map (!·) = some c) : ∃ b, o = some b ∧ c = !b := by
  cases o with
  | none => cases h
  | some b => exact ⟨b, rfl, by simpa using h.symm⟩
theorem RelV.beq_bool {x : V} {v : Value} (r : RelV x v) (c : Bool) : (v == Value.bool c) = decide (x = .bl c) := by
  cases x with
  | non => cases r; rfl
  | bl b => cases r; cases b <;> cases c <;> rfl
  | int _ => obtain ⟨t, rfl⟩ := r; rfl
  | str _ => obtain ⟨t, rfl⟩ := r; rfl
  | byt _ => obtain ⟨t, rfl⟩ := r; rfl
  | flt _ => obtain ⟨t, rfl⟩ := r; rfl
  | ref _ => cases r; rfl
  | ty _ => cases r; rfl
theorem plain_bool {x : V} {v : Value} (r : RelV x v) (c : Bool) : plainIs v (.bool c) = true := by
  cases x with
  | non => cases r; rfl
  | bl b => cases r; rfl
  | int _ => obtain ⟨t, rfl⟩ := r; rfl
  | str _ => obtain ⟨t, rfl⟩ := r; rfl
  | byt _ => obtain ⟨t, rfl⟩ := r; rfl
  | flt _ => obtain ⟨t, rfl⟩ := r; rfl
  | ref _ => cases r; rfl
  | ty _ => cases r; rfl
theorem op_isB : OpR X (compareOp .Is) (fun x y H Q => ∃ c, y = .bl c ∧ Q (.bl (decide (x = .bl c))) H) := by
  intro pins s σ H x y v u Q I rx ry ⟨c, e, q⟩
  subst e
  cases ry
  exact wpAny_is_plain (plain_bool rx c) (by rw [RelV.beq_bool rx c]; exact ⟨.bl _, H, I, rfl, q⟩)
theorem op_isnotB : OpR X (compareOp .IsNot) (fun x y H Q => ∃ c, y = .bl c ∧ Q (.bl (!decide (x = .bl c))) H) := by
  intro pins s σ H x y v u Q I rx ry ⟨c, e, q⟩
  subst e
  cases ry
  exact wpAny_isNot_plain (plain_bool rx c) (by rw [RelV.beq_bool rx c]; exact ⟨.bl _, H, I, rfl, q⟩)
theorem isD_rep {K : PySem.W.Frag} {F : Hp} {ad : List Addr} {v w : V} {d e : D} {b : Bool} (h : Rep K F ad v d) (h' : Rep K F ad w e) (q : isD d e = some b) :
    (w = .non ∧ b = decide (v = .non)) ∨ ∃ c, w = .bl c ∧ b = decide (v = .bl c) := by
  cases h' with
  | none =>
    refine .inl ⟨rfl, ?_⟩
    simp only [isD, Option.some.injEq] at q
    rw [← q]
    cases h <;> simp
  | bool c =>
    refine .inr ⟨c, rfl, ?_⟩
    simp only [isD, Option.some.injEq] at q
    rw [← q]
    cases h with
    | bool b' => cases b' <;> cases c <;> rfl
    | _ => simp
  | _ => simp only [isD] at q; cases q
/-- x in y -/
theorem in_ok (hu : X.A.units + 65 < cLine) {pins : List (Addr × Obj)} {s : Shared} {σ : L2.St} {H : Hp} {x y : V} {v u : Value} {F : Hp} {ad : List Addr} {st : Sto} {dx dy : D} {c : Bool}
    (I : L2.Inv X pins σ H s) (rx : L2.RelV x v) (ry : L2.RelV y u) (r : RelS X.K F ad st H) (hx : Rep X.K F ad x dx) (hy : Rep X.K F ad y dy) (e : inD st dx dy = some c) :
    (∀ Q : VK, Q (.bl c) H → wpAny (model X.prog X.w) X.A (compareOp .In v u) (EP X pins σ Q) X.xe s) ∧ (∀ Q : VK, Q (.bl (!c)) H → wpAny (model X.prog X.w) X.A (compareOp .NotIn v u) (EP X pins σ Q) X.xe s) := by
  have deep : ∀ {d : D} {ds : List D}, frz st dx = some d → frz st dy = some (.list ds) → (d.shp && (D.list ds).shp) = true → c = (ds.any fun z => eqD z d) →
      (∀ Q : VK, Q (.bl c) H → wpAny (model X.prog X.w) X.A (compareOp .In v u) (EP X pins σ Q) X.xe s) ∧ (∀ Q : VK, Q (.bl (!c)) H → wpAny (model X.prog X.w) X.A (compareOp .NotIn v u) (EP X pins σ Q) X.xe s) := by
    intro d ds e1 e2 e3 e4
    rw [Bool.and_eq_true] at e3
    have d1 := frz_dp r hx e1 e3.1
    have d2 : Dp X.K H y (.list (pys ds)) := by simpa only [D.py] using frz_dp r hy e2 e3.2
    have sh : SeqAt.shaped (.list (pys ds)) = true := by simpa only [D.shp, D.py] using e3.2
    have ec : ((pys ds).any fun z => PyData.eqv z d.py) = c := by
      rw [e4]
      clear e1 e2 e3 e4 d1 d2 sh
      induction ds with
      | nil => rfl
      | cons a l ih => simp only [pys, List.any_cons, ih, eqD]
    exact ⟨fun Q q => op_inD hu pins s σ H x y v u Q I rx ry ⟨_, _, d1, d2, e3.1, sh, by rw [ec]; exact q⟩, fun Q q => op_notInD hu pins s σ H x y v u Q I rx ry ⟨_, _, d1, d2, e3.1, sh, by rw [ec]; exact q⟩⟩
  unfold inD at e
  split at e
  · split at e
    · cases hx; cases hy
      cases e
      exact ⟨fun Q q => op_in_str pins s σ H _ _ v u Q I rx ry ⟨_, _, rfl, rfl, q⟩, fun Q q => op_notin_str pins s σ H _ _ v u Q I rx ry ⟨_, _, rfl, rfl, q⟩⟩
    · cases e
  · split at e
    · rename_i ys hf
      cases e
      rw [Bool.and_eq_true] at hf
      cases hy with
      | tup hs hr =>
        have ei := inRep hx hf.1 hr hf.2
        exact ⟨fun Q q => op_in_seq pins s σ H _ _ v u Q I rx ry ⟨_, _, rfl, .inr (sqtUp r.sub hs), flatRep hx hf.1, flatReps hr hf.2, by
            rw [if_neg Bool.false_ne_true, ei]; exact q⟩,
          fun Q q => op_notIn_seq pins s σ H _ _ v u Q I rx ry ⟨_, _, rfl, .inr (sqtUp r.sub hs), flatRep hx hf.1, flatReps hr hf.2, by
            rw [if_pos rfl, ei]; exact q⟩⟩
    · cases e
  · split at e
    · split at e
      · rename_i e1 e2
        split at e
        · rename_i e3
          cases e
          exact deep e1 e2 e3 rfl
        · cases e
      · cases e
    · cases e
  · split at e
    · rename_i e1 e2
      split at e
      · rename_i e3
        cases e
        exact deep e1 e2 e3 rfl
      · cases e
    · cases e
  · cases e
theorem op_cmp (hu : X.A.units + 65 < cLine) (o : COp) : OpR X (compareOp (copOf o)) (rCmp X.K o) := by
  intro pins s σ H x y v u Q I rx ry ⟨F, ad, st, dx, dy, r, hx, hy, c, e, q⟩
  cases o with
  | eq =>
    simp only [cmpV] at e
    split at e
    · rename_i a b e1 e2
      split at e
      · rename_i e3
        rw [Bool.and_eq_true] at e3
        cases e
        exact op_eqD (by omega) pins s σ H x y v u Q I rx ry ⟨_, _, frz_dp r hx e1 e3.1, frz_dp r hy e2 e3.2, e3.1, e3.2, q⟩
      · cases e
    · cases e
  | ne =>
    simp only [cmpV] at e
    split at e
    · rename_i a b e1 e2
      split at e
      · rename_i e3
        rw [Bool.and_eq_true] at e3
        cases e
        exact op_neD (by omega) pins s σ H x y v u Q I rx ry ⟨_, _, frz_dp r hx e1 e3.1, frz_dp r hy e2 e3.2, e3.1, e3.2, q⟩
      · cases e
    · cases e
  | lt =>
    simp only [cmpV] at e
    split at e
    · cases hx; cases hy; cases e
      exact op_lt pins s σ H _ _ v u Q I rx ry ⟨_, _, rfl, rfl, q⟩
    · cases hx; cases hy; cases e
      exact op_lt_str pins s σ H _ _ v u Q I rx ry ⟨_, _, rfl, rfl, q⟩
    · cases e
  | le =>
    simp only [cmpV] at e
    split at e
    · cases hx; cases hy; cases e
      exact op_le pins s σ H _ _ v u Q I rx ry ⟨_, _, rfl, rfl, q⟩
    · cases e
  | gt =>
    simp only [cmpV] at e
    split at e
    · cases hx; cases hy; cases e
      exact op_gt pins s σ H _ _ v u Q I rx ry ⟨_, _, rfl, rfl, q⟩
    · cases e
  | ge =>
    simp only [cmpV] at e
    split at e
    · cases hx; cases hy; cases e
      exact op_ge pins s σ H _ _ v u Q I rx ry ⟨_, _, rfl, rfl, q⟩
    · cases hx; cases hy; cases e
      obtain ⟨t, rfl⟩ := rx
      obtain ⟨t', rfl⟩ := ry
      exact PySem.P.ge_str (fin_bl I q rfl)
    · cases e
  | isin =>
    exact (in_ok hu I rx ry r hx hy e).1 Q q
  | notin =>
    obtain ⟨b, e1, rfl⟩ := opt_map_not e
    exact (in_ok hu I rx ry r hx hy e1).2 Q q
  | is =>
    rcases isD_rep hx hy e with ⟨rfl, rfl⟩ | ⟨b, rfl, rfl⟩
    · exact op_isN pins s σ H _ _ v u Q I rx ry ⟨rfl, q⟩
    · exact op_isB pins s σ H _ _ v u Q I rx ry ⟨b, rfl, q⟩
  | isnot =>
    obtain ⟨c', e1, rfl⟩ := opt_map_not e
    rcases isD_rep hx hy e1 with ⟨rfl, rfl⟩ | ⟨b, rfl, rfl⟩
    · exact op_notN pins s σ H _ _ v u Q I rx ry ⟨rfl, q⟩
    · exact op_isnotB pins s σ H _ _ v u Q I rx ry ⟨b, rfl, q⟩

/-! ### subscripts -/
def rIxD (K : PySem.W.Frag) : R2 := fun x y H Q => ∃ F ad st dx dy d, RelS K F ad st H ∧ Rep K F ad x dx ∧ Rep K F ad y dy ∧ ixV st dx dy = some d ∧ ∀ v, Rep K F ad v d → Q v H
theorem atI_rep {K : PySem.W.Frag} {F : Hp} {ad : List Addr} {vs : List V} {ds : List D} {i : Int} {d : D} (h : Reps K F ad vs ds) (e : atI ds i = some d) : ∃ v, atI vs i = some v ∧ Rep K F ad v d := by
  unfold atI at e ⊢
  rw [h.length]
  cases q : ixN ds.length i with
  | none => rw [q] at e; cases e
  | some j =>
    rw [q] at e
    obtain ⟨v, h1, h2⟩ := h.get (i := j) (d := d) e
    exact ⟨v, h1, h2⟩
theorem ix_D : IxR X (rIxD X.K) := by
  intro value slice pins s σ H x y v u Q I rx ry ⟨F, ad, st, dx, dy, d, r, hx, hy, e, q⟩ hs
  unfold ixV at e
  split at e
  · cases hy
    split at e
    · cases hx
      split at e
      · rename_i hz
        obtain ⟨c, e1, e2⟩ := Option.map_eq_some_iff.mp e
        subst e2
        exact ix_str value slice pins s σ H _ _ v u Q I rx ry ⟨_, _, _, rfl, rfl, hz, e1, q _ (.str _)⟩ hs
      · cases e
    · split at e
      · rename_i xs hq
        obtain ⟨a, vs, rfl, ha, hr⟩ := seqOf_rep r hx hq
        obtain ⟨w, h1, h2⟩ := atI_rep hr e
        rcases ha with ha | ha
        · exact ix_list value slice pins s σ H _ _ v u Q I rx ry ⟨_, _, _, _, rfl, rfl, ha, h1, q _ h2⟩ hs
        · exact ix_tup value slice pins s σ H _ _ v u Q I rx ry ⟨_, _, _, _, rfl, rfl, ha, h1, q _ h2⟩ hs
      · cases e
  · cases e

/-! ### slices -/
def rSlD (K : PySem.W.Frag) (cls : Str → Option Addr) (ew : XK) : V → Option Int → Option Int → Hp → VK → Prop := fun x lo hi H Q => ∃ F ad st dx, RelS K F ad st H ∧ Rep K F ad x dx ∧ OkV K cls ew F ad H (slV dx lo hi st) Q
theorem cutA_len {α β : Type} {xs : List α} {ys : List β} (h : xs.length = ys.length) (lo hi : Option Int) : (HT.sIx xs.length 0 lo = HT.sIx ys.length 0 lo) ∧ HT.sIx xs.length xs.length hi = HT.sIx ys.length ys.length hi := by rw [h]; exact ⟨rfl, rfl⟩
theorem cut_rep {K : PySem.W.Frag} {F : Hp} {ad : List Addr} {vs : List V} {ds : List D} (h : Reps K F ad vs ds) (lo hi : Option Int) : Reps K F ad (cutV vs lo hi) (cutA ds lo hi) := by
  unfold cutV cutA
  rw [h.length]
  exact (h.drop _).take _
theorem sl_D : SlR X (rSlD X.K cls ew) := by
  intro pins s σ H x v vl vu lo hi sl Q I rx hs pl pu ⟨F, ad, st, dx, r, hx, ok⟩
  unfold slV at ok
  split at ok
  · cases hx
    split at ok
    · rename_i hz
      exact sl_str pins s σ H _ v vl vu lo hi sl Q I rx hs pl pu ⟨_, rfl, hz, ok.val r (.str _)⟩
    · exact ok.elim
  · cases hx with
    | tup h1 r1 =>
      split at ok
      · exact ok.elim
      · rename_i hw
        exact sl_tup pins s σ H _ v vl vu lo hi sl Q I rx hs pl pu ⟨_, _, rfl, sqtUp r.sub h1, by rw [r1.length]; exact hw, fun p hp => ok.tuple r (cut_rep r1 lo hi) hp⟩
  · split at ok
    · rename_i xs e
      obtain ⟨a, vs, rfl, ha, hr⟩ := listOf_rep r hx e
      exact sl_list pins s σ H _ v vl vu lo hi sl Q I rx hs pl pu ⟨_, _, rfl, SqL.of ha, fun p hp => ok.list r (cut_rep hr lo hi) hp⟩
    · exact ok.elim
end
end MP

/-! The built-in functions and methods by values. -/
namespace MP
open PySem PySem.Spec PyProof.Rows L2
section
variable {X : Cx} {cls : Str → Option Addr} {ew : XK}
def rBi (K : PySem.W.Frag) (cls : Str → Option Addr) (ew : XK) (f : List D → Sto → R Val) : List V → Hp → VK → Prop := fun vs H Q => ∃ F ad st ds, RelS K F ad st H ∧ Reps K F ad vs ds ∧ OkV K cls ew F ad H (f ds st) Q
theorem Rep.one {K : PySem.W.Frag} {F : Hp} {ad : List Addr} {v : V} {d : D} (h : Rep K F ad v d) : Reps K F ad [v] [d] := .cons h .nil
theorem Reps.one_of {K : PySem.W.Frag} {F : Hp} {ad : List Addr} {vs : List V} {d : D} (h : Reps K F ad vs [d]) : ∃ v, vs = [v] ∧ Rep K F ad v d := by
  cases h with
  | cons h r => cases r; exact ⟨_, rfl, h⟩
theorem Reps.two_of {K : PySem.W.Frag} {F : Hp} {ad : List Addr} {vs : List V} {d e : D} (h : Reps K F ad vs [d, e]) : ∃ v w, vs = [v, w] ∧ Rep K F ad v d ∧ Rep K F ad w e := by
  cases h with
  | cons h r =>
    obtain ⟨w, rfl, h2⟩ := Reps.one_of r
    exact ⟨_, _, rfl, h, h2⟩
theorem Reps.nil_of {K : PySem.W.Frag} {F : Hp} {ad : List Addr} {vs : List V} (h : Reps K F ad vs []) : vs = [] := by
  cases h; rfl

theorem one_ok {ds : List D} {f : D → R Val} {F : Hp} {ad : List Addr} {H : Hp} {Q : VK} {vs : List V} (ok : OkV X.K cls ew F ad H (one ds f) Q) (h : Reps X.K F ad vs ds) : ∃ v d, vs = [v] ∧ Rep X.K F ad v d ∧ OkV X.K cls ew F ad H (f d) Q := by
  unfold one at ok
  split at ok
  · obtain ⟨v, rfl, hx⟩ := Reps.one_of h
    exact ⟨v, _, rfl, hx, ok⟩
  · exact ok.elim
theorem two_ok {ds : List D} {f : D → D → R Val} {F : Hp} {ad : List Addr} {H : Hp} {Q : VK} {vs : List V} (ok : OkV X.K cls ew F ad H (two ds f) Q) (h : Reps X.K F ad vs ds) : ∃ v w d e, vs = [v, w] ∧ Rep X.K F ad v d ∧ Rep X.K F ad w e ∧ OkV X.K cls ew F ad H (f d e) Q := by
  unfold two at ok
  split at ok
  · obtain ⟨v, w, rfl, hx, hy⟩ := Reps.two_of h
    exact ⟨v, w, _, _, rfl, hx, hy, ok⟩
  · exact ok.elim
theorem zero_ok {ds : List D} {r : R Val} {F : Hp} {ad : List Addr} {H : Hp} {Q : VK} {vs : List V} (ok : OkV X.K cls ew F ad H (zero ds r) Q) (h : Reps X.K F ad vs ds) : vs = [] ∧ OkV X.K cls ew F ad H r Q := by
  unfold zero at ok
  split at ok
  · exact ⟨Reps.nil_of h, ok⟩
  · exact ok.elim
theorem onInts_ok {x : D} {st : Sto} {f : List Int → R Val} {F : Hp} {ad : List Addr} {H : Hp} {Q : VK} {v : V} (ok : OkV X.K cls ew F ad H (onInts x st f) Q) (r : RelS X.K F ad st H) (h : Rep X.K F ad v x) : ∃ a ns, v = .ref a ∧ H a = some (.lst (ns.map V.int)) ∧ OkV X.K cls ew F ad H (f ns) Q := by
  unfold onInts at ok
  split at ok
  · rename_i xs e
    obtain ⟨a, vs, rfl, ha, hr⟩ := listOf_rep r h e
    split at ok
    · rename_i ns en
      rw [intsOf_eq en] at hr
      have := hr.ints
      subst this
      exact ⟨a, ns, rfl, ha, ok⟩
    · exact ok.elim
  · exact ok.elim
theorem onBools_ok {x : D} {st : Sto} {f : List Bool → R Val} {F : Hp} {ad : List Addr} {H : Hp} {Q : VK} {v : V} (ok : OkV X.K cls ew F ad H (onBools x st f) Q) (r : RelS X.K F ad st H) (h : Rep X.K F ad v x) : ∃ a ns, v = .ref a ∧ H a = some (.lst (ns.map V.bl)) ∧ OkV X.K cls ew F ad H (f ns) Q := by
  unfold onBools at ok
  split at ok
  · rename_i xs e
    obtain ⟨a, vs, rfl, ha, hr⟩ := listOf_rep r h e
    split at ok
    · rename_i ns en
      rw [boolsOf_eq en] at hr
      have := hr.bools
      subst this
      exact ⟨a, ns, rfl, ha, ok⟩
    · exact ok.elim
  · exact ok.elim
theorem ite_ok {c : Prop} [Decidable c] {r : R Val} {F : Hp} {ad : List Addr} {H : Hp} {Q : VK} (ok : OkV X.K cls ew F ad H (if c then r else .stuck) Q) : c ∧ OkV X.K cls ew F ad H r Q := by
  by_cases h : c
  · rw [if_pos h] at ok; exact ⟨h, ok⟩
  · rw [if_neg h] at ok; exact ok.elim
theorem cr_lenD : CallR X (.builtin "len") (rBi X.K cls ew (biV .len)) := by
  intro pins s σ H vs us Q I rv ⟨F, ad, st, ds, r, hr, ok⟩
  obtain ⟨v, d, rfl, hx, ok⟩ := one_ok ok hr
  unfold lenV at ok
  split at ok
  · cases hx
    obtain ⟨hz, ok⟩ := ite_ok ok
    exact call_len pins s σ H _ us Q I rv ⟨_, _, rfl, ⟨hz, rfl⟩, ok.val r (.int _)⟩
  · split at ok
    · rename_i xs e
      obtain ⟨a, vs, rfl, ha, hr⟩ := seqOf_rep r hx e
      refine call_len pins s σ H _ us Q I rv ⟨_, vs.length, rfl, ?_, by rw [hr.length]; exact ok.val r (.int _)⟩
      rcases ha with ha | ha
      · exact .inl ⟨_, ha, rfl⟩
      · exact .inr ⟨_, ha, rfl⟩
    · exact ok.elim
theorem cr_sumD (hc : X.calm = true) : CallR X (.builtin "sum") (rBi X.K cls ew (biV .sum)) := by
  intro pins s σ H vs us Q I rv ⟨F, ad, st, ds, r, hr, ok⟩
  obtain ⟨v, d, rfl, hx, ok⟩ := one_ok ok hr
  obtain ⟨a, ns, rfl, ha, ok⟩ := onInts_ok ok r hx
  exact cr_sum hc pins s σ H _ us Q I rv ⟨_, _, rfl, SqL.of ha, ok.val r (.int _)⟩
theorem cr_anyD (hc : X.calm = true) : CallR X (.builtin "any") (rBi X.K cls ew (biV .any)) := by
  intro pins s σ H vs us Q I rv ⟨F, ad, st, ds, r, hr, ok⟩
  obtain ⟨v, d, rfl, hx, ok⟩ := one_ok ok hr
  obtain ⟨a, ns, rfl, ha, ok⟩ := onBools_ok ok r hx
  exact cr_any hc pins s σ H _ us Q I rv ⟨_, _, rfl, SqL.of ha, ok.val r (.bool _)⟩
theorem cr_allD (hc : X.calm = true) : CallR X (.builtin "all") (rBi X.K cls ew (biV .all)) := by
  intro pins s σ H vs us Q I rv ⟨F, ad, st, ds, r, hr, ok⟩
  obtain ⟨v, d, rfl, hx, ok⟩ := one_ok ok hr
  obtain ⟨a, ns, rfl, ha, ok⟩ := onBools_ok ok r hx
  exact cr_all hc pins s σ H _ us Q I rv ⟨_, _, rfl, SqL.of ha, ok.val r (.bool _)⟩
theorem sortI_of {ns ns' : List Int} (h : ns'.Perm ns) (h2 : ns'.Pairwise (· ≤ ·)) : ns' = sortI ns := by
  refine List.Perm.eq_of_pairwise (le := fun a b : Int => a ≤ b) (fun a b _ _ h1 h2 => Int.le_antisymm h1 h2) h2 ?_ (h.trans (List.mergeSort_perm ns _).symm)
  have := List.pairwise_mergeSort (le := fun a b : Int => decide (a ≤ b)) (fun a b c h1 h2 => by simp at *; omega) (fun a b => by simp; omega) ns
  unfold sortI
  exact this.imp fun h => by simpa using h
theorem cr_sortedD : CallR X (.builtin "sorted") (rBi X.K cls ew (biV .sorted)) := by
  intro pins s σ H vs us Q I rv ⟨F, ad, st, ds, r, hr, ok⟩
  obtain ⟨v, d, rfl, hx, ok⟩ := one_ok ok hr
  obtain ⟨a, ns, rfl, ha, ok⟩ := onInts_ok ok r hx
  obtain ⟨hz, ok⟩ := ite_ok ok
  exact cr_sorted pins s σ H _ us Q I rv ⟨_, _, rfl, SqL.of ha, hz, fun ns' p h1 h2 hp => by
    rw [sortI_of h1 h2]
    exact ok.list r (reps_ints _) hp⟩
theorem cr_toIntD : CallR X (.type "int") (rBi X.K cls ew (biV .toInt)) := by
  intro pins s σ H vs us Q I rv ⟨F, ad, st, ds, r, hr, ok⟩
  obtain ⟨v, d, rfl, hx, ok⟩ := one_ok ok hr
  unfold toIntV at ok
  split at ok
  · cases hx
    exact call_int1 pins s σ H _ us Q I rv (.inl ⟨_, rfl, ok.val r (.int _)⟩)
  · cases hx
    exact call_int1 pins s σ H _ us Q I rv (.inr ⟨_, rfl, ok.val r (.int _)⟩)
  · exact ok.elim
theorem cr_tupleD : CallR X (.type "tuple") (rBi X.K cls ew (biV .tupleOf)) := by
  intro pins s σ H vs us Q I rv ⟨F, ad, st, ds, r, hr, ok⟩
  obtain ⟨v, d, rfl, hx, ok⟩ := one_ok ok hr
  unfold tupV at ok
  split at ok
  · cases hx with
    | tup h1 r1 => exact call_tuple_of pins s σ H _ us Q I rv ⟨_, _, rfl, .inr ⟨sqtUp r.sub h1, ok.val r (.tup h1 r1)⟩⟩
  · split at ok
    · rename_i xs e
      obtain ⟨a, vs, rfl, ha, hr⟩ := listOf_rep r hx e
      exact call_tuple_of pins s σ H _ us Q I rv ⟨_, _, rfl, .inl ⟨SqL.of ha, fun p hp => ok.tuple r hr hp⟩⟩
    · exact ok.elim
theorem itemsOf_vals {P : Nat → Value → Prop} {g : Nat → V} (hg : ∀ i v, P i v → RelV (g i) v) {acc : Array Value} {n : Nat} (h : ItemsOf P acc n) : Vals ((List.range n).map g) acc.toList := by
  obtain ⟨h1, h2⟩ := h
  have key : ∀ (m : Nat) (l : List Value) (k : Nat), l.length = m → (∀ (j : Nat) (v : Value), l[j]? = some v → P (k + j) v) → Vals ((List.range' k m).map g) l := by
    intro m
    induction m with
    | zero =>
      intro l k hl _
      have : l = [] := List.length_eq_zero_iff.mp hl
      subst this
      exact .nil
    | succ m ih =>
      intro l k hl hp
      cases l with
      | nil => simp at hl
      | cons x r =>
        rw [List.range'_succ, List.map_cons]
        refine .cons (hg k x ?_) (ih r (k + 1) (by simpa using hl) fun j v hj => ?_)
        · have := hp 0 x (by simp)
          simpa using this
        · have := hp (j + 1) v (by simpa using hj)
          rw [show k + 1 + j = k + (j + 1) by omega]
          exact this
  rw [List.range_eq_range']
  exact key n acc.toList 0 (by simpa using h1) fun j v hj => by
    rw [Nat.zero_add]
    exact h2 j v (by simpa using hj)
theorem signs_map (x : Str) : (List.range x.cps.size).map (fun i => V.str ⟨#[x.cps.getD i 0]⟩) = x.cps.toList.map fun c => V.str ⟨#[c]⟩ := by
  apply List.ext_getElem
  · simp
  · intro i h1 h2
    have hi : i < x.cps.size := by simpa using h1
    simp [hi]
theorem reps_signs {K : PySem.W.Frag} {F : Hp} {ad : List Addr} : ∀ l : List Nat, Reps K F ad (l.map fun c => V.str ⟨#[c]⟩) (l.map sgn)
  | [] => .nil
  | c :: l => .cons (.str _) (reps_signs l)
theorem cr_listD (hc : X.calm = true) : CallR X (.type "list") (rBi X.K cls ew (biV .listOf)) := by
  intro pins s σ H vs us Q I rv ⟨F, ad, st, ds, r, hr, ok⟩
  obtain ⟨v, d, rfl, hx, ok⟩ := one_ok ok hr
  unfold listV at ok
  split at ok
  · cases hx
    rename_i z
    obtain ⟨hz, ok⟩ := ite_ok ok
    obtain ⟨u, rfl, t, rfl⟩ := vals1 rv
    refine PySem.call_list_str (I.ok.hd hc) z t (fun h' tk acc c' hk ho hi => ?_) hz
    have hv := itemsOf_vals (g := fun i => V.str ⟨#[z.cps.getD i 0]⟩) (fun i v ⟨c, u, h1, h2⟩ => ⟨u, by
      rw [h2, Array.getD_eq_getD_getElem?, h1]; rfl⟩) hi
    rw [signs_map] at hv
    exact ⟨.ref _, upd H s.heap.objs.size (.lst (z.cps.toList.map fun c => V.str ⟨#[c]⟩)), I.laid (t' := tk) hk (Nat.le_refl _) ⟨by simpa [Str.length] using hz, acc.toList, c', hv, by simpa using ho⟩, rfl, ok.list r (reps_signs _) (I.hok.fresh (Nat.le_refl _))⟩
  · split at ok
    · rename_i xs e
      obtain ⟨a, vs, rfl, ha, hr⟩ := seqOf_rep r hx e
      exact call_list_of pins s σ H _ us Q I rv ⟨_, _, rfl, ha, fun p hp => ok.list r hr hp⟩
    · exact ok.elim
theorem cr_max2D (hc : X.calm = true) : CallR X (.builtin "max") (rBi X.K cls ew (biV .max2)) := by
  intro pins s σ H vs us Q I rv ⟨F, ad, st, ds, r, hr, ok⟩
  obtain ⟨v, w, d, e, rfl, hx, hy, ok⟩ := two_ok ok hr
  obtain ⟨i, j, rfl, rfl, ok⟩ := intV_ok ok hx hy
  exact call_max2 hc pins s σ H _ us Q I rv ⟨_, _, rfl, ok.val r (.int _)⟩
theorem foldl_max : ∀ (r : List Int) (x : Int), (r.foldl (fun m y => if y > m then y else m) x ∈ x :: r) ∧ ∀ y ∈ x :: r, y ≤ r.foldl (fun m y => if y > m then y else m) x
  | [], x => ⟨by simp, by simp⟩
  | a :: r, x => by
    obtain ⟨h1, h2⟩ := foldl_max r (if a > x then a else x)
    refine ⟨?_, fun y hy => ?_⟩
    · rw [List.foldl_cons]
      rcases List.mem_cons.mp h1 with h | h
      · rw [h]; split <;> simp
      · simp [h]
    · rw [List.foldl_cons]
      have h0 := h2 (if a > x then a else x) (by simp)
      rcases List.mem_cons.mp hy with e | hy
      · have : y ≤ (if a > x then a else x) := by split <;> omega
        exact Int.le_trans this h0
      · rcases List.mem_cons.mp hy with e | hy
        · have : y ≤ (if a > x then a else x) := by split <;> omega
          exact Int.le_trans this h0
        · exact h2 y (by simp [hy])
theorem foldl_min : ∀ (r : List Int) (x : Int), (r.foldl (fun m y => if y < m then y else m) x ∈ x :: r) ∧ ∀ y ∈ x :: r, r.foldl (fun m y => if y < m then y else m) x ≤ y
  | [], x => ⟨by simp, by simp⟩
  | a :: r, x => by
    obtain ⟨h1, h2⟩ := foldl_min r (if a < x then a else x)
    refine ⟨?_, fun y hy => ?_⟩
    · rw [List.foldl_cons]
      rcases List.mem_cons.mp h1 with h | h
      · rw [h]; split <;> simp
      · simp [h]
    · rw [List.foldl_cons]
      have h0 := h2 (if a < x then a else x) (by simp)
      rcases List.mem_cons.mp hy with e | hy
      · have : (if a < x then a else x) ≤ y := by split <;> omega
        exact Int.le_trans h0 this
      · rcases List.mem_cons.mp hy with e | hy
        · have : (if a < x then a else x) ≤ y := by split <;> omega
          exact Int.le_trans h0 this
        · exact h2 y (by simp [hy])
theorem maxI_of {ns : List Int} {m : Int} (h0 : 0 < ns.length) (h1 : m ∈ ns) (h2 : ∀ y ∈ ns, y ≤ m) : m = maxI ns := by
  cases ns with
  | nil => simp at h0
  | cons x r =>
    obtain ⟨a, b⟩ := foldl_max r x
    exact Int.le_antisymm (b m h1) (h2 _ a)
theorem minI_of {ns : List Int} {m : Int} (h0 : 0 < ns.length) (h1 : m ∈ ns) (h2 : ∀ y ∈ ns, m ≤ y) : m = minI ns := by
  cases ns with
  | nil => simp at h0
  | cons x r =>
    obtain ⟨a, b⟩ := foldl_min r x
    exact Int.le_antisymm (h2 _ a) (b m h1)
theorem cr_maxLD (hc : X.calm = true) : CallR X (.builtin "max") (rBi X.K cls ew (biV .maxL)) := by
  intro pins s σ H vs us Q I rv ⟨F, ad, st, ds, r, hr, ok⟩
  obtain ⟨v, d, rfl, hx, ok⟩ := one_ok ok hr
  obtain ⟨a, ns, rfl, ha, ok⟩ := onInts_ok ok r hx
  obtain ⟨hz, ok⟩ := ite_ok ok
  exact cr_max hc pins s σ H _ us Q I rv ⟨_, _, rfl, SqL.of ha, hz, fun m h1 h2 => by
    rw [maxI_of hz h1 h2]; exact ok.val r (.int _)⟩
theorem cr_minLD (hc : X.calm = true) : CallR X (.builtin "min") (rBi X.K cls ew (biV .minL)) := by
  intro pins s σ H vs us Q I rv ⟨F, ad, st, ds, r, hr, ok⟩
  obtain ⟨v, d, rfl, hx, ok⟩ := one_ok ok hr
  obtain ⟨a, ns, rfl, ha, ok⟩ := onInts_ok ok r hx
  obtain ⟨hz, ok⟩ := ite_ok ok
  exact cr_min hc pins s σ H _ us Q I rv ⟨_, _, rfl, SqL.of ha, hz, fun m h1 h2 => by
    rw [minI_of hz h1 h2]; exact ok.val r (.int _)⟩
/-! isinstance(x, T) -/
theorem tyOf_rep {K : PySem.W.Frag} {F : Hp} {ad : List Addr} {st : Sto} {H : Hp} {v : V} {d : D} {t : String} (r : RelS K F ad st H) (h : Rep K F ad v d) (e : tyOf st d = some t) : TyX K H v (.type t) ∧ (t = "NoneType" ∨ t = "bool" ∨ t = "int" ∨ t = "str" ∨ t = "list" ∨ t = "tuple") := by
  cases h with
  | none => simp only [tyOf, Option.some.injEq] at e; subst e; exact ⟨.base .non, by simp⟩
  | bool b => simp only [tyOf, Option.some.injEq] at e; subst e; exact ⟨.base (.bl b), by simp⟩
  | int b => simp only [tyOf, Option.some.injEq] at e; subst e; exact ⟨.base (.int b), by simp⟩
  | str b => simp only [tyOf, Option.some.injEq] at e; subst e; exact ⟨.base (.str b), by simp⟩
  | scr h => simp only [tyOf] at e; cases e
  | list h _ => simp only [tyOf, Option.some.injEq] at e; subst e; exact ⟨.base (.lst (r.sub _ _ h)), by simp⟩
  | tup h _ =>
    simp only [tyOf, Option.some.injEq] at e; subst e
    refine ⟨?_, by simp⟩
    rcases h with (h | ⟨o, h⟩) | ⟨o, its, n, h, hc, _⟩
    · exact .base (.tup (r.sub _ _ h))
    · exact .fTuple (r.sub _ _ h)
    · exact .kTuple h hc
  | ref ha =>
    simp only [tyOf] at e
    split at e
    · rename_i xs hx
      simp only [Option.some.injEq] at e; subst e
      obtain ⟨vs, h1, h2⟩ := r.cell _ _ _ hx ha
      exact ⟨.base (.lst h1), by simp⟩
    · cases e
theorem kit_all (T t : String) (hT : T = "bool" ∨ T = "int" ∨ T = "str" ∨ T = "list" ∨ T = "tuple") (ht : t = "NoneType" ∨ t = "bool" ∨ t = "int" ∨ t = "str" ∨ t = "list" ∨ t = "tuple") : kitB t T = some (isinstT T t) := by
  rcases hT with rfl | rfl | rfl | rfl | rfl <;> rcases ht with rfl | rfl | rfl | rfl | rfl | rfl <;> decide +kernel
/-- x, T: the type is written -/
def rIsiD (K : PySem.W.Frag) (cls : Str → Option Addr) (ew : XK) (T : String) : List V → Hp → VK → Prop := fun vs H Q => ∃ v, vs = [v, .ty T] ∧ rBi K cls ew (biV (.isinst T)) [v] H Q
theorem cr_isiD (T : String) (hT : T = "bool" ∨ T = "int" ∨ T = "str" ∨ T = "list" ∨ T = "tuple") : CallR X (.builtin "isinstance") (rIsiD X.K cls ew T) := by
  intro pins s σ H vs us Q I rv ⟨v, ev, F, ad, st, ds, r, hr, ok⟩
  subst ev
  obtain ⟨v', d, e', hx, ok⟩ := one_ok ok hr
  cases e'
  unfold isinstV at ok
  split at ok
  · rename_i t e
    obtain ⟨h1, h2⟩ := tyOf_rep r hx e
    exact call_isi pins s σ H _ us Q I rv ⟨_, _, _, _, _, rfl, .ty T, h1, kit_ty (kit_all T t hT h2), ok.val r (.bool _)⟩
  · exact ok.elim

/-! list(range(..)) -/
theorem cr_range1 : CallR X (.type "range") (fun vs H Q => ∃ i, vs = [V.int i] ∧ ∀ p, H p = none → Q (.ref p) (upd H p (.rng 0 i))) := by
  intro pins s σ H vs us Q I rv ⟨i, e, q⟩
  subst e
  obtain ⟨u, rfl, t, rfl⟩ := vals1 rv
  refine call_range_1 ⟨.ref s.heap.objs.size, upd H s.heap.objs.size (.rng 0 i), I.laid (t' := s.toks + 1 + 1) (fun b o e => Heap.get?_push_of_some _ e) (Nat.le_refl _) ?_, rfl, q _ (I.hok.fresh (Nat.le_refl _))⟩
  exact ⟨_, _, _, Heap.get?_push_size _ rfl⟩
theorem range_map (a : Int) (n : Nat) : (List.range n).map (fun (i : Nat) => V.int (a + (i : Int) * 1)) = (rangeI a n).map V.int := by
  unfold rangeI
  rw [List.map_map]
  apply List.map_congr_left
  intro k _
  simp
theorem cr_listR (hc : X.calm = true) : CallR X (.type "list") (fun vs H Q => ∃ p lo hi, vs = [V.ref p] ∧ H p = some (.rng lo hi) ∧ (hi - lo ≤ sizeLine ∧ -(2 ^ 62) ≤ lo ∧ lo < 2 ^ 62 ∧ -(2 ^ 62) ≤ hi ∧ hi < 2 ^ 62) ∧ ∀ q, H q = none → Q (.ref q) (upd H q (.lst ((rangeI lo (hi - lo).toNat).map V.int)))) := by
  intro pins s σ H vs us Q I rv ⟨p, lo, hi, e, hp, ⟨hz, h1, h2, h3, h4⟩, q⟩
  subst e
  rw [Vals.ref1 rv]
  obtain ⟨t, u, v, e⟩ := (show ObjOk X.prog X.w H s.heap p (.rng lo hi) from I.hok p _ hp)
  have hs : sizeLine = 16777216 := sizeLine_eq
  refine PySem.call_list_range (n := (hi - lo).toNat) (I.ok.hd hc) e (small_one h1 h2 h3 h4) ?_ (by omega) fun h' tk acc c' hk ho hi' => ?_
  · rw [rangeSize_one]; split <;> omega
  · have hv := itemsOf_vals (g := fun (i : Nat) => V.int (lo + (i : Int) * 1)) (fun i v ⟨t, h⟩ => ⟨t, h⟩) hi'
    rw [range_map] at hv
    exact ⟨.ref _, upd H s.heap.objs.size (.lst ((rangeI lo (hi - lo).toNat).map V.int)), I.laid (t' := tk) hk (Nat.le_refl _) ⟨by simp [rangeI]; omega, acc.toList, c', hv, by simpa using ho⟩, rfl, q _ (I.hok.fresh (Nat.le_refl _))⟩

/-! methods of lists -/
theorem onCell_ok {x : D} {st : Sto} {f : Nat → List D → R Val} {F : Hp} {ad : List Addr} {H : Hp} {Q : VK} {v : V} (ok : OkV X.K cls ew F ad H (onCell x st f) Q) (r : RelS X.K F ad st H) (h : Rep X.K F ad v x) :
    ∃ a n xs vs, v = .ref a ∧ ad[n]? = some a ∧ H a = some (.lst vs) ∧ Reps X.K F ad vs xs ∧ OkV X.K cls ew F ad H (f n xs) Q := by
  unfold onCell at ok
  split at ok
  · cases h with
    | ref ha =>
      split at ok
      · rename_i xs e
        obtain ⟨vs, h1, h2⟩ := r.cell _ _ _ e ha
        exact ⟨_, _, xs, vs, rfl, ha, h1, h2, ok⟩
      · exact ok.elim
  · exact ok.elim
/-- a method, by values -/
def rMt (K : PySem.W.Frag) (cls : Str → Option Addr) (ew : XK) (m : MT) : V → List V → Hp → VK → Prop := fun x vs H Q => ∃ F ad st d ds, RelS K F ad st H ∧ Rep K F ad x d ∧ Reps K F ad vs ds ∧ OkV K cls ew F ad H (mtV m d ds st) Q
theorem mt_appendD : MtM X "list.append" (rMt X.K cls ew .append) := by
  intro pins s σ H x vs v us Q I rx rv ⟨F, ad, st, d, ds, r, hx, hr, ok⟩
  obtain ⟨w, e, rfl, hy, ok⟩ := one_ok ok hr
  obtain ⟨a, n, xs, ws, rfl, ha, hH, hw, ok⟩ := onCell_ok ok r hx
  obtain ⟨hz, ok⟩ := ite_ok ok
  exact mt_append pins s σ H _ _ v us Q I rx rv ⟨_, _, _, rfl, rfl, hH, by rw [hw.length]; exact hz, ok.wrote r ha ⟨_, upd_same, hw.append hy.one⟩ .none⟩
theorem mt_extendD : MtM X "list.extend" (rMt X.K cls ew .extend) := by
  intro pins s σ H x vs v us Q I rx rv ⟨F, ad, st, d, ds, r, hx, hr, ok⟩
  obtain ⟨w, e, rfl, hy, ok⟩ := one_ok ok hr
  obtain ⟨a, n, xs, ws, rfl, ha, hH, hw, ok⟩ := onCell_ok ok r hx
  split at ok
  · rename_i ys ey
    obtain ⟨b, zs, rfl, hb, hz⟩ := listOf_rep r hy ey
    obtain ⟨hl, ok⟩ := ite_ok ok
    exact mt_extend pins s σ H _ _ v us Q I rx rv ⟨_, _, _, _, rfl, rfl, hH, hb, by rw [hw.length, hz.length]; exact hl, ok.wrote r ha ⟨_, upd_same, hw.append hz⟩ .none⟩
  · exact ok.elim
theorem mt_pop0D : MtM X "list.pop" (fun x vs H Q => vs = [] ∧ rMt X.K cls ew .pop0 x vs H Q) := by
  intro pins s σ H x vs v us Q I rx rv ⟨_, F, ad, st, d, ds, r, hx, hr, ok⟩
  obtain ⟨rfl, ok⟩ := zero_ok ok hr
  obtain ⟨a, n, xs, ws, rfl, ha, hH, hw, ok⟩ := onCell_ok ok r hx
  unfold popV at ok
  split at ok
  · rename_i y ey
    obtain ⟨w, h1, h2⟩ := hw.get ey
    exact mt_pop pins s σ H _ _ v us Q I rx rv ⟨_, _, _, rfl, rfl, hH, by rw [hw.length]; exact h1, ok.wrote r ha ⟨_, upd_same, hw.dropLast⟩ h2⟩
  · exact ok.elim
theorem mt_popAtD : MtM X "list.pop" (rMt X.K cls ew .popAt) := by
  intro pins s σ H x vs v us Q I rx rv ⟨F, ad, st, d, ds, r, hx, hr, ok⟩
  obtain ⟨w, e, rfl, hy, ok⟩ := one_ok ok hr
  obtain ⟨a, n, xs, ws, rfl, ha, hH, hw, ok⟩ := onCell_ok ok r hx
  unfold popAtV at ok
  split at ok
  · cases hy
    obtain ⟨hz, ok⟩ := ite_ok ok
    split at ok
    · rename_i k ek
      split at ok
      · rename_i y ey
        obtain ⟨w, h1, h2⟩ := hw.get ey
        exact mt_popAt pins s σ H _ _ v us Q I rx rv ⟨_, _, _, k, _, rfl, rfl, hH, hz.1, hz.2, by rw [hw.length]; exact (ixN_seq ek).1, h1, ok.wrote r ha ⟨_, upd_same, hw.eraseIdx k⟩ h2⟩
      · exact ok.elim
    · exact ok.elim
  · exact ok.elim
theorem mt_reverseD : MtM X "list.reverse" (rMt X.K cls ew .reverse) := by
  intro pins s σ H x vs v us Q I rx rv ⟨F, ad, st, d, ds, r, hx, hr, ok⟩
  obtain ⟨rfl, ok⟩ := zero_ok ok hr
  obtain ⟨a, n, xs, ws, rfl, ha, hH, hw, ok⟩ := onCell_ok ok r hx
  exact mt_reverse pins s σ H _ _ v us Q I rx rv ⟨_, _, rfl, rfl, hH, ok.wrote r ha ⟨_, upd_same, hw.reverse⟩ .none⟩
theorem mt_clearD : MtM X "list.clear" (rMt X.K cls ew .clear) := by
  intro pins s σ H x vs v us Q I rx rv ⟨F, ad, st, d, ds, r, hx, hr, ok⟩
  obtain ⟨rfl, ok⟩ := zero_ok ok hr
  obtain ⟨a, n, xs, ws, rfl, ha, hH, hw, ok⟩ := onCell_ok ok r hx
  exact mt_clear pins s σ H _ _ v us Q I rx rv ⟨_, _, rfl, rfl, hH, ok.wrote r ha ⟨_, upd_same, .nil⟩ .none⟩
theorem mt_insertD : MtM X "list.insert" (rMt X.K cls ew .insert) := by
  intro pins s σ H x vs v us Q I rx rv ⟨F, ad, st, d, ds, r, hx, hr, ok⟩
  obtain ⟨w1, w2, e1, e2, rfl, hi, hy, ok⟩ := two_ok ok hr
  obtain ⟨a, n, xs, ws, rfl, ha, hH, hw, ok⟩ := onCell_ok ok r hx
  split at ok
  · cases hi
    obtain ⟨hz, ok⟩ := ite_ok ok
    exact mt_insert pins s σ H _ _ v us Q I rx rv ⟨_, _, _, _, rfl, rfl, hH, by rw [hw.length]; exact hz.1, hz.2.1, hz.2.2, ok.wrote r ha ⟨_, upd_same, ((hw.take _).append hy.one).append (hw.drop _)⟩ .none⟩
  · exact ok.elim
theorem pys_get : ∀ (ts : List D) (i : Nat), (pys ts)[i]? = (ts[i]?).map D.py
  | [], _ => rfl
  | a :: l, 0 => rfl
  | a :: l, i + 1 => by simpa only [pys, List.getElem?_cons_succ] using pys_get l i
theorem mt_indexD' (hu : X.A.units + 65 < cLine) : MtM X "list.index" (rMt X.K cls ew .index) := by
  intro pins s σ H x vs v us Q I rx rv ⟨F, ad, st, d, ds, r, hx, hr, ok⟩
  obtain ⟨w, e, rfl, hy, ok⟩ := one_ok ok hr
  have ok : OkV X.K cls ew F ad H (indexV d e st) Q := ok
  unfold indexV at ok
  split at ok
  · rename_i ts t e1 e2
    obtain ⟨hs, ok⟩ := ite_ok ok
    rw [Bool.and_eq_true] at hs
    split at ok
    · rename_i j ej
      have d1 : Dp X.K H x (.list (pys ts)) := by simpa only [D.py] using frz_dp r hx e1 hs.2
      have d2 := frz_dp r hy e2 hs.1
      have sh : SeqAt.shaped (.list (pys ts)) = true := by simpa only [D.shp, D.py] using hs.2
      have hp : ∀ (i : Nat), (pys ts)[i]? = (ts[i]?).map D.py := pys_get ts
      obtain ⟨hj, h1, h2⟩ := List.findIdx?_eq_some_iff_getElem.mp ej
      cases d1 with
      | lst hq ha =>
        refine mt_indexD hu pins s σ H _ _ v us Q I rx rv ⟨_, _, t.py, pys ts, j, (ts[j]).py, rfl, rfl, .lst hq ha, d2, sh, hs.1, ?_, h1, fun m z hm hz => ?_, ok.val r (.int _)⟩
        · rw [hp, List.getElem?_eq_getElem hj]; rfl
        · rw [hp] at hz
          obtain ⟨z', hz1, hz2⟩ := Option.map_eq_some_iff.mp hz
          subst hz2
          have hm' : m < ts.length := by omega
          rw [List.getElem?_eq_getElem hm'] at hz1
          cases hz1
          have := h2 m hm
          simpa [eqD] using this
    · exact ok.elim
  · exact ok.elim
end
end MP

/-! Composition; calls. -/
namespace MP
open PySem PySem.Spec PyProof.Rows L2

section
variable {K : PySem.W.Frag} {cls : Str → Option Addr} {ew : XK} {F F1 : Hp} {ad ad1 : List Addr} {H H1 : Hp} {st st1 : Sto} {Q : VK}
theorem OkV.bindX {r : R Val} {f : Val → Sto → R Val} (h : OkV K cls ew F ad H (r.bind f) Q) {Q' : VK}
    (k : ∀ x st' F' ad' H' v, Step F ad H F' ad' H' → RelS K F' ad' st' H' → RepX K H F' ad' H' v x → OkV K cls ew F ad H (f x st') Q → Q' v H') : OkV K cls ew F ad H r Q' := by
  cases r with
  | ok x st' => exact fun F' ad' H' v s r q => k x st' F' ad' H' v s r q h
  | err c st' => exact h
  | stuck => exact h
/-- .. what is made is frozen -/
theorem OkV.bindF {r : R Val} {f : Val → Sto → R Val} (h : OkV K cls ew F ad H (r.bind f) Q) {Q' : VK}
    (k : ∀ x st' F' ad' H' v, Step F ad H F' ad' H' → RelS K F' ad' st' H' → Rep K F' ad' v x.d → OkV K cls ew F' ad' H' (f x st') Q → Q' v H') : OkV K cls ew F ad H r Q' :=
  h.bindX fun x st' F' ad' H' v s r q ok => by
    obtain ⟨F'', s', r', q'⟩ := freezeX s r q
    exact k x st' F'' ad' H' v s' r' q' (ok.step s')
/-- lists of values -/
def OkL (K : PySem.W.Frag) (cls : Str → Option Addr) (ew : XK) (F : Hp) (ad : List Addr) (H : Hp) (r : R (List D)) (Q : List V → Hp → Prop) : Prop := match r with
  | .ok ds st' => ∀ F' ad' H' vs, Step F ad H F' ad' H' → RelS K F' ad' st' H' → Reps K F' ad' vs ds → Q vs H'
  | .err c st' => ∀ F' ad' H' a, Step F ad H F' ad' H' → RelS K F' ad' st' H' → cls c = some a → ew (.ref a) none H'
  | .stuck => False
theorem OkL.step (s : Step F ad H F1 ad1 H1) {r : R (List D)} {Q : List V → Hp → Prop} (h : OkL K cls ew F ad H r Q) : OkL K cls ew F1 ad1 H1 r Q := by
  cases r with
  | ok x st' => exact fun F' ad' H' v s' r' x' => h F' ad' H' v (s.trans s') r' x'
  | err c st' => exact fun F' ad' H' a s' r' e => h F' ad' H' a (s.trans s') r' e
  | stuck => exact h
theorem OkV.bindL {r : R (List D)} {f : List D → Sto → R Val} (h : OkV K cls ew F ad H (r.bind f) Q) {Q' : List V → Hp → Prop}
    (k : ∀ x st' F' ad' H' v, Step F ad H F' ad' H' → RelS K F' ad' st' H' → Reps K F' ad' v x → OkV K cls ew F' ad' H' (f x st') Q → Q' v H') : OkL K cls ew F ad H r Q' := by
  cases r with
  | ok x st' => exact fun F' ad' H' v s r q => k x st' F' ad' H' v s r q (OkV.step s h)
  | err c st' => exact h
  | stuck => exact h
theorem OkL.bindF {r : R Val} {f : Val → Sto → R (List D)} {Q : List V → Hp → Prop} (h : OkL K cls ew F ad H (r.bind f) Q) {Q' : VK}
    (k : ∀ x st' F' ad' H' v, Step F ad H F' ad' H' → RelS K F' ad' st' H' → Rep K F' ad' v x.d → OkL K cls ew F' ad' H' (f x st') Q → Q' v H') : OkV K cls ew F ad H r Q' := by
  cases r with
  | ok x st' =>
    intro F' ad' H' v s r q
    obtain ⟨F'', s', r', q'⟩ := freezeX s r q
    exact k x st' F'' ad' H' v s' r' q' (OkL.step s' h)
  | err c st' => exact h
  | stuck => exact h
theorem OkL.bindL {r : R (List D)} {f : List D → Sto → R (List D)} {Q : List V → Hp → Prop} (h : OkL K cls ew F ad H (r.bind f) Q) {Q' : List V → Hp → Prop}
    (k : ∀ x st' F' ad' H' v, Step F ad H F' ad' H' → RelS K F' ad' st' H' → Reps K F' ad' v x → OkL K cls ew F' ad' H' (f x st') Q → Q' v H') : OkL K cls ew F ad H r Q' := by
  cases r with
  | ok x st' => exact fun F' ad' H' v s r q => k x st' F' ad' H' v s r q (OkL.step s h)
  | err c st' => exact h
  | stuck => exact h
/-- a call's end -/
def OkD (K : PySem.W.Frag) (cls : Str → Option Addr) (ew : XK) (F : Hp) (ad : List Addr) (H : Hp) (r : R D) (Q : VK) : Prop := match r with
  | .ok d st' => ∀ F' ad' H' v, Step F ad H F' ad' H' → RelS K F' ad' st' H' → Rep K F' ad' v d → Q v H'
  | .err c st' => ∀ F' ad' H' a, Step F ad H F' ad' H' → RelS K F' ad' st' H' → cls c = some a → ew (.ref a) none H'
  | .stuck => False
end

/-! ### trees beyond a frame -/
mutual
theorem D.noref_map {g : Nat → Option D} : ∀ {d : D}, d.noref = true → d.mapRef g = some d
  | .none, _ => rfl
  | .bool _, _ => rfl
  | .int _, _ => rfl
  | .str _, _ => rfl
  | .scr _, _ => rfl
  | .list xs, h => by
    simp only [D.noref] at h
    simp only [D.mapRef, norefs_map h]
  | .tup xs, h => by
    simp only [D.noref] at h
    simp only [D.mapRef, norefs_map h]
  | .dk ks vs, h => by
    simp only [D.noref] at h
    simp only [D.mapRef, norefs_map h]
  | .dt ks vs, h => by
    simp only [D.noref] at h
    simp only [D.mapRef, norefs_map h]
  | .ref _, h => by cases h
theorem norefs_map {g : Nat → Option D} : ∀ {ds : List D}, norefs ds = true → mapRefs g ds = some ds
  | [], _ => rfl
  | d :: ds, h => by
    simp only [norefs, Bool.and_eq_true] at h
    simp only [mapRefs, D.noref_map h.1, norefs_map h.2]
end
section
variable {K : PySem.W.Frag} {F F' : Hp} {ad ad' : List Addr}
mutual
theorem Rep.cut : ∀ {v : V} {d : D}, Rep K F ad v d → d.noref = true → Rep K F ad' v d
  | _, _, .none, _ => .none
  | _, _, .bool b, _ => .bool b
  | _, _, .int i, _ => .int i
  | _, _, .str x, _ => .str x
  | _, _, .scr h, _ => .scr h
  | _, _, .list h r, n => .list h (Reps.cut r (by simpa only [D.noref] using n))
  | _, _, .tup h r, n => .tup h (Reps.cut r (by simpa only [D.noref] using n))
  | _, _, .ref h, n => by cases n
theorem Reps.cut : ∀ {vs : List V} {ds : List D}, Reps K F ad vs ds → norefs ds = true → Reps K F ad' vs ds
  | _, _, .nil, _ => .nil
  | _, _, .cons h r, n => by
    simp only [norefs, Bool.and_eq_true] at n
    exact .cons (Rep.cut h n.1) (Reps.cut r n.2)
end
mutual
theorem Rep.thaw (g : Nat → Option D) (hg : ∀ (n : Nat) (t : D) (a : Addr), g n = some t → ad[n]? = some a → Rep K F' ad' (.ref a) t) (le : ∀ a o, F a = some o → F' a = some o) : ∀ {v : V} {d t : D}, Rep K F ad v d → d.mapRef g = some t → Rep K F' ad' v t
  | _, _, _, .none, h => by simp only [D.mapRef, Option.some.injEq] at h; subst h; exact .none
  | _, _, _, .bool b, h => by simp only [D.mapRef, Option.some.injEq] at h; subst h; exact .bool b
  | _, _, _, .int b, h => by simp only [D.mapRef, Option.some.injEq] at h; subst h; exact .int b
  | _, _, _, .str b, h => by simp only [D.mapRef, Option.some.injEq] at h; subst h; exact .str b
  | _, _, _, .scr b, h => by simp only [D.mapRef, Option.some.injEq] at h; subst h; exact .scr (sqlUp le b)
  | _, .list ds, t, .list hs r, h => by
    simp only [D.mapRef] at h
    cases e : mapRefs g ds with
    | none => rw [e] at h; cases h
    | some ys =>
      rw [e] at h
      simp only [Option.some.injEq] at h
      subst h
      exact .list (le _ _ hs) (Reps.thaw g hg le r e)
  | _, .tup ds, t, .tup hs r, h => by
    simp only [D.mapRef] at h
    cases e : mapRefs g ds with
    | none => rw [e] at h; cases h
    | some ys =>
      rw [e] at h
      simp only [Option.some.injEq] at h
      subst h
      exact .tup (sqtUp le hs) (Reps.thaw g hg le r e)
  | _, _, _, .ref ha, h => hg _ _ _ (by simpa only [D.mapRef] using h) ha
theorem Reps.thaw (g : Nat → Option D) (hg : ∀ (n : Nat) (t : D) (a : Addr), g n = some t → ad[n]? = some a → Rep K F' ad' (.ref a) t) (le : ∀ a o, F a = some o → F' a = some o) : ∀ {vs : List V} {ds ts : List D}, Reps K F ad vs ds → mapRefs g ds = some ts → Reps K F' ad' vs ts
  | _, _, _, .nil, h => by simp only [mapRefs, Option.some.injEq] at h; subst h; exact .nil
  | _, d :: ds, _, .cons h1 h2, h => by
    simp only [mapRefs] at h
    cases e1 : d.mapRef g with
    | none => rw [e1] at h; cases h
    | some y =>
      cases e2 : mapRefs g ds with
      | none => rw [e1, e2] at h; cases h
      | some ys =>
        rw [e1, e2] at h
        simp only [Option.some.injEq] at h
        subst h
        exact .cons (Rep.thaw g hg le h1 e1) (Reps.thaw g hg le h2 e2)
end
/-- a tuple's objects alone -/
theorem sqtUpT {a : Addr} {vs : List V} (le : ∀ a, (∀ xs, F a = some (.tup xs) → F' a = some (.tup xs)) ∧ ∀ o xs, F a = some (.frz o (.tup xs)) → F' a = some (.frz o (.tup xs))) (h : SqT K F a vs) : SqT K F' a vs := by
  rcases h with (h | ⟨o, h⟩) | h
  · exact .inl (.inl ((le _).1 _ h))
  · exact .inl (.inr ⟨o, (le _).2 _ _ h⟩)
  · exact .inr h
mutual
theorem Rep.thawT (g : Nat → Option D) (hg : ∀ (n : Nat) (t : D) (a : Addr), g n = some t → ad[n]? = some a → Rep K F' ad' (.ref a) t)
    (le : ∀ a, (∀ xs, F a = some (.tup xs) → F' a = some (.tup xs)) ∧ ∀ o xs, F a = some (.frz o (.tup xs)) → F' a = some (.frz o (.tup xs))) : ∀ {v : V} {d t : D}, Rep K F ad v d → d.mapRef g = some t → d.nolist = true → Rep K F' ad' v t
  | _, _, _, .none, h, _ => by simp only [D.mapRef, Option.some.injEq] at h; subst h; exact .none
  | _, _, _, .bool b, h, _ => by simp only [D.mapRef, Option.some.injEq] at h; subst h; exact .bool b
  | _, _, _, .int b, h, _ => by simp only [D.mapRef, Option.some.injEq] at h; subst h; exact .int b
  | _, _, _, .str b, h, _ => by simp only [D.mapRef, Option.some.injEq] at h; subst h; exact .str b
  | _, _, _, .scr b, h, n => by cases n
  | _, .list ds, t, .list hs r, h, n => by cases n
  | _, .tup ds, t, .tup hs r, h, n => by
    simp only [D.mapRef] at h
    cases e : mapRefs g ds with
    | none => rw [e] at h; cases h
    | some ys =>
      rw [e] at h
      simp only [Option.some.injEq] at h
      subst h
      exact .tup (sqtUpT le hs) (Reps.thawT g hg le r e (by simpa only [D.nolist] using n))
  | _, _, _, .ref ha, h, _ => hg _ _ _ (by simpa only [D.mapRef] using h) ha
theorem Reps.thawT (g : Nat → Option D) (hg : ∀ (n : Nat) (t : D) (a : Addr), g n = some t → ad[n]? = some a → Rep K F' ad' (.ref a) t)
    (le : ∀ a, (∀ xs, F a = some (.tup xs) → F' a = some (.tup xs)) ∧ ∀ o xs, F a = some (.frz o (.tup xs)) → F' a = some (.frz o (.tup xs))) : ∀ {vs : List V} {ds ts : List D}, Reps K F ad vs ds → mapRefs g ds = some ts → nolists ds = true → Reps K F' ad' vs ts
  | _, _, _, .nil, h, _ => by simp only [mapRefs, Option.some.injEq] at h; subst h; exact .nil
  | _, d :: ds, _, .cons h1 h2, h, n => by
    simp only [mapRefs] at h
    simp only [nolists, Bool.and_eq_true] at n
    cases e1 : d.mapRef g with
    | none => rw [e1] at h; cases h
    | some y =>
      cases e2 : mapRefs g ds with
      | none => rw [e1, e2] at h; cases h
      | some ys =>
        rw [e1, e2] at h
        simp only [Option.some.injEq] at h
        subst h
        exact .cons (Rep.thawT g hg le h1 e1 n.1) (Reps.thawT g hg le h2 e2 n.2)
end
theorem readN_thaw {st : Sto} {H : Hp} (r : RelS K F ad st H) (le : ∀ a o, F a = some o → F' a = some o) (lc : ∀ a ∈ ad, ∀ o, H a = some o → F' a = some o) :
    ∀ (k n : Nat) (t : D) (a : Addr), readN k st n = some t → ad[n]? = some a → Rep K F' ad' (.ref a) t := by
  intro k
  induction k with
  | zero => intro n t a h; cases h
  | succ k ih =>
    intro n t a h ha
    simp only [readN] at h
    split at h
    · rename_i xs e
      obtain ⟨vs, h1, h2⟩ := r.cell _ _ _ e ha
      split at h
      · rename_i ys e2
        cases h
        exact .list (lc a (List.mem_of_getElem? ha) _ h1) (Reps.thaw _ ih le h2 e2)
      · cases h
    · cases h
theorem readN_thawT {st : Sto} {H : Hp} (r : RelS K F ad st H) (nl : st.all Cell.nolist = true)
    (le : ∀ a, (∀ xs, F a = some (.tup xs) → F' a = some (.tup xs)) ∧ ∀ o xs, F a = some (.frz o (.tup xs)) → F' a = some (.frz o (.tup xs))) (lc : ∀ a ∈ ad, ∀ o, H a = some o → F' a = some o) :
    ∀ (k n : Nat) (t : D) (a : Addr), readN k st n = some t → ad[n]? = some a → Rep K F' ad' (.ref a) t := by
  intro k
  induction k with
  | zero => intro n t a h; cases h
  | succ k ih =>
    intro n t a h ha
    simp only [readN] at h
    split at h
    · rename_i xs e
      obtain ⟨vs, h1, h2⟩ := r.cell _ _ _ e ha
      split at h
      · rename_i ys e2
        cases h
        have q := (List.all_eq_true.mp nl) _ (List.mem_of_getElem? e)
        exact .list (lc a (List.mem_of_getElem? ha) _ h1) (Reps.thawT _ ih le h2 e2 (by simpa only [Cell.nolist] using q))
      · cases h
    · cases h
/-! cells counted on -/
mutual
theorem Rep.shift (ad0 : List Addr) : ∀ {v : V} {d : D}, Rep K F ad v d → Rep K F (ad0 ++ ad) v (d.shift ad0.length)
  | _, _, .none => .none
  | _, _, .bool b => .bool b
  | _, _, .int i => .int i
  | _, _, .str x => .str x
  | _, _, .scr h => .scr h
  | _, _, .list h r => .list h (Reps.shift ad0 r)
  | _, _, .tup h r => .tup h (Reps.shift ad0 r)
  | _, .ref n, .ref h => .ref (by rw [Nat.add_comm, List.getElem?_append_right (Nat.le_add_right _ _), Nat.add_sub_cancel_left]; exact h)
theorem Reps.shift (ad0 : List Addr) : ∀ {vs : List V} {ds : List D}, Reps K F ad vs ds → Reps K F (ad0 ++ ad) vs (shifts ad0.length ds)
  | _, _, .nil => .nil
  | _, _, .cons h r => .cons (Rep.shift ad0 h) (Reps.shift ad0 r)
end
mutual
theorem Rep.lowT {n : Nat} : ∀ {v : V} {d : D}, Rep K F ad v d → d.low n = true → Rep K F (ad.take n) v d
  | _, _, .none, _ => .none
  | _, _, .bool b, _ => .bool b
  | _, _, .int i, _ => .int i
  | _, _, .str x, _ => .str x
  | _, _, .scr h, _ => .scr h
  | _, _, .list h r, l => .list h (Reps.lowT r (by simpa only [D.low] using l))
  | _, _, .tup h r, l => .tup h (Reps.lowT r (by simpa only [D.low] using l))
  | _, _, .ref h, l => .ref (by
    have l' := of_decide_eq_true (by simpa only [D.low] using l)
    rw [List.getElem?_take_of_lt l']; exact h)
theorem Reps.lowT {n : Nat} : ∀ {vs : List V} {ds : List D}, Reps K F ad vs ds → lows n ds = true → Reps K F (ad.take n) vs ds
  | _, _, .nil, _ => .nil
  | _, _, .cons h r, l => by
    simp only [lows, Bool.and_eq_true] at l
    exact .cons (Rep.lowT h l.1) (Reps.lowT r l.2)
end
end

/-! ### the three calls -/
/-- what is frozen behind a call: what was, and what is new -/
def hpNew (F H H2 : Hp) : Hp := fun a => match F a, H a with
  | some o, _ => some o
  | none, none => H2 a
  | _, _ => none
def hpAll (F : Hp) (ad : List Addr) (H : Hp) : Hp := fun a => match F a with
  | some o => some o
  | none => if a ∈ ad then H a else none
section
variable {K : PySem.W.Frag} {cls : Str → Option Addr} {ew : XK} {F F1 F2 : Hp} {ad ad2 : List Addr} {H H2 : Hp} {st st2 : Sto} {Q : VK}
theorem hpNew_old {a : Addr} {o : HO} (h : F a = some o) : hpNew F H H2 a = some o := by unfold hpNew; rw [h]
theorem hpNew_new {a : Addr} (h : F a = none) (h' : H a = none) : hpNew F H H2 a = H2 a := by unfold hpNew; rw [h, h']
theorem hpNew_of {a : Addr} {o : HO} (h : hpNew F H H2 a = some o) : F a = some o ∨ (F a = none ∧ H a = none ∧ H2 a = some o) := by
  unfold hpNew at h
  split at h
  · rename_i e; cases h; exact .inl e
  · rename_i e1 e2; exact .inr ⟨e1, e2, h⟩
  · cases h
theorem back_step (r : RelS K F ad st H) (keep : ∀ a o, H a = some o → H2 a = some o) (dom : ∀ a, H2 a = none → H a = none) : Step F ad H (hpNew F H H2) ad H2 where
  le := fun a o h => hpNew_old h
  pre := ⟨[], by simp⟩
  newF := fun a h1 h2 => by
    cases e : H a with
    | none => rfl
    | some o => unfold hpNew at h2; rw [h1, e] at h2; exact absurd rfl h2
  newA := fun a h1 h2 => absurd h1 h2
  keep := fun a o _ h => keep a o h
  dom := dom
theorem back_rel (r : RelS K F ad st H) (keep : ∀ a o, H a = some o → H2 a = some o) : RelS K (hpNew F H H2) ad st H2 where
  sub := fun a o h => by
    rcases hpNew_of h with h | ⟨_, _, h⟩
    · exact keep a o (r.sub a o h)
    · exact h
  nd := r.nd
  out := fun a h => by
    unfold hpNew
    rw [r.out a h]
    cases e : H a with
    | none => exact absurd e (r.live a h)
    | some o => rfl
  len := r.len
  live := fun a h => by
    cases e : H a with
    | none => exact absurd e (r.live a h)
    | some o => rw [keep a o e]; simp
  cell := fun n c a h1 h2 => (r.cell n c a h1 h2).up (fun a o h => hpNew_old h) (fun _ _ h => h) (keep a)
/-- the callee's frozen part at its start -/
theorem start_rel (le : ∀ a o, F1 a = some o → H a = some o) : RelS K F1 [] [] H :=
  ⟨le, List.nodup_nil, fun a h => absurd h (by simp), rfl, fun a h => absurd h (by simp), fun n c a h => by simp at h⟩
theorem callP_ok {cf : CF} {f : Nat} {ds : List D} {vs : List V} (ok : OkV K cls ew F ad H (callP cf f ds st) Q) (r : RelS K F ad st H) (rs : Reps K F ad vs ds) :
    ∃ F1 ts, RelS K F1 [] [] H ∧ Reps K F1 [] vs ts ∧ OkD K cls ew F1 [] H (cf f ts []) Q := by
  unfold callP at ok
  cases e : frzs st ds with
  | none => rw [e] at ok; exact ok.elim
  | some ts =>
    rw [e] at ok
    simp only at ok
    by_cases hn : norefs ds = true
    · have et : ts = ds := by
        have := norefs_map (g := readN st.length st) hn
        unfold frzs at e
        rw [this] at e; exact (Option.some.inj e).symm
      subst et
      refine ⟨F, ts, start_rel r.sub, rs.cut hn, ?_⟩
      cases q : cf f ts [] with
      | stuck => rw [q] at ok; exact ok
      | err c st' =>
        rw [q] at ok
        intro F' ad' H' a s' r' ec
        have keep : ∀ a o, H a = some o → H' a = some o := fun a o h => s'.keep a o (by simp) h
        exact ok _ _ _ a (back_step r keep s'.dom) (back_rel r keep) ec
      | ok d st' =>
        rw [q] at ok
        simp only [hn, Bool.true_or, if_true] at ok
        cases q2 : frz st' d with
        | none => rw [q2] at ok; exact ok.elim
        | some t =>
          rw [q2] at ok
          intro F2 ad2 H2 v s2 r2 v2
          have keep : ∀ a o, H a = some o → H2 a = some o := fun a o h => s2.keep a o (by simp) h
          have le : ∀ a o, F2 a = some o → hpNew F H H2 a = some o := fun a o h => by
            cases e1 : F a with
            | some o' =>
              have := s2.le a o' e1
              rw [h] at this
              rw [hpNew_old e1]; exact this.symm
            | none =>
              have := s2.newF a e1 (by rw [h]; simp)
              rw [hpNew_new e1 this]; exact r2.sub a o h
          have lc : ∀ a ∈ ad2, ∀ o, H2 a = some o → hpNew F H H2 a = some o := fun a ha o h => by
            have z := s2.newA a ha (by simp)
            have z2 : F a = none := by
              cases e1 : F a with
              | none => rfl
              | some o' => rw [r.sub a o' e1] at z; cases z
            rw [hpNew_new z2 z]; exact h
          exact ok _ _ _ v (back_step r keep s2.dom) (back_rel r keep) (Rep.thaw _ (readN_thaw r2 le lc _) le v2 q2)
    · have hF : ∀ a o, F a = some o → hpAll F ad H a = some o := fun a o h => by unfold hpAll; rw [h]
      have hA : ∀ a ∈ ad, ∀ o, H a = some o → hpAll F ad H a = some o := fun a ha o h => by unfold hpAll; rw [r.out a ha]; simp only; rw [if_pos ha]; exact h
      have hof : ∀ a o, hpAll F ad H a = some o → F a = some o ∨ (a ∈ ad ∧ H a = some o) := fun a o h => by
        unfold hpAll at h
        split at h
        · rename_i e1; cases h; exact .inl e1
        · split at h
          · rename_i ha; exact .inr ⟨ha, h⟩
          · cases h
      have hsub : ∀ a o, hpAll F ad H a = some o → H a = some o := fun a o h => by
        rcases hof a o h with h | h
        · exact r.sub a o h
        · exact h.2
      refine ⟨hpAll F ad H, ts, start_rel hsub, Reps.thaw _ (readN_thaw r hF hA _) hF rs e, ?_⟩
      cases q : cf f ts [] with
      | stuck => rw [q] at ok; exact ok
      | err c st' =>
        rw [q] at ok
        intro F' ad' H' a s' r' ec
        have keep : ∀ a o, H a = some o → H' a = some o := fun a o h => s'.keep a o (by simp) h
        exact ok _ _ _ a (back_step r keep s'.dom) (back_rel r keep) ec
      | ok d st' =>
        rw [q] at ok
        simp only [hn, Bool.false_or, Bool.not_eq_true] at ok
        by_cases hl : (d.nolist && st'.all Cell.nolist) = true
        · rw [if_pos hl] at ok
          rw [Bool.and_eq_true] at hl
          cases q2 : frz st' d with
          | none => rw [q2] at ok; exact ok.elim
          | some t =>
            rw [q2] at ok
            intro F2 ad2 H2 v s2 r2 v2
            have keep : ∀ a o, H a = some o → H2 a = some o := fun a o h => s2.keep a o (by simp) h
            have notcell : ∀ a o, a ∈ ad → H a = some o → (∀ xs, o ≠ .tup xs) ∧ ∀ ob xs, o ≠ .frz ob (.tup xs) := fun a o ha h => by
              obtain ⟨n, hn1, hn2⟩ := List.mem_iff_getElem.mp ha
              have hlen := r.len
              have hc := r.cell n st[n] a (List.getElem?_eq_getElem _) (by rw [← hn2]; exact List.getElem?_eq_getElem _)
              cases e5 : st[n] with
              | lst xs =>
                rw [e5] at hc
                obtain ⟨vs, h1, _⟩ := hc
                rw [h1] at h; cases h
                exact ⟨fun _ z => (nomatch z), fun _ _ z => (nomatch z)⟩
              | dk ks xs =>
                rw [e5] at hc
                obtain ⟨vs, h1, _⟩ := hc
                rw [h1] at h; cases h
                exact ⟨fun _ z => (nomatch z), fun _ _ z => (nomatch z)⟩
              | dt ks xs =>
                rw [e5] at hc
                obtain ⟨vs, h1, _⟩ := hc
                rw [h1] at h; cases h
                exact ⟨fun _ z => (nomatch z), fun _ _ z => (nomatch z)⟩
              | dead =>
                rw [e5] at hc
                exact hc.elim
            have key : ∀ a o, F2 a = some o → (∀ ob, a ∈ ad → H a ≠ some ob) ∨ ¬ (a ∈ ad) → hpNew F H H2 a = some o := fun a o h hna => by
              cases e1 : hpAll F ad H a with
              | some o' =>
                have z := s2.le a o' e1
                rw [h] at z
                cases z
                rcases hof a o e1 with e2 | ⟨e2, e3⟩
                · exact hpNew_old e2
                · rcases hna with hna | hna
                  · exact absurd e3 (hna o e2)
                  · exact absurd e2 hna
              | none =>
                have z := s2.newF a e1 (by rw [h]; simp)
                have z2 : F a = none := by
                  cases e2 : F a with
                  | none => rfl
                  | some o' => rw [r.sub a o' e2] at z; cases z
                rw [hpNew_new z2 z]; exact r2.sub a o h
            have inad : ∀ a o, F2 a = some o → a ∈ ad → H a = some o := fun a o h ha => by
              cases e6 : H a with
              | none => exact absurd e6 (r.live a ha)
              | some o' =>
                have z := s2.le a o' (hA a ha o' e6)
                rw [h] at z
                exact z.symm
            have le : ∀ a, (∀ xs, F2 a = some (.tup xs) → hpNew F H H2 a = some (.tup xs)) ∧ ∀ o xs, F2 a = some (.frz o (.tup xs)) → hpNew F H H2 a = some (.frz o (.tup xs)) := fun a => by
              refine ⟨fun xs h => key a _ h (.inr fun ha => ?_), fun o xs h => key a _ h (.inr fun ha => ?_)⟩
              · exact (notcell a _ ha (inad a _ h ha)).1 _ rfl
              · exact (notcell a _ ha (inad a _ h ha)).2 _ _ rfl
            have lc : ∀ a ∈ ad2, ∀ o, H2 a = some o → hpNew F H H2 a = some o := fun a ha o h => by
              have z := s2.newA a ha (by simp)
              have z2 : F a = none := by
                cases e1 : F a with
                | none => rfl
                | some o' => rw [r.sub a o' e1] at z; cases z
              rw [hpNew_new z2 z]; exact h
            exact ok _ _ _ v (back_step r keep s2.dom) (back_rel r keep) (Rep.thawT _ (readN_thawT r2 hl.2 le lc _) le v2 q2 hl.1)
        · rw [if_neg hl] at ok
          exact ok.elim
theorem callC_ok {cf : CF} {f : Nat} {ds : List D} {vs : List V} (ok : OkV K cls ew F ad H (callC cf f ds st) Q) (r : RelS K F ad st H) (rs : Reps K F ad vs ds) :
    ∃ F1 ts, RelS K F1 [] [] H ∧ Reps K F1 [] vs ts ∧ OkD K cls ew F1 [] H (cf f ts []) Q := by
  unfold callC at ok
  by_cases hn : norefs ds = true
  · rw [if_pos hn] at ok
    refine ⟨F, ds, start_rel r.sub, rs.cut hn, ?_⟩
    cases q : cf f ds [] with
    | stuck => rw [q] at ok; exact ok
    | err c st' =>
      rw [q] at ok
      intro F' ad' H' a s' r' ec
      have keep : ∀ a o, H a = some o → H' a = some o := fun a o h => s'.keep a o (by simp) h
      exact ok _ _ _ a (back_step r keep s'.dom) (back_rel r keep) ec
    | ok d st' =>
      rw [q] at ok
      intro F2 ad2 H2 v s2 r2 v2
      have keep : ∀ a o, H a = some o → H2 a = some o := fun a o h => s2.keep a o (by simp) h
      have hlen := r.len
      have new : ∀ a ∈ ad2, H a = none := fun a ha => s2.newA a ha (by simp)
      have stp : Step F ad H F2 (ad ++ ad2) H2 :=
        ⟨s2.le, ⟨ad2, rfl⟩, s2.newF, fun a h1 h2 => by
          rcases List.mem_append.mp h1 with z | z
          · exact absurd z h2
          · exact new a z, fun a o _ h => keep a o h, s2.dom⟩
      refine ok F2 (ad ++ ad2) H2 v stp ?_ (by rw [← hlen]; exact Rep.shift ad v2)
      refine ⟨r2.sub, ?_, fun a h => ?_, by simp [hlen, r2.len], fun a h => ?_, fun n c a h1 h2 => ?_⟩
      · rw [List.nodup_append]
        exact ⟨r.nd, r2.nd, fun a ha b hb e => by
          subst e
          exact r.live a ha (new a hb)⟩
      · rcases List.mem_append.mp h with z | z
        · cases e1 : F2 a with
          | none => rfl
          | some o =>
            have z1 := r.out a z
            have z2 := s2.newF a z1 (by rw [e1]; simp)
            exact absurd z2 (r.live a z)
        · exact r2.out a z
      · rcases List.mem_append.mp h with z | z
        · cases e1 : H a with
          | none => exact absurd e1 (r.live a z)
          | some o => rw [keep a o e1]; simp
        · exact r2.live a z
      · by_cases hlt : n < st.length
        · rw [List.getElem?_append_left hlt] at h1
          rw [List.getElem?_append_left (by omega)] at h2
          exact (r.cell n c a h1 h2).up s2.le (fun m b hb => by rw [List.getElem?_append_left (List.getElem?_eq_some_iff.mp hb).1]; exact hb) (keep a)
        · rw [List.getElem?_append_right (by omega)] at h1
          rw [List.getElem?_append_right (by omega), hlen] at h2
          rw [List.getElem?_map] at h1
          cases e3 : st'[n - st.length]? with
          | none => rw [e3] at h1; cases h1
          | some c' =>
            rw [e3] at h1
            have e4 : c = Cell.shift st.length c' := (Option.some.inj h1).symm
            subst e4
            have hc := r2.cell _ c' a e3 h2
            cases c' with
            | lst xs =>
              obtain ⟨vs, g1, g2⟩ := hc
              exact ⟨vs, g1, by rw [← hlen]; exact Reps.shift ad g2⟩
            | dk ks xs =>
              obtain ⟨vs, g1, g2, g3⟩ := hc
              exact ⟨vs, g1, g2, by rw [← hlen]; exact Reps.shift ad g3⟩
            | dt ks xs =>
              obtain ⟨vs, g1, g2, g3⟩ := hc
              exact ⟨vs, g1, g2, by rw [← hlen]; exact Reps.shift ad g3⟩
            | dead => exact hc.elim
  · rw [if_neg hn] at ok; exact ok.elim
theorem callS_ok {cf : CF} {f : Nat} {ds : List D} (ok : OkV K cls ew F ad H (callS cf f ds st) Q) : OkD K cls ew F ad H (cf f ds st) Q := by
  unfold callS at ok
  cases q : cf f ds st with
  | stuck => rw [q] at ok; exact ok
  | err c st' => rw [q] at ok; exact ok
  | ok d st' => rw [q] at ok; exact ok
end
end MP

/-! The readings of the terms; targets; walks. -/
namespace MP
open PySem PySem.Spec PyProof.Rows L2

/-- what is fixed for a claim -/
structure Con where
  T : Nat → Option Def
  cls : Str → Option Addr
  G : Str → Option D
  k : Nat
/-- a def's promise -/
def spF (C : Con) (K : PySem.W.Frag) (k f : Nat) : Sp := fun vs H Q E => ∃ F ad st ds, RelS K F ad st H ∧ Reps K F ad vs ds ∧ OkD K C.cls E F ad H (run C.T k f ds st) Q
def bnames : List Str := ["len", "range", "list", "tuple", "sorted", "sum", "any", "all", "max", "min", "int", "isinstance", "zip", "str", "bool", "repr", "dict", "set"]
structure Facts (P : Program) (w : World) (K : PySem.W.Frag) (mg : Str → Option Value) (base : Heap) (C : Con) : Prop where
  fns : ∀ f d, C.T f = some d → ∃ a fd, FnOk P w K mg base (L2.CX P w) C.k a fd d.pars (spF C K C.k f) ∧ mg d.name = some (.ref a) ∧ PySem.W.keepIn K (.ref a) = true ∧ Binds K fd d.pars []
  glo : ∀ x d, C.G x = some d → ∃ u v, mg x = some u ∧ RelV v u ∧ ∀ F ad, Rep K F ad v d
  blt : ∀ x, x ∈ bnames → mg x = none
structure Good (C : Con) (N : List Str) (X : Cx) (sc : Scope) (ow : Str → Bool) (ew : L2.St → XK) : Prop where
  hN : X.N = N
  nd : N.Nodup
  sc : X.env.scope = sc
  calm : X.calm = true
  room : Room C.k X.A
  pass : ∀ σ, PassesAt (L2.CX X.prog X.w) X σ (ew σ)
  ow : ∀ x, ow x = true → X.fn x = true
  facts : Facts X.prog X.w X.K X.mg X.base C

def tX (C : Con) (X : Cx) (ew : L2.St → XK) (e : E) : TE := fun σ H Q => ∃ F ad env st, RelS X.K F ad st H ∧ EnvRel X.K F ad env σ ∧ OkV X.K C.cls (ew σ) F ad H (evX (run C.T C.k) e env st) Q
def tXs (C : Con) (X : Cx) (ew : L2.St → XK) (es : Es) : TA := fun σ H Q => ∃ F ad env st, RelS X.K F ad st H ∧ EnvRel X.K F ad env σ ∧ OkL X.K C.cls (ew σ) F ad H (evXs (run C.T C.k) es env st) Q

theorem _root_.L2.PE.imp {X : Cx} {e : Expr} {t t' : TE} (h : PE X e t) (i : ∀ σ H Q, t' σ H Q → t σ H Q) : PE X e t' := ⟨fun pins s σ H Q I q => h.run pins s σ H Q I (i _ _ _ q)⟩
theorem _root_.L2.PT.imp {X : Cx} {e : Expr} {t t' : TT} (h : PT X e t) (i : ∀ σ H Q, t' σ H Q → t σ H Q) : PT X e t' := ⟨fun pins s σ H Q I q => h.run pins s σ H Q I (i _ _ _ q)⟩
theorem _root_.L2.PW.imp {X : Cx} {e : Expr} {t t' : TT} (h : PW X e t) (i : ∀ σ H Q, t' σ H Q → t σ H Q) : PW X e t' := ⟨fun wh pins s σ H Q I q => h.run wh pins s σ H Q I (i _ _ _ q)⟩
theorem _root_.L2.PA.imp {X : Cx} {e : List Expr} {t t' : TA} (h : PA X e t) (i : ∀ σ H Q, t' σ H Q → t σ H Q) : PA X e t' := ⟨fun pos pins s σ H Q I q => h.run pos pins s σ H Q I (i _ _ _ q)⟩

/-- a test that is not asked in its own way -/
def plainB : Expr → Bool
  | .UnaryOp .Not _ _ => false
  | .BoolOp _ _ _ => false
  | .IfExp _ _ _ _ => false
  | .Compare _ _ _ _ => false
  | _ => true
theorem plain_true {e : Expr} {env : PySem.Env} (h : plainB e = true) : ∀ whole, isTrue e env whole = (do let v ← whole; standAt e.pos; holding [v] (truthy v)) := by
  intro whole
  cases e <;> first
    | rfl
    | (cases h; done)
    | (rename_i op x p; cases op <;> first | rfl | (cases h; done))
def tokB : Expr → Bool
  | .IfExp _ _ _ _ => false
  | _ => true
def isBo : Expr → Bool
  | .BoolOp _ _ _ => true
  | _ => false
theorem plain_bo {e : Expr} (h : plainB e = true) : isBo e = false := by
  cases e <;> first | rfl | cases h
structure Sd (C : Con) (X : Cx) (ew : L2.St → XK) (e : E) (pe : Expr) : Prop where
  ex : PE X pe (tX C X ew e)
  tst : tokB pe = true → PT X pe (tB (tX C X ew e))
  who : isBo pe = true → PW X pe (tB (tX C X ew e))
theorem Sd.plain {C : Con} {X : Cx} {ew : L2.St → XK} {e : E} {p : Expr} (h : PE X p (tX C X ew e)) (hp : plainB p = true) : Sd C X ew e p :=
  ⟨h, fun _ => pt_val h (plain_true hp), fun q => by rw [plain_bo hp] at q; cases q⟩

/-! ### targets -/
def gNames : List Nat → TGs
  | [] => gNil
  | i :: is => gCons (gName i) (gNames is)
def tT (K : PySem.W.Frag) : Tg → TG
  | .one i => gName i
  | .many is => gTup K is.length (gNames is)
theorem gNames_ok {K : PySem.W.Frag} {F : Hp} {ad : List Addr} {H : Hp} : ∀ {is : List Nat} {vs : List V} {ds : List D} {env : Env} {σ : L2.St} {Q : L2.St → Hp → Prop}, Reps K F ad vs ds → is.length = ds.length → EnvRel K F ad env σ →
    (∀ σ', EnvRel K F ad (bindT.bindAll env is ds) σ' → (∀ ws, (∀ i ∈ is, i ∈ ws) → wipe σ' ws = wipe σ ws) → Q σ' H) → gNames is vs σ H Q
  | [], _, _, _, σ, Q, .nil, _, en, q => ⟨rfl, q σ en fun _ _ => rfl⟩
  | i :: is, _, _, env, σ, Q, .cons (v := v) (d := d) h r, l, en, q => by
    refine ⟨v, _, rfl, ?_⟩
    refine gNames_ok r (by simpa using l) (en.set i h) fun σ' en' hw => q σ' en' fun ws hi => ?_
    rw [hw ws fun j hj => hi j (List.mem_cons_of_mem _ hj)]
    exact wipe_set (hi i List.mem_cons_self)
  | [], _, _, _, _, _, .cons _ _, l, _, _ => by simp at l
  | _ :: _, _, _, _, _, _, .nil, l, _, _ => by simp at l
where
  wipe_set {σ : L2.St} {i : Nat} {x : Option V} : ∀ {ws : List Nat}, i ∈ ws → wipe (σ.set i x) ws = wipe σ ws
    | w :: ws, h => by
      unfold wipe
      by_cases hi : i ∈ ws
      · rw [wipe_set hi]
      · have e : i = w := by
          rcases List.mem_cons.mp h with e | e
          · exact e
          · exact absurd e hi
        subst e
        rw [wipe_comm hi, List.set_set]
  wipe_comm {σ : L2.St} {i : Nat} {x : Option V} : ∀ {ws : List Nat}, i ∉ ws → wipe (σ.set i x) ws = (wipe σ ws).set i x
    | [], _ => rfl
    | w :: ws, h => by
      unfold wipe
      rw [wipe_comm (fun e => h (List.mem_cons_of_mem _ e))]
      rw [List.set_comm]
      intro e
      exact h (by rw [e]; exact List.mem_cons_self)
theorem wipe_wipe (σ : L2.St) (vs : List Nat) : wipe (wipe σ vs) vs = wipe σ vs := by
  apply List.ext_getElem?
  intro i
  by_cases h : i ∈ vs
  · by_cases hl : i < σ.length
    · rw [wipe_at h (by rw [wipe_length]; exact hl), wipe_at h hl]
    · rw [List.getElem?_eq_none (by rw [wipe_length, wipe_length]; omega), List.getElem?_eq_none (by rw [wipe_length]; omega)]
  · rw [wipe_keeps h]
where
  wipe_at {σ : L2.St} {i : Nat} : ∀ {vs : List Nat}, i ∈ vs → i < σ.length → (wipe σ vs)[i]? = some none
    | w :: vs, h, hl => by
      unfold wipe
      by_cases e : w = i
      · subst e
        rw [List.getElem?_set_self (by rw [wipe_length]; exact hl)]
      · rw [List.getElem?_set_ne e]
        rcases List.mem_cons.mp h with q | q
        · exact absurd q.symm e
        · exact wipe_at q hl
def tgIx : Tg → List Nat
  | .one i => [i]
  | .many is => is
theorem tT_ok {K : PySem.W.Frag} {F : Hp} {ad : List Addr} {H : Hp} {st : Sto} {tg : Tg} {v : V} {d : D} {env env' : Env} {σ : L2.St} {Q : L2.St → Hp → Prop} (r : RelS K F ad st H) (h : Rep K F ad v d) (en : EnvRel K F ad env σ) (e : bindT env tg d = some env')
    (q : ∀ σ', EnvRel K F ad env' σ' → (∀ ws, (∀ i ∈ tgIx tg, i ∈ ws) → wipe σ' ws = wipe σ ws) → Q σ' H) : tT K tg v σ H Q := by
  cases tg with
  | one i =>
    simp only [bindT, Option.some.injEq] at e
    subst e
    exact q _ (en.set i h) fun ws hi => gNames_ok.wipe_set (hi i (by simp [tgIx]))
  | many is =>
    cases h with
    | tup hs hr =>
      simp only [bindT] at e
      split at e
      · rename_i hl
        cases e
        exact ⟨_, _, rfl, sqtUp r.sub hs, by rw [hr.length, hl], gNames_ok hr hl en q⟩
      · cases e
    | _ => simp only [bindT] at e; cases e

/-! ### walks -/
structure JOk (K : PySem.W.Frag) (J : L2.It) (src : D) (ds : List D) (F : Hp) (ad : List Addr) (H : Hp) : Prop where
  go : ∀ i F' ad' st' H', Step F ad H F' ad' H' → RelS K F' ad' st' H' → stands src ds st' = true → i < ds.length → J.go i H' ∧
    ∀ x H2, J.yld i H' x H2 → ∃ F2, Step F' ad' H' F2 ad' H2 ∧ RelS K F2 ad' st' H2 ∧ ∃ d, ds[i]? = some d ∧ Rep K F2 ad' x d
  stop : ∀ i F' ad' st' H', Step F ad H F' ad' H' → RelS K F' ad' st' H' → stands src ds st' = true → ds.length ≤ i → J.stop i H'
def OkI (K : PySem.W.Frag) (cls : Str → Option Addr) (ew : XK) (F : Hp) (ad : List Addr) (H : Hp) (r : R (D × List D)) (Q : MP.D → List MP.D → Hp → List Addr → Hp → Prop) : Prop := match r with
  | .ok x st' => ∀ F' ad' H', Step F ad H F' ad' H' → RelS K F' ad' st' H' → Q x.1 x.2 F' ad' H'
  | .err c st' => ∀ F' ad' H' a, Step F ad H F' ad' H' → RelS K F' ad' st' H' → cls c = some a → ew (.ref a) none H'
  | .stuck => False
def tI (C : Con) (X : Cx) (ew : L2.St → XK) (it : It) : TI := fun σ H R => ∃ F ad env st, RelS X.K F ad st H ∧ EnvRel X.K F ad env σ ∧
  OkI X.K C.cls (ew σ) F ad H (evI (run C.T C.k) it env st) fun src ds F' ad' H' => ∀ J, JOk X.K J src ds F' ad' H' → R J H'
mutual
theorem D.same_eq : ∀ {a b : D}, a.same b = true → a = b
  | .none, b, h => by cases b <;> first | rfl | (simp [D.same] at h)
  | .bool x, b, h => by cases b <;> first | (simp [D.same] at h; done) | (simp only [D.same, beq_iff_eq] at h; rw [h])
  | .int x, b, h => by cases b <;> first | (simp [D.same] at h; done) | (simp only [D.same, beq_iff_eq] at h; rw [h])
  | .str x, b, h => by cases b <;> first | (simp [D.same] at h; done) | (simp only [D.same, decide_eq_true_eq] at h; rw [h])
  | .list x, b, h => by cases b <;> first | (simp [D.same] at h; done) | (simp only [D.same] at h; rw [sames_eq h])
  | .tup x, b, h => by cases b <;> first | (simp [D.same] at h; done) | (simp only [D.same] at h; rw [sames_eq h])
  | .ref x, b, h => by cases b <;> first | (simp [D.same] at h; done) | (simp only [D.same, beq_iff_eq] at h; rw [h])
  | .dk _ _, b, h => by cases b <;> simp [D.same] at h
  | .dt _ _, b, h => by cases b <;> simp [D.same] at h
  | .scr _, b, h => by cases b <;> simp [D.same] at h
theorem sames_eq : ∀ {a b : List D}, sames a b = true → a = b
  | [], [], _ => rfl
  | [], _ :: _, h => by simp [sames] at h
  | _ :: _, [], h => by simp [sames] at h
  | x :: xs, y :: ys, h => by
    simp only [sames, Bool.and_eq_true] at h
    rw [D.same_eq h.1, sames_eq h.2]
end
section
variable {K : PySem.W.Frag} {F F' : Hp} {ad ad' : List Addr} {H H' : Hp} {st st' : Sto}
theorem get_reps {vs : List V} {ds : List D} (h : Reps K F ad vs ds) {i : Nat} (hi : i < ds.length) : ∃ v d, vs[i]? = some v ∧ ds[i]? = some d ∧ Rep K F ad v d := by
  obtain ⟨v, h1, h2⟩ := h.get (i := i) (d := ds[i]) (List.getElem?_eq_getElem hi)
  exact ⟨v, _, h1, List.getElem?_eq_getElem hi, h2⟩
theorem jok_list {a : Addr} {vs : List V} {ds : List D} {src : D} (hq : ∀ F' ad' st' H', Step F ad H F' ad' H' → RelS K F' ad' st' H' → stands src ds st' = true → ∃ ws, SqL K H' a ws ∧ Reps K F' ad' ws ds) : JOk K (Itl K a) src ds F ad H where
  go := fun i F' ad' st' H' s r hs hi => by
    obtain ⟨ws, h1, h2⟩ := hq F' ad' st' H' s r hs
    obtain ⟨v, d, g1, g2, g3⟩ := get_reps h2 hi
    refine ⟨⟨ws, v, h1, g1⟩, fun x H2 ⟨e, y⟩ => ?_⟩
    subst e
    have z := y ws h1
    rw [g1] at z
    cases z
    exact ⟨F', Step.refl _ _ _, r, d, g2, g3⟩
  stop := fun i F' ad' st' H' s r hs hi => by
    obtain ⟨ws, h1, h2⟩ := hq F' ad' st' H' s r hs
    exact ⟨ws, h1, by rw [h2.length]; exact hi⟩
theorem jok_tup {a : Addr} {ws : List V} {ds : List D} {src : D} (h1 : SqT K F a ws) (h2 : Reps K F ad ws ds) : JOk K (Itt K a) src ds F ad H where
  go := fun i F' ad' st' H' s r hs hi => by
    obtain ⟨v, d, g1, g2, g3⟩ := get_reps h2 hi
    have h1' := sqtUp r.sub (sqtUp s.le h1)
    refine ⟨⟨ws, v, h1', g1⟩, fun x H2 ⟨e, y⟩ => ?_⟩
    subst e
    have z := y ws h1'
    rw [g1] at z
    cases z
    exact ⟨F', Step.refl _ _ _, r, d, g2, g3.step s⟩
  stop := fun i F' ad' st' H' s r hs hi => ⟨ws, sqtUp r.sub (sqtUp s.le h1), by rw [h2.length]; exact hi⟩
theorem jok_str {z : Str} {src : D} : JOk K (Its z) src (signs z) F ad H where
  go := fun i F' ad' st' H' s r hs hi => by
    have hi' : i < z.cps.size := by simpa [signs] using hi
    refine ⟨hi', fun x H2 ⟨e, c, h1, h2⟩ => ?_⟩
    subst e
    subst h2
    refine ⟨F', Step.refl _ _ _, r, sgn c, ?_, .str _⟩
    unfold signs
    rw [List.getElem?_map, Array.getElem?_toList, h1]; rfl
  stop := fun i F' ad' st' H' s r hs hi => by
    show z.cps.size ≤ i
    simpa [signs] using hi
theorem jok_range {lo : Int} {n : Nat} {src : D} : JOk K (Itr lo n) src ((rangeI lo n).map D.int) F ad H where
  go := fun i F' ad' st' H' s r hs hi => by
    have hi' : i < n := by simpa [rangeI] using hi
    refine ⟨hi', fun x H2 ⟨e, h2⟩ => ?_⟩
    subst e
    subst h2
    refine ⟨F', Step.refl _ _ _, r, .int (lo + i), ?_, .int _⟩
    simp [rangeI, hi']
  stop := fun i F' ad' st' H' s r hs hi => by
    show n ≤ i
    simpa [rangeI] using hi
theorem reps_zip {vs ws : List V} {xs ys : List D} (h1 : Reps K F ad vs xs) (h2 : Reps K F ad ws ys) {i : Nat} {d : D} (hd : (List.zipWith (fun x y => D.tup [x, y]) xs ys)[i]? = some d) : ∃ v w x y, vs[i]? = some v ∧ ws[i]? = some w ∧ Rep K F ad v x ∧ Rep K F ad w y ∧ d = .tup [x, y] := by
  rw [List.getElem?_zipWith] at hd
  split at hd
  · rename_i x y e1 e2
    obtain ⟨v, g1, g2⟩ := h1.get e1
    obtain ⟨w, g3, g4⟩ := h2.get e2
    exact ⟨v, w, x, y, g1, g3, g2, g4, (Option.some.inj hd).symm⟩
  · cases hd
theorem jok_zip {a b : Addr} {vs ws : List V} {xs ys : List D} {src : D} (h1 : F a = some (.lst vs)) (h2 : Reps K F ad vs xs) (h3 : F b = some (.lst ws)) (h4 : Reps K F ad ws ys) : JOk K (Itz K a b) src (List.zipWith (fun x y => D.tup [x, y]) xs ys) F ad H where
  go := fun i F' ad' st' H' s r hs hi => by
    obtain ⟨v, w, x, y, g1, g2, g3, g4, g5⟩ := reps_zip h2 h4 (List.getElem?_eq_getElem hi)
    have q1 : SqL K H' a vs := SqL.of (r.sub _ _ (s.le _ _ h1))
    have q2 : SqL K H' b ws := SqL.of (r.sub _ _ (s.le _ _ h3))
    refine ⟨⟨vs, ws, v, w, q1, q2, g1, g2⟩, fun z H2 ⟨T, x', y', e1, e2, e3, e4, e5⟩ => ?_⟩
    subst e1
    subst e3
    have z1 := e4 vs q1
    rw [g1] at z1
    cases z1
    have z2 := e5 ws q2
    rw [g2] at z2
    cases z2
    have hf : F' T = none := by
      cases e : F' T with
      | none => rfl
      | some o => rw [r.sub T o e] at e2; cases e2
    have ha : T ∉ ad' := fun hm => r.live T hm e2
    refine ⟨upd F' T (.tup [v, w]), (Step.beside e2).frozen hf e2, (r.beside e2).frozen upd_same hf ha, .tup [x, y], by rw [← g5]; exact List.getElem?_eq_getElem hi, ?_⟩
    exact .tup (.inl (.inl upd_same)) (.cons ((g3.step s).up (up_frozen hf) fun _ _ h => h) (.cons ((g4.step s).up (up_frozen hf) fun _ _ h => h) .nil))
  stop := fun i F' ad' st' H' s r hs hi => by
    refine ⟨vs, ws, SqL.of (r.sub _ _ (s.le _ _ h1)), SqL.of (r.sub _ _ (s.le _ _ h3)), ?_⟩
    rw [h2.length, h4.length]
    have : min xs.length ys.length ≤ i := by simpa using hi
    omega
/-- a value's items, walked -/
theorem items_jok {v : V} {d : D} {ds : List D} (r : RelS K F ad st H) (h : Rep K F ad v d) (e : items st d = some ds) :
    (∃ a ws, v = .ref a ∧ SqL K H a ws ∧ JOk K (Itl K a) d ds F ad H) ∨ (∃ a ws, v = .ref a ∧ SqT K H a ws ∧ JOk K (Itt K a) d ds F ad H) ∨ ∃ z, v = .str z ∧ JOk K (Its z) d ds F ad H := by
  cases h with
  | str z =>
    simp only [items, Option.some.injEq] at e
    subst e
    exact .inr (.inr ⟨z, rfl, jok_str⟩)
  | list hs hr =>
    simp only [items, seqOf, Option.some.injEq] at e
    subst e
    exact .inl ⟨_, _, rfl, SqL.of (r.sub _ _ hs), jok_list (vs := []) fun F' ad' st' H' s r' _ => ⟨_, SqL.of (r'.sub _ _ (s.le _ _ hs)), hr.step s⟩⟩
  | scr hs =>
    simp only [items, seqOf, Option.some.injEq] at e
    subst e
    exact .inl ⟨_, _, rfl, sqlUp r.sub hs, jok_list (vs := []) fun F' ad' st' H' s r' _ => ⟨_, sqlUp r'.sub (sqlUp s.le hs), reps_ints _⟩⟩
  | tup hs hr =>
    simp only [items, seqOf, Option.some.injEq] at e
    subst e
    exact .inr (.inl ⟨_, _, rfl, sqtUp r.sub hs, jok_tup hs hr⟩)
  | ref ha =>
    rename_i a n
    simp only [items, seqOf] at e
    split at e
    · rename_i xs hx
      cases e
      obtain ⟨vs, h1, h2⟩ := r.cell _ _ _ hx ha
      refine .inl ⟨_, vs, rfl, SqL.of h1, jok_list (vs := []) fun F' ad' st' H' s r' hst => ?_⟩
      simp only [stands] at hst
      split at hst
      · rename_i ys hy
        obtain ⟨ws, g1, g2⟩ := r'.cell _ _ _ hy (s.pa _ _ ha)
        rw [sames_eq hst] at g2
        exact ⟨ws, SqL.of g1, g2⟩
      · cases hst
    · cases e
  | none => simp only [items, seqOf] at e; cases e
  | bool _ => simp only [items, seqOf] at e; cases e
  | int _ => simp only [items, seqOf] at e; cases e
end
def iSeq (K : PySem.W.Frag) (t : TE) : TI := fun σ H R => t σ H fun x H1 => (∃ a ws, x = .ref a ∧ SqL K H1 a ws ∧ R (Itl K a) H1) ∨ (∃ a ws, x = .ref a ∧ SqT K H1 a ws ∧ R (Itt K a) H1) ∨ ∃ z, x = .str z ∧ R (Its z) H1
theorem pi_seq {X : Cx} {tg l : Expr} {tl : TE} (hl : PE X l tl) : PI X tg l (iSeq X.K tl) := by
  refine ⟨fun pins s σ H R I h => ?_⟩
  refine thn (hl.run pins s σ H _ I h) fun v s1 ⟨x, H1, I1, r1, q1⟩ => ?_
  rcases q1 with ⟨a, xs, e, hq, q⟩ | ⟨a, xs, e, hq, q⟩ | ⟨z, e, q⟩
  · subst e
    cases r1
    obtain ⟨its, rv, p, hz⟩ := I1.list hq
    refine wpAny_pyIter_list p.isList ?_
    refine ⟨s1.heap.objs.size, [s1.heap.objs.size], _, _, H1, rfl, I1.kept (t' := s1.toks) fun b o e => Heap.get?_push_of_some _ e, turn_list a _, ⟨_, Heap.get?_push_size _ rfl, rfl, rfl⟩, fun b hb => ?_, q⟩
    have e : b = s1.heap.objs.size := by simpa using hb
    subst e
    exact I1.fpOk (Nat.le_refl _) (I1.hok.fresh (Nat.le_refl _))
  · subst e
    cases r1
    obtain ⟨its, rv, p, hz⟩ := I1.tuple hq
    refine wpAny_pyIter_tuple (show s1.heap.IsTuple a its.toArray from p) ?_
    refine ⟨s1.heap.objs.size, [s1.heap.objs.size], _, _, H1, rfl, I1.kept (t' := s1.toks) fun b o e => Heap.get?_push_of_some _ e, turn_tuple a _, ⟨_, Heap.get?_push_size _ rfl, rfl, rfl⟩, fun b hb => ?_, q⟩
    have e : b = s1.heap.objs.size := by simpa using hb
    subst e
    exact I1.fpOk (Nat.le_refl _) (I1.hok.fresh (Nat.le_refl _))
  · subst e
    obtain ⟨t, rfl⟩ := r1
    cases ha : z.cps.all (· < 128)
    · exact wpAny_pyIter_wide ha (pi_one (tk := s1.toks) I1 _ (turn_str _ z t "str_iterator" (.inr rfl)) ⟨_, Heap.get?_push_size _ rfl, rfl, rfl⟩ q)
    · exact wpAny_pyIter_ascii ha (pi_one (tk := s1.toks) I1 _ (turn_str _ z t "str_ascii_iterator" (.inl rfl)) ⟨_, Heap.get?_push_size _ rfl, rfl, rfl⟩ q)
theorem _root_.L2.PI.imp {X : Cx} {tg e : Expr} {t t' : TI} (h : PI X tg e t) (i : ∀ σ H R, t' σ H R → t σ H R) : PI X tg e t' := ⟨fun pins s σ H R I q => h.run pins s σ H R I (i _ _ _ q)⟩
end MP

/-! The program's text against the terms; expressions. -/
namespace MP
open PySem PySem.Spec PyProof.Rows L2

def visB (sc : Scope) (x : Str) : Bool := match sc.names.lookup x with
  | some .local => true
  | some .cell => true
  | some .free => true
  | _ => false
def glB (sc : Scope) (x : Str) : Bool := match sc.names.lookup x with
  | some .globalImplicit => true
  | _ => false
def locB (sc : Scope) (ow : Str → Bool) (x : Str) : Bool := match sc.names.lookup x with
  | some .local => true
  | some .cell => ow x
  | _ => false
def okN (x : Str) : Bool := !(x == ("__debug__" : Str)) && !(x == ("__classdict__" : Str))
theorem vis_of {sc : Scope} {x : Str} (h : visB sc x = true) : Vis sc x := by
  unfold visB at h
  split at h
  · exact .inl (by assumption)
  · exact .inr (.inl (by assumption))
  · exact .inr (.inr (by assumption))
  · cases h
theorem gl_of {X : Cx} {sc : Scope} {x : Str} (e : X.env.scope = sc) (h : glB sc x = true) : Gl X x := by
  subst e
  unfold glB at h
  split at h
  · assumption
  · cases h
theorem ok1 {x : Str} (h : okN x = true) : (x == ("__debug__" : Str)) = false ∧ (x == ("__classdict__" : Str)) = false := by
  unfold okN at h
  rw [Bool.and_eq_true] at h
  exact ⟨by simpa using h.1, by simpa using h.2⟩
def litB : D → Expr → Bool
  | .int i, pe => (match pe with
    | .Constant (.int j) _ _ => i == j
    | .UnaryOp .USub (.Constant (.int j) _ _) _ => i == -j
    | _ => false)
  | .bool b, pe => (match pe with
    | .Constant (.bool c) _ _ => b == c
    | _ => false)
  | .none, pe => (match pe with
    | .Constant .none _ _ => true
    | _ => false)
  | .str x, pe => (match pe with
    | .Constant (.str y) _ _ => x == y
    | _ => false)
  | _, _ => false
def starB : Expr → Bool
  | .Starred _ _ => true
  | _ => false
def plainIxB : Expr → Bool
  | .Slice _ _ _ _ => false
  | _ => true
def setB : Expr → Bool
  | .Set _ _ _ => true
  | _ => false
def callB : Expr → Bool
  | .Call _ _ _ _ => true
  | _ => false
theorem star_each {e : Expr} {es : List Expr} {env : PySem.Env} (h : starB e = false) : starEach (e :: es) env = (false, eval e env) :: starEach es env := by
  cases e <;> first | rfl | cases h
theorem plain_ix {e : Expr} (h : plainIxB e = true) : PlainIx e := by
  intro o i
  cases e <;> first | rfl | cases h
theorem not_set {e : Expr} {env : PySem.Env} (h : setB e = false) : ∀ x, foldedSetIterable e env x = pure x := by
  intro x
  cases e <;> first | rfl | cases h
theorem att_base {e : Expr} {f : Str} {env : PySem.Env} (h : callB e = false) : attributeBase e f env (eval e env) = eval e env := by
  cases e <;> first | rfl | cases h
/-- which built-in function a name is -/
def chkBI (f : BI) (x : Str) : Bool := match f with
  | .len => x == "len"
  | .listOf => x == "list"
  | .tupleOf => x == "tuple"
  | .sorted => x == "sorted"
  | .sum => x == "sum"
  | .any => x == "any"
  | .all => x == "all"
  | .max2 => x == "max"
  | .maxL => x == "max"
  | .minL => x == "min"
  | .toInt => x == "int"
  | _ => false
def chkTy (T : String) (x : Str) : Bool := (T == "bool" && x == "bool") || (T == "int" && x == "int") || (T == "str" && x == "str") || (T == "list" && x == "list") || (T == "tuple" && x == "tuple")
def mtName : MT → Option (Str × Bool)
  | .append => some ("append", false)
  | .extend => some ("extend", false)
  | .pop0 => some ("pop", true)
  | .popAt => some ("pop", false)
  | .insert => some ("insert", false)
  | .reverse => some ("reverse", true)
  | .clear => some ("clear", true)
  | .index => some ("index", false)
  | _ => none
def esLen : Es → Nat
  | .nil => 0
  | .cons _ es => esLen es + 1
def fewB (cpos : Pos) (n : Nat) : Bool := decide (n < 30)

def chkNames (N : List Str) (sc : Scope) (ow : Str → Bool) : List Nat → List Expr → Bool
  | [], [] => true
  | i :: is, .Name x _ :: ps => (N[i]? == some x) && locB sc ow x && chkNames N sc ow is ps
  | _, _ => false
def chkTg (N : List Str) (sc : Scope) (ow : Str → Bool) : Tg → Expr → Bool
  | .one i, pe => (match pe with
    | .Name x _ => (N[i]? == some x) && locB sc ow x
    | _ => false)
  | .many is, pe => (match pe with
    | .Tuple ps _ _ => chkNames N sc ow is ps
    | _ => false)
def tupB : Expr → Bool
  | .Tuple _ _ _ => true
  | _ => false
def owB (scope : Scope) (x : Str) : Bool := scope.names.lookup x == some .cell
def ownP (N : List Str) (own : List Nat) : List (Str × Nat) := own.map fun i => ((N[i]?).getD "", i)
def isTrueLit : E → Bool
  | .lit (.bool true) => true
  | _ => false
mutual
def chkE (T : Nat → Option Def) (G : Str → Option D) (N : List Str) (sc : Scope) (ow : Str → Bool) : E → Expr → Bool
  | .var i, pe => (match pe with
    | .Name x _ => (N[i]? == some x) && visB sc x && okN x
    | _ => false)
  | .lit d, pe => litB d pe
  | .glob x d, pe => (match pe with
    | .Name y _ => x == y && glB sc y && okN y && (match G x with
      | some d' => d.same d'
      | none => false)
    | _ => false)
  | .bin o a b, pe => (match pe with
    | .BinOp pa op pb _ => decide (op = bopOf o) && chkE T G N sc ow a pa && chkE T G N sc ow b pb
    | _ => false)
  | .cmp o a b, pe => (match pe with
    | .Compare pa [op] [pb] _ => decide (op = copOf o) && !behindInMarks op pb && chkE T G N sc ow a pa && chkE T G N sc ow b pb
    | _ => false)
  | .chain o p a b c, pe => (match pe with
    | .Compare pa [op, op'] [pb, pc] _ => decide (op = copOf o) && decide (op' = copOf p) && !lastMarks [op, op'] [pb, pc] && chkE T G N sc ow a pa && chkE T G N sc ow b pb && chkE T G N sc ow c pc
    | _ => false)
  | .land a b, pe => (match pe with
    | .BoolOp .And [pa, pb] _ => tokB pa && tokB pb && chkE T G N sc ow a pa && chkE T G N sc ow b pb
    | .BoolOp .And (pa :: pb :: pc :: r) pos => tokB pa && chkE T G N sc ow a pa && chkE T G N sc ow b (.BoolOp .And (pb :: pc :: r) pos)
    | _ => false)
  | .lor a b, pe => (match pe with
    | .BoolOp .Or [pa, pb] _ => tokB pa && tokB pb && chkE T G N sc ow a pa && chkE T G N sc ow b pb
    | .BoolOp .Or (pa :: pb :: pc :: r) pos => tokB pa && chkE T G N sc ow a pa && chkE T G N sc ow b (.BoolOp .Or (pb :: pc :: r) pos)
    | _ => false)
  | .lnot a, pe => (match pe with
    | .UnaryOp .Not pa _ => tokB pa && chkE T G N sc ow a pa
    | _ => false)
  | .ite c a b, pe => (match pe with
    | .IfExp pc pa pb _ => tokB pc && chkE T G N sc ow c pc && chkE T G N sc ow a pa && chkE T G N sc ow b pb
    | _ => false)
  | .tup es, pe => (match pe with
    | .Tuple ps _ _ => chkEs T G N sc ow es ps
    | _ => false)
  | .list es, pe => (match pe with
    | .List ps _ => chkEs T G N sc ow es ps
    | _ => false)
  | .ix a b, pe => (match pe with
    | .Subscript pa pb _ => plainIxB pb && chkE T G N sc ow a pa && chkE T G N sc ow b pb
    | _ => false)
  | .sl a lo hi, pe => (match pe with
    | .Subscript pa (.Slice plo phi none _) _ => chkE T G N sc ow a pa && (match plo with
        | none => isNoneLit lo
        | some p => !isNoneLit lo && chkE T G N sc ow lo p) && (match phi with
        | none => isNoneLit hi
        | some p => !isNoneLit hi && chkE T G N sc ow hi p)
    | _ => false)
  | .call f es, pe => (match pe with
    | .Call (.Name x _) ps [] _ => (match T f with
      | some d => d.name == x && okN x && glB sc x && chkEs T G N sc ow es ps
      | none => false)
    | _ => false)
  | .callC f es, pe => (match pe with
    | .Call (.Name x _) ps [] _ => (match T f with
      | some d => d.name == x && okN x && glB sc x && chkEs T G N sc ow es ps
      | none => false)
    | _ => false)
  | .callS f es, pe => (match pe with
    | .Call (.Name x _) ps [] _ => (match T f with
      | some d => d.name == x && okN x && glB sc x && chkEs T G N sc ow es ps
      | none => false)
    | _ => false)
  | .bi f es, pe => (match f with
    | .range1 => (match pe with
      | .Call (.Name x _) [.Call (.Name y _) [pa] [] _] [] _ => x == "list" && y == "range" && glB sc x && glB sc y && !starB pa && (match es with
        | .cons e .nil => chkE T G N sc ow e pa
        | _ => false)
      | _ => false)
    | .isinst Ty => (match pe with
      | .Call (.Name x _) [pa, .Name y _] [] _ => x == "isinstance" && chkTy Ty y && glB sc x && glB sc y && !starB pa && (match es with
        | .cons e .nil => chkE T G N sc ow e pa
        | _ => false)
      | _ => false)
    | _ => (match pe with
      | .Call (.Name x _) (p :: ps) [] _ => chkBI f x && glB sc x && !starB p && chkEs T G N sc ow es (p :: ps)
      | _ => false))
  | .mt m o es, pe => (match pe with
    | .Call (.Attribute po y apos) ps [] cpos => (match mtName m with
      | some (n, z) => n == y && !callB po && chkE T G N sc ow o po && (apos.endLine == cpos.line) && decide (ps.length < 30) && (z == ps.isEmpty) && chkEs T G N sc ow es ps
      | none => false)
    | _ => false)
  | .comp elt tg it cond own, pe => (match pe with
    | .ListComp pelt [⟨ptg, pit, pifs, 0⟩] scope _ => blkC N sc scope (ownP N own) && chkI T G N sc ow (tupB ptg) it pit && !setB pit && (tgIx tg).all (fun i => own.contains i) &&
        chkTg N (relS scope sc) (owB scope) tg ptg && chkE T G N (relS scope sc) (owB scope) elt pelt && (match pifs with
        | [] => isTrueLit cond
        | [pc] => tokB pc && chkE T G N (relS scope sc) (owB scope) cond pc
        | _ => false)
    | _ => false)
  | .cell e, pe => chkE T G N sc ow e pe
  | .dnew _, _ => false
def chkEs (T : Nat → Option Def) (G : Str → Option D) (N : List Str) (sc : Scope) (ow : Str → Bool) : Es → List Expr → Bool
  | .nil, ps => ps.isEmpty
  | .cons e es, ps => (match ps with
    | p :: ps => !starB p && chkE T G N sc ow e p && chkEs T G N sc ow es ps
    | [] => false)
def chkI (T : Nat → Option Def) (G : Str → Option D) (N : List Str) (sc : Scope) (ow : Str → Bool) (tup : Bool) : It → Expr → Bool
  | .seq e, pe => chkE T G N sc ow e pe
  | .range1 a, pe => (match pe with
    | .Call (.Name x _) [pa] [] _ => x == "range" && glB sc x && !starB pa && chkE T G N sc ow a pa
    | _ => false)
  | .range2 a b, pe => (match pe with
    | .Call (.Name x _) [pa, pb] [] _ => x == "range" && glB sc x && !starB pa && !starB pb && chkE T G N sc ow a pa && chkE T G N sc ow b pb
    | _ => false)
  | .zip a b, pe => (match pe with
    | .Call (.Name x _) [pa, pb] [] _ => tup && x == "zip" && glB sc x && !starB pa && !starB pb && chkE T G N sc ow a pa && chkE T G N sc ow b pb
    | _ => false)
end
end MP

/-! The expressions are sound, one form after another. -/
namespace MP
open PySem PySem.Spec PyProof.Rows L2

section
variable {C : Con} {N : List Str} {X : Cx} {sc : Scope} {ow : Str → Bool} {ew : L2.St → XK}
theorem sd_var {i : Nat} {pe : Expr} (g : Good C N X sc ow ew) (h : chkE C.T C.G N sc ow (.var i) pe = true) : Sd C X ew (.var i) pe := by
  unfold chkE at h
  split at h
  · rename_i x pos
    simp only [Bool.and_eq_true, beq_iff_eq] at h
    obtain ⟨⟨h1, h2⟩, h3⟩ := h
    refine Sd.plain ((pe_var (i := i) (by rw [g.hN]; exact h1) (by rw [g.sc]; exact vis_of h2) (ok1 h3).1 (ok1 h3).2).imp fun σ H Q ⟨F, ad, env, st, r, en, ok⟩ => ?_) rfl
    unfold evX at ok
    split at ok
    · rename_i d e
      obtain ⟨v, e1, e2⟩ := en.at_ i d e
      exact ⟨v, e1, ok.val r e2⟩
    · exact ok.elim
  · cases h
theorem sd_lit {d : D} {pe : Expr} (h : litB d pe = true) : Sd C X ew (.lit d) pe := by
  have key : ∀ {pe : Expr} {v : V}, PE X pe (tC v) → (∀ F ad, Rep X.K F ad v d) → PE X pe (tX C X ew (.lit d)) := fun hp hr => hp.imp fun σ H Q ⟨F, ad, env, st, r, en, ok⟩ => by
    unfold evX at ok
    exact ok.val r (hr F ad)
  unfold litB at h
  split at h
  · split at h
    · rw [beq_iff_eq] at h
      subst h
      exact Sd.plain (key pe_int fun _ _ => .int _) rfl
    · rw [beq_iff_eq] at h
      subst h
      refine Sd.plain ((pe_un un_neg pe_int).imp fun σ H Q ⟨F, ad, env, st, r, en, ok⟩ => ?_) rfl
      unfold evX at ok
      exact ⟨_, rfl, ok.val r (.int _)⟩
    · cases h
  · split at h
    · rw [beq_iff_eq] at h
      subst h
      exact Sd.plain (key pe_bl fun _ _ => .bool _) rfl
    · cases h
  · split at h
    · exact Sd.plain (key pe_non fun _ _ => .none) rfl
    · cases h
  · split at h
    · rw [beq_iff_eq] at h
      subst h
      exact Sd.plain (key pe_str fun _ _ => .str _) rfl
    · cases h
  · cases h
theorem sd_glob {x : Str} {d : D} {pe : Expr} (g : Good C N X sc ow ew) (h : chkE C.T C.G N sc ow (.glob x d) pe = true) : Sd C X ew (.glob x d) pe := by
  unfold chkE at h
  split at h
  · rename_i y pos
    simp only [Bool.and_eq_true, beq_iff_eq] at h
    obtain ⟨⟨⟨h1, h2⟩, h3⟩, h4⟩ := h
    subst h1
    split at h4
    · rename_i d' e
      obtain ⟨u, v, e1, e2, e3⟩ := g.facts.glo _ _ e
      refine Sd.plain ((pe_glob (gl_of g.sc h2) e1 e2 (ok1 h3).1).imp fun σ H Q ⟨F, ad, env, st, r, en, ok⟩ => ?_) rfl
      unfold evX at ok
      rw [D.same_eq h4] at ok
      exact ok.val r (e3 F ad)
    · cases h4
  · cases h
theorem sd_bin {o : BOp} {a b : E} {pa pb : Expr} {pos : Pos} (ha : Sd C X ew a pa) (hb : Sd C X ew b pb) : Sd C X ew (.bin o a b) (.BinOp pa (bopOf o) pb pos) := by
  refine Sd.plain ((pe_op (fun pins s σ H x y v u Q I rx ry (q : ∃ σ : L2.St, rBin X.K C.cls (ew σ) (binV o) x y H Q) => ?_) ha.ex hb.ex).imp fun σ H Q ⟨F, ad, env, st, r, en, ok⟩ => ?_) rfl
  · obtain ⟨σ', q⟩ := q
    exact op_bin (cls := C.cls) (ew := ew σ') o pins s σ H x y v u Q I rx ry q
  · unfold evX at ok
    refine ⟨F, ad, env, st, r, en, ok.bindF fun x st1 F1 ad1 H1 v s1 r1 x1 ok1 => ?_⟩
    refine ⟨F1, ad1, env, st1, r1, en.step s1, ok1.bindF fun y st2 F2 ad2 H2 w s2 r2 y2 ok2 => ?_⟩
    exact ⟨σ, F2, ad2, st2, x.d, y.d, r2, x1.step s2, y2, ok2⟩
theorem units_ok (g : Good C N X sc ow ew) : X.A.units + 65 < cLine := by
  have := g.room.un
  omega
theorem sd_cmp {o : COp} {a b : E} {pa pb : Expr} {pos : Pos} (g : Good C N X sc ow ew) (ha : Sd C X ew a pa) (hb : Sd C X ew b pb) (hm : behindInMarks (copOf o) pb = false) : Sd C X ew (.cmp o a b) (.Compare pa [copOf o] [pb] pos) := by
  have key : ∀ {σ : L2.St} {H : Hp} {Q : VK}, tX C X ew (.cmp o a b) σ H Q → tOp (rCmp X.K o) (tX C X ew a) (tX C X ew b) σ H Q := fun {σ H Q} ⟨F, ad, env, st, r, en, ok⟩ => by
    unfold evX at ok
    refine ⟨F, ad, env, st, r, en, ok.bindF fun x st1 F1 ad1 H1 v s1 r1 x1 ok1 => ?_⟩
    refine ⟨F1, ad1, env, st1, r1, en.step s1, ok1.bindF fun y st2 F2 ad2 H2 w s2 r2 y2 ok2 => ?_⟩
    refine ⟨F2, ad2, st2, x.d, y.d, r2, x1.step s2, y2, ?_⟩
    split at ok2
    · rename_i c e
      exact ⟨c, e, ok2.val r2 (.bool c)⟩
    · exact ok2.elim
  refine ⟨(pe_cmpR (op_cmp (units_ok g) o) ha.ex hb.ex hm).imp fun σ H Q q => key q, fun _ => (pt_cmpR (op_cmp (units_ok g) o) ha.ex hb.ex hm).imp fun σ H Q q => key q, fun q => by cases q⟩
theorem sd_chain {o p : COp} {a b c : E} {pa pb pc : Expr} {pos : Pos} (g : Good C N X sc ow ew) (ha : Sd C X ew a pa) (hb : Sd C X ew b pb) (hc : Sd C X ew c pc) (hm : lastMarks [copOf o, copOf p] [pb, pc] = false) : Sd C X ew (.chain o p a b c) (.Compare pa [copOf o, copOf p] [pb, pc] pos) := by
  have key : ∀ {σ : L2.St} {H : Hp} {Q : VK}, tX C X ew (.chain o p a b c) σ H Q → tChain (rCmp X.K o) (rCmp X.K p) (tX C X ew a) (tX C X ew b) (tX C X ew c) σ H Q := fun {σ H Q} ⟨F, ad, env, st, r, en, ok⟩ => by
    unfold evX at ok
    refine ⟨F, ad, env, st, r, en, ok.bindF fun x st1 F1 ad1 H1 v s1 r1 x1 ok1 => ?_⟩
    refine ⟨F1, ad1, env, st1, r1, en.step s1, ok1.bindF fun y st2 F2 ad2 H2 w s2 r2 y2 ok2 => ?_⟩
    split at ok2
    · rename_i e
      refine ⟨F2, ad2, st2, x.d, y.d, r2, x1.step s2, y2, true, e, true, rfl, ?_⟩
      rw [if_pos rfl]
      refine ⟨F2, ad2, env, st2, r2, (en.step s1).step s2, ok2.bindF fun z st3 F3 ad3 H3 u s3 r3 z3 ok3 => ?_⟩
      refine ⟨F3, ad3, st3, y.d, z.d, r3, y2.step s3, z3, ?_⟩
      split at ok3
      · rename_i k e'
        exact ⟨k, e', ok3.val r3 (.bool k)⟩
      · exact ok3.elim
    · rename_i e
      refine ⟨F2, ad2, st2, x.d, y.d, r2, x1.step s2, y2, false, e, false, rfl, ?_⟩
      rw [if_neg (by decide)]
      exact ok2.val r2 (.bool false)
    · exact ok2.elim
  refine ⟨(pe_chain (op_cmp (units_ok g) o) (op_cmp (units_ok g) p) ha.ex hb.ex hc.ex hm).imp fun σ H Q q => key q, fun _ => (pt_chain (op_cmp (units_ok g) o) (op_cmp (units_ok g) p) ha.ex hb.ex hc.ex hm).imp fun σ H Q q => key q, fun q => by cases q⟩

/-- a reading as a test -/
theorem tB_of {t : TE} {σ : L2.St} {H : Hp} {Q : Bool → Hp → Prop} (h : t σ H fun x H1 => ∃ c, x = .bl c ∧ Q c H1) : tB t σ H Q := h
/-- and: the first part, then the second -/
theorem land_key {a b : E} {σ : L2.St} {H : Hp} {Q : VK} (h : tX C X ew (.land a b) σ H Q) : tX C X ew a σ H fun x H1 => ∃ c, x = .bl c ∧ if c = true then tX C X ew b σ H1 Q else Q (.bl false) H1 := by
  obtain ⟨F, ad, env, st, r, en, ok⟩ := h
  unfold evX at ok
  refine ⟨F, ad, env, st, r, en, ok.bindF fun x st1 F1 ad1 H1 v s1 r1 x1 ok1 => ?_⟩
  split at ok1
  · cases x1
    exact ⟨true, rfl, by rw [if_pos rfl]; exact ⟨F1, ad1, env, st1, r1, en.step s1, ok1⟩⟩
  · cases x1
    exact ⟨false, rfl, by rw [if_neg (by decide)]; exact ok1.val r1 (.bool false)⟩
  · exact ok1.elim
theorem lor_key {a b : E} {σ : L2.St} {H : Hp} {Q : VK} (h : tX C X ew (.lor a b) σ H Q) : tX C X ew a σ H fun x H1 => ∃ c, x = .bl c ∧ if c = true then Q (.bl true) H1 else tX C X ew b σ H1 Q := by
  obtain ⟨F, ad, env, st, r, en, ok⟩ := h
  unfold evX at ok
  refine ⟨F, ad, env, st, r, en, ok.bindF fun x st1 F1 ad1 H1 v s1 r1 x1 ok1 => ?_⟩
  split at ok1
  · cases x1
    exact ⟨false, rfl, by rw [if_neg (by decide)]; exact ⟨F1, ad1, env, st1, r1, en.step s1, ok1⟩⟩
  · cases x1
    exact ⟨true, rfl, by rw [if_pos rfl]; exact ok1.val r1 (.bool true)⟩
  · exact ok1.elim
theorem ite_mono {c : Bool} {A B A' B' : Prop} (h : if c = true then A else B) (h1 : A → A') (h2 : B → B') : if c = true then A' else B' := by
  cases c with
  | true => rw [if_pos rfl] at h ⊢; exact h1 h
  | false => rw [if_neg (by decide)] at h ⊢; exact h2 h
/-- the wanted end weakened -/
theorem tX_mono {e : E} {σ : L2.St} {H : Hp} {Q Q' : VK} (h : tX C X ew e σ H Q) (i : ∀ x H1, Q x H1 → Q' x H1) : tX C X ew e σ H Q' := by
  obtain ⟨F, ad, env, st, r, en, ok⟩ := h
  refine ⟨F, ad, env, st, r, en, ?_⟩
  cases q : evX (run C.T C.k) e env st with
  | ok x st' => rw [q] at ok; exact fun F' ad' H' v s r' x' => i _ _ (ok F' ad' H' v s r' x')
  | err c st' => rw [q] at ok; exact ok
  | stuck => rw [q] at ok; exact ok
theorem sd_land {a b : E} {pa pb : Expr} {rest : List Expr} {pos : Pos} (ha : Sd C X ew a pa) (ta : tokB pa = true)
    (hb : PE X (.BoolOp .And (pb :: rest) pos) (tX C X ew b)) (hw : PW X (.BoolOp .And (pb :: rest) pos) (tB (tX C X ew b))) : Sd C X ew (.land a b) (.BoolOp .And (pa :: pb :: rest) pos) := by
  have w : PW X (.BoolOp .And (pa :: pb :: rest) pos) (tB (tX C X ew (.land a b))) := (pw_and (ha.tst ta) hw).imp fun σ H Q h => by
    refine tX_mono (land_key h) fun x H1 ⟨c, e, q⟩ => ⟨c, e, ite_mono q (fun z => z) fun ⟨c', e', z⟩ => by cases e'; exact z⟩
  exact ⟨(pe_and ha.ex hb).imp fun σ H Q h => land_key h, fun _ => w.pt, fun _ => w⟩
theorem sd_lor {a b : E} {pa pb : Expr} {rest : List Expr} {pos : Pos} (ha : Sd C X ew a pa) (ta : tokB pa = true)
    (hb : PE X (.BoolOp .Or (pb :: rest) pos) (tX C X ew b)) (hw : PW X (.BoolOp .Or (pb :: rest) pos) (tB (tX C X ew b))) : Sd C X ew (.lor a b) (.BoolOp .Or (pa :: pb :: rest) pos) := by
  have w : PW X (.BoolOp .Or (pa :: pb :: rest) pos) (tB (tX C X ew (.lor a b))) := (pw_or (ha.tst ta) hw).imp fun σ H Q h => by
    refine tX_mono (lor_key h) fun x H1 ⟨c, e, q⟩ => ⟨c, e, ite_mono q (fun ⟨c', e', z⟩ => by cases e'; exact z) fun z => z⟩
  exact ⟨(pe_or ha.ex hb).imp fun σ H Q h => lor_key h, fun _ => w.pt, fun _ => w⟩
theorem sd_lnot {a : E} {pa : Expr} {pos : Pos} (ha : Sd C X ew a pa) (ta : tokB pa = true) : Sd C X ew (.lnot a) (.UnaryOp .Not pa pos) := by
  have key : ∀ {σ : L2.St} {H : Hp} {Q : VK}, tX C X ew (.lnot a) σ H Q → tX C X ew a σ H fun x H1 => ∃ c, x = .bl c ∧ Q (.bl (!c)) H1 := fun {σ H Q} ⟨F, ad, env, st, r, en, ok⟩ => by
    unfold evX at ok
    refine ⟨F, ad, env, st, r, en, ok.bindF fun x st1 F1 ad1 H1 v s1 r1 x1 ok1 => ?_⟩
    split at ok1
    · cases x1
      exact ⟨_, rfl, ok1.val r1 (.bool _)⟩
    · exact ok1.elim
  refine ⟨(pe_not ha.ex).imp fun σ H Q h => key h, fun _ => (pt_not (ha.tst ta)).imp fun σ H Q h => ?_, fun q => by cases q⟩
  exact tX_mono (key h) fun x H1 ⟨c, e, c', e', q⟩ => ⟨c, e, by cases e'; exact q⟩
theorem sd_ite {c a b : E} {pc pa pb : Expr} {pos : Pos} (hc : Sd C X ew c pc) (tc : tokB pc = true) (ha : Sd C X ew a pa) (hb : Sd C X ew b pb) : Sd C X ew (.ite c a b) (.IfExp pc pa pb pos) := by
  refine ⟨(pe_ifExp (hc.tst tc) ha.ex hb.ex).imp fun σ H Q ⟨F, ad, env, st, r, en, ok⟩ => ?_, fun q => (by cases q), fun q => by cases q⟩
  unfold evX at ok
  refine ⟨F, ad, env, st, r, en, ok.bindF fun x st1 F1 ad1 H1 v s1 r1 x1 ok1 => ?_⟩
  split at ok1
  · cases x1
    exact ⟨true, rfl, iteT ⟨F1, ad1, env, st1, r1, en.step s1, ok1⟩⟩
  · cases x1
    exact ⟨false, rfl, iteF ⟨F1, ad1, env, st1, r1, en.step s1, ok1⟩⟩
  · exact ok1.elim
/-! lists of expressions -/
theorem sd_nil : PA X [] (tXs C X ew .nil) := pa_nil.imp fun σ H Q ⟨F, ad, env, st, r, en, ok⟩ => by
  unfold evXs at ok
  exact ok F ad H [] (Step.refl _ _ _) r .nil
theorem sd_cons {e : E} {es : Es} {p : Expr} {ps : List Expr} (h : Sd C X ew e p) (hs : PA X ps (tXs C X ew es)) (hst : starB p = false) : PA X (p :: ps) (tXs C X ew (.cons e es)) :=
  (pa_cons h.ex hs (star_each hst)).imp fun σ H Q ⟨F, ad, env, st, r, en, ok⟩ => by
    unfold evXs at ok
    refine ⟨F, ad, env, st, r, en, ok.bindF fun x st1 F1 ad1 H1 v s1 r1 x1 ok1 => ?_⟩
    refine ⟨F1, ad1, env, st1, r1, en.step s1, ok1.bindL fun xs st2 F2 ad2 H2 vs s2 r2 xs2 ok2 => ?_⟩
    exact ok2 F2 ad2 H2 _ (Step.refl _ _ _) r2 (.cons (x1.step s2) xs2)
theorem sd_tup {es : Es} {ps : List Expr} {x1} {pos : Pos} (hs : PA X ps (tXs C X ew es)) : Sd C X ew (.tup es) (.Tuple ps x1 pos) := by
  refine Sd.plain ((pe_tup hs).imp fun σ H Q ⟨F, ad, env, st, r, en, ok⟩ => ?_) rfl
  unfold evX at ok
  refine ⟨F, ad, env, st, r, en, ok.bindL fun xs st2 F2 ad2 H2 vs s2 r2 xs2 ok2 => ?_⟩
  obtain ⟨hl, ok2⟩ := ite_ok (X := X) ok2
  exact ⟨by rw [xs2.length]; exact hl, fun p hp => ok2.tuple r2 xs2 hp⟩
theorem sd_list {es : Es} {ps : List Expr} {pos : Pos} (hs : PA X ps (tXs C X ew es)) : Sd C X ew (.list es) (.List ps pos) := by
  refine Sd.plain ((pe_lst hs).imp fun σ H Q ⟨F, ad, env, st, r, en, ok⟩ => ?_) rfl
  unfold evX at ok
  refine ⟨F, ad, env, st, r, en, ok.bindL fun xs st2 F2 ad2 H2 vs s2 r2 xs2 ok2 => ?_⟩
  obtain ⟨hl, ok2⟩ := ite_ok (X := X) ok2
  exact ⟨by rw [xs2.length]; exact hl, fun p hp => ok2.list r2 xs2 hp⟩
theorem sd_ix {a b : E} {pa pb : Expr} {pos : Pos} (ha : Sd C X ew a pa) (hb : Sd C X ew b pb) (hi : plainIxB pb = true) : Sd C X ew (.ix a b) (.Subscript pa pb pos) := by
  refine Sd.plain ((pe_ix ix_D ha.ex hb.ex (plain_ix hi)).imp fun σ H Q ⟨F, ad, env, st, r, en, ok⟩ => ?_) rfl
  unfold evX at ok
  refine ⟨F, ad, env, st, r, en, ok.bindF fun x st1 F1 ad1 H1 v s1 r1 x1 ok1 => ?_⟩
  refine ⟨F1, ad1, env, st1, r1, en.step s1, ok1.bindF fun y st2 F2 ad2 H2 w s2 r2 y2 ok2 => ?_⟩
  split at ok2
  · rename_i d e
    exact ⟨F2, ad2, st2, x.d, y.d, d, r2, x1.step s2, y2, e, fun v hv => ok2.val r2 hv⟩
  · exact ok2.elim
/-- a slice's part -/
theorem po_of {e : E} {po : Option Expr} (h : match po with
    | none => isNoneLit e = true
    | some p => isNoneLit e = false ∧ Sd C X ew e p) : PO X po (fun σ H R => tX C X ew e σ H fun x H1 => if isNoneLit e = true then R none H1 else ∃ i, x = .int i ∧ R (some i) H1) := by
  cases po with
  | none =>
    refine ⟨fun pins s σ H R I q => ?_⟩
    refine po_none.run pins s σ H R I ?_
    have h : isNoneLit e = true := h
    obtain ⟨F, ad, env, st, r, en, ok⟩ := q
    unfold isNoneLit at h
    split at h
    · unfold evX at ok
      have z := ok.val r .none
      exact z
    · cases h
  | some p =>
    obtain ⟨h1, h2⟩ := h
    refine ⟨fun pins s σ H R I q => ?_⟩
    refine (po_some h2.ex).run pins s σ H R I ?_
    refine tX_mono q fun x H1 z => ?_
    rw [h1] at z
    exact z
theorem sd_sl {a lo hi : E} {pa : Expr} {plo phi : Option Expr} {p2 pos : Pos} (ha : Sd C X ew a pa) (hl : match plo with
    | none => isNoneLit lo = true
    | some p => isNoneLit lo = false ∧ Sd C X ew lo p) (hh : match phi with
    | none => isNoneLit hi = true
    | some p => isNoneLit hi = false ∧ Sd C X ew hi p) : Sd C X ew (.sl a lo hi) (.Subscript pa (.Slice plo phi none p2) pos) := by
  refine Sd.plain ((pe_slice (r := fun x l u H Q => rSlD X.K C.cls (fun _ _ _ => True) x l u H Q ∨ ∃ σ, rSlD X.K C.cls (ew σ) x l u H Q) (SlR.or sl_D fun pins s σ H x v vl vu l u sl Q I rx hs pl pu ⟨σ', q⟩ => sl_D (cls := C.cls) (ew := ew σ') pins s σ H x v vl vu l u sl Q I rx hs pl pu q) ha.ex (po_of hl) (po_of hh)).imp fun σ H Q ⟨F, ad, env, st, r, en, ok⟩ => ?_) rfl
  unfold evX at ok
  refine ⟨F, ad, env, st, r, en, ok.bindF fun x st1 F1 ad1 H1 v s1 r1 x1 ok1 => ?_⟩
  refine ⟨F1, ad1, env, st1, r1, en.step s1, ok1.bindF fun y st2 F2 ad2 H2 w s2 r2 y2 ok2 => ?_⟩
  have main : ∀ l, partOf lo y.d = some l → tX C X ew hi σ H2 fun x' H3 => if isNoneLit hi = true then (rSlD X.K C.cls (fun _ _ _ => True) v l none H3 Q ∨ ∃ σ, rSlD X.K C.cls (ew σ) v l none H3 Q) else ∃ i, x' = .int i ∧ (rSlD X.K C.cls (fun _ _ _ => True) v l (some i) H3 Q ∨ ∃ σ, rSlD X.K C.cls (ew σ) v l (some i) H3 Q) := fun l el => by
    rw [el] at ok2
    refine ⟨F2, ad2, env, st2, r2, (en.step s1).step s2, ok2.bindF fun z st3 F3 ad3 H3 u s3 r3 z3 ok3 => ?_⟩
    unfold partOf at ok3
    by_cases hn : isNoneLit hi = true
    · rw [if_pos hn] at ok3 ⊢
      exact .inr ⟨σ, F3, ad3, st3, x.d, r3, (x1.step s2).step s3, ok3⟩
    · rw [if_neg hn] at ok3 ⊢
      generalize hz : z.d = zd at *
      cases z3 with
      | int i => exact ⟨i, rfl, .inr ⟨σ, F3, ad3, st3, x.d, r3, (x1.step s2).step s3, ok3⟩⟩
      | _ => exact ok3.elim
  have main2 := main
  unfold partOf at main2
  by_cases hn : isNoneLit lo = true
  · rw [if_pos hn]
    exact main2 none (by rw [if_pos hn])
  · rw [if_neg hn]
    have ok2' := ok2
    unfold partOf at ok2'
    rw [if_neg hn] at ok2'
    generalize hy : y.d = yd at *
    cases y2 with
    | int i => exact ⟨i, rfl, main2 (some i) (by rw [if_neg hn])⟩
    | _ => exact ok2'.elim
end
end MP

/-! Calls of the defs, of built-in functions, of lists' methods. -/
namespace MP
open PySem PySem.Spec PyProof.Rows L2

def nostar : List Expr → Bool
  | [] => true
  | e :: es => !starB e && nostar es
theorem back_any {pos : Pos} {env : PySem.Env} : ∀ {es : List Expr}, nostar es = true → (backTo pos (starEach es env)).any (·.1) = false
  | [], _ => rfl
  | e :: es, h => by
    unfold nostar at h
    simp only [Bool.and_eq_true, Bool.not_eq_true'] at h
    rw [star_each h.1]
    show (false || (backTo pos (starEach es env)).any (·.1)) = false
    rw [back_any h.2]; rfl
theorem back_all {pos : Pos} {env : PySem.Env} : ∀ {es : List Expr}, nostar es = true → (backTo pos (starEach es env)).all (fun x => !x.1) = true
  | [], _ => rfl
  | e :: es, h => by
    unfold nostar at h
    simp only [Bool.and_eq_true, Bool.not_eq_true'] at h
    rw [star_each h.1]
    show (true && (backTo pos (starEach es env)).all (fun x => !x.1)) = true
    rw [back_all h.2]; rfl
section
variable {C : Con} {N : List Str} {X : Cx} {sc : Scope} {ow : Str → Bool} {ew : L2.St → XK}
theorem pe_callS0 {CX : CXT} {k : Nat} {f : Addr} {fd : FuncData} {ps : List Str} {sp : Sp} {E : L2.St → XK} {x : Str} {p pos : Pos} (F : FnOk X.prog X.w X.K X.mg X.base CX k f fd ps sp) (hr : Room k X.A) (hg : Gl X x) (hm : X.mg x = some (.ref f)) (hk : PySem.W.keepIn X.K (.ref f) = true) (hb : Binds X.K fd ps []) (hx : ∀ σ, PassesAt CX X σ (E σ))
    (hdb : (x == ("__debug__" : Str)) = false) : PE X (.Call (.Name x p) [] [] pos) (tCallS sp E tNil) := by
  refine ⟨fun pins s σ H Q I h => ?_⟩
  refine wpAny_Call_Name_kw (ld_glob I hg hm ?_ hdb)
  exact PySem.W.callWith_K0 I.kIn hk (run_fnS (us := []) F hr hb (hx σ) I .nil h)
theorem sd_callG {e : E} {f : Nat} {d : Def} {es : Es} {x : Str} {p pos : Pos} {ps : List Expr} (g : Good C N X sc ow ew) (hT : C.T f = some d) (hn : d.name = x) (ho : okN x = true) (hs : glB sc x = true) (ha : PA X ps (tXs C X ew es)) (ns : nostar ps = true) (hz : ps = [] → es = .nil)
    (key : ∀ σ H Q, tX C X ew e σ H Q → tXs C X ew es σ H fun vs H1 => spF C X.K C.k f vs H1 Q (ew σ)) : Sd C X ew e (.Call (.Name x p) ps [] pos) := by
  obtain ⟨a, fd, F, hm, hk, hb⟩ := g.facts.fns f d hT
  rw [hn] at hm
  refine Sd.plain ?_ rfl
  cases ps with
  | nil =>
    refine (pe_callS0 F g.room (gl_of g.sc hs) hm hk hb g.pass (ok1 ho).1).imp fun σ H Q q => ?_
    have q1 := key σ H Q q
    rw [hz rfl] at q1
    obtain ⟨F, ad, env, st, r, en, ok⟩ := q1
    unfold evXs at ok
    exact ok F ad H [] (Step.refl _ _ _) r .nil
  | cons p0 ps =>
    unfold nostar at ns
    simp only [Bool.and_eq_true, Bool.not_eq_true'] at ns
    exact (pe_callS F g.room (gl_of g.sc hs) hm hk hb g.pass ha (ok1 ho).1 (star_each ns.1) (back_any ns.2)).imp fun σ H Q q => key σ H Q q
theorem key_call {f : Nat} {es : Es} {σ : L2.St} {H : Hp} {Q : VK} (h : tX C X ew (.call f es) σ H Q) : tXs C X ew es σ H fun vs H1 => spF C X.K C.k f vs H1 Q (ew σ) := by
  obtain ⟨F, ad, env, st, r, en, ok⟩ := h
  unfold evX at ok
  refine ⟨F, ad, env, st, r, en, ok.bindL fun xs st2 F2 ad2 H2 vs s2 r2 xs2 ok2 => ?_⟩
  obtain ⟨F1, ts, h1, h2, h3⟩ := callP_ok ok2 r2 xs2
  exact ⟨F1, [], [], ts, h1, h2, h3⟩
theorem key_callC {f : Nat} {es : Es} {σ : L2.St} {H : Hp} {Q : VK} (h : tX C X ew (.callC f es) σ H Q) : tXs C X ew es σ H fun vs H1 => spF C X.K C.k f vs H1 Q (ew σ) := by
  obtain ⟨F, ad, env, st, r, en, ok⟩ := h
  unfold evX at ok
  refine ⟨F, ad, env, st, r, en, ok.bindL fun xs st2 F2 ad2 H2 vs s2 r2 xs2 ok2 => ?_⟩
  obtain ⟨F1, ts, h1, h2, h3⟩ := callC_ok ok2 r2 xs2
  exact ⟨F1, [], [], ts, h1, h2, h3⟩
theorem key_callS {f : Nat} {es : Es} {σ : L2.St} {H : Hp} {Q : VK} (h : tX C X ew (.callS f es) σ H Q) : tXs C X ew es σ H fun vs H1 => spF C X.K C.k f vs H1 Q (ew σ) := by
  obtain ⟨F, ad, env, st, r, en, ok⟩ := h
  unfold evX at ok
  refine ⟨F, ad, env, st, r, en, ok.bindL fun xs st2 F2 ad2 H2 vs s2 r2 xs2 ok2 => ?_⟩
  exact ⟨F2, ad2, st2, xs, r2, xs2, callS_ok ok2⟩
/-! built-in functions -/
theorem bi_call {f : BI} {x : Str} (hc : X.calm = true) (h : chkBI f x = true) : x ∈ bnames ∧ x ≠ "__name__" ∧ (x == ("__debug__" : Str)) = false ∧
    ((∃ id, bootBuiltins x = some (.builtin id) ∧ ∀ cls ew, CallR X (.builtin id) (rBi X.K cls ew (biV f))) ∨ ∃ T, bootBuiltins x = some (.type T) ∧ ∀ cls ew, CallR X (.type T) (rBi X.K cls ew (biV f))) := by
  cases f with
  | len => have e : x = "len" := beq_iff_eq.mp h; subst e; exact ⟨by decide, by decide, by decide, .inl ⟨_, by decide +kernel, fun cls ew => cr_lenD⟩⟩
  | listOf => have e : x = "list" := beq_iff_eq.mp h; subst e; exact ⟨by decide, by decide, by decide, .inr ⟨_, boot_list, fun cls ew => cr_listD hc⟩⟩
  | tupleOf => have e : x = "tuple" := beq_iff_eq.mp h; subst e; exact ⟨by decide, by decide, by decide, .inr ⟨_, boot_tuple, fun cls ew => cr_tupleD⟩⟩
  | sorted => have e : x = "sorted" := beq_iff_eq.mp h; subst e; exact ⟨by decide, by decide, by decide, .inl ⟨_, boot_sorted, fun cls ew => cr_sortedD⟩⟩
  | sum => have e : x = "sum" := beq_iff_eq.mp h; subst e; exact ⟨by decide, by decide, by decide, .inl ⟨_, boot_sum, fun cls ew => cr_sumD hc⟩⟩
  | any => have e : x = "any" := beq_iff_eq.mp h; subst e; exact ⟨by decide, by decide, by decide, .inl ⟨_, boot_any, fun cls ew => cr_anyD hc⟩⟩
  | all => have e : x = "all" := beq_iff_eq.mp h; subst e; exact ⟨by decide, by decide, by decide, .inl ⟨_, boot_all, fun cls ew => cr_allD hc⟩⟩
  | max2 => have e : x = "max" := beq_iff_eq.mp h; subst e; exact ⟨by decide, by decide, by decide, .inl ⟨_, boot_max, fun cls ew => cr_max2D hc⟩⟩
  | maxL => have e : x = "max" := beq_iff_eq.mp h; subst e; exact ⟨by decide, by decide, by decide, .inl ⟨_, boot_max, fun cls ew => cr_maxLD hc⟩⟩
  | minL => have e : x = "min" := beq_iff_eq.mp h; subst e; exact ⟨by decide, by decide, by decide, .inl ⟨_, boot_min, fun cls ew => cr_minLD hc⟩⟩
  | toInt => have e : x = "int" := beq_iff_eq.mp h; subst e; exact ⟨by decide, by decide, by decide, .inr ⟨_, boot_int, fun cls ew => cr_toIntD⟩⟩
  | _ => cases h
theorem key_bi {f : BI} {es : Es} {σ : L2.St} {H : Hp} {Q : VK} (h : tX C X ew (.bi f es) σ H Q) : tXs C X ew es σ H fun vs H1 => ∃ σ', rBi X.K C.cls (ew σ') (biV f) vs H1 Q := by
  obtain ⟨F, ad, env, st, r, en, ok⟩ := h
  unfold evX at ok
  refine ⟨F, ad, env, st, r, en, ok.bindL fun xs st2 F2 ad2 H2 vs s2 r2 xs2 ok2 => ?_⟩
  exact ⟨σ, F2, ad2, st2, xs, r2, xs2, ok2⟩
theorem sd_bi {f : BI} {es : Es} {x : Str} {p pos : Pos} {p0 : Expr} {ps : List Expr} (g : Good C N X sc ow ew) (hf : chkBI f x = true) (hs : glB sc x = true) (ha : PA X (p0 :: ps) (tXs C X ew es)) (ns : nostar (p0 :: ps) = true) : Sd C X ew (.bi f es) (.Call (.Name x p) (p0 :: ps) [] pos) := by
  unfold nostar at ns
  simp only [Bool.and_eq_true, Bool.not_eq_true'] at ns
  obtain ⟨h1, h2, h3, h4⟩ := bi_call g.calm hf
  refine Sd.plain ?_ rfl
  rcases h4 with ⟨id, hb, hc⟩ | ⟨T, hb, hc⟩
  · exact (pe_callB (r := fun vs H Q => ∃ σ', rBi X.K C.cls (ew σ') (biV f) vs H Q) (fun pins s σ H xs us Q I rv ⟨σ', q⟩ => hc _ _ pins s σ H xs us Q I rv q) (gl_of g.sc hs) (g.facts.blt x h1) hb ha h2 h3 (star_each ns.1) (back_any ns.2)).imp fun σ H Q q => key_bi q
  · exact (pe_callTy (r := fun vs H Q => ∃ σ', rBi X.K C.cls (ew σ') (biV f) vs H Q) (fun pins s σ H xs us Q I rv ⟨σ', q⟩ => hc _ _ pins s σ H xs us Q I rv q) (gl_of g.sc hs) (g.facts.blt x h1) hb ha h2 h3 (star_each ns.1) (back_any ns.2)).imp fun σ H Q q => key_bi q
theorem chkTy_of {T : String} {y : Str} (h : chkTy T y = true) : (T = "bool" ∨ T = "int" ∨ T = "str" ∨ T = "list" ∨ T = "tuple") ∧ bootBuiltins y = some (.type T) ∧ y ∈ bnames ∧ y ≠ "__name__" ∧ (y == ("__debug__" : Str)) = false := by
  unfold chkTy at h
  simp only [Bool.or_eq_true, Bool.and_eq_true, beq_iff_eq] at h
  rcases h with (((⟨rfl, rfl⟩ | ⟨rfl, rfl⟩) | ⟨rfl, rfl⟩) | ⟨rfl, rfl⟩) | ⟨rfl, rfl⟩
  · exact ⟨by decide, boot_bool, by decide, by decide, by decide⟩
  · exact ⟨by decide, boot_int, by decide, by decide, by decide⟩
  · exact ⟨by decide, boot_str, by decide, by decide, by decide⟩
  · exact ⟨by decide, boot_list, by decide, by decide, by decide⟩
  · exact ⟨by decide, boot_tuple, by decide, by decide, by decide⟩
theorem one_Reps {K : PySem.W.Frag} {cls : Str → Option Addr} {ew : XK} {F : Hp} {ad : List Addr} {H : Hp} {vs : List V} {ds : List D} {f : D → R Val} {Q : VK} (h : Reps K F ad vs ds) (ok : OkV K cls ew F ad H (one ds f) Q) : ∃ v, vs = [v] := by
  cases h with
  | nil => exact ok.elim
  | cons h t =>
    cases t with
    | nil => exact ⟨_, rfl⟩
    | cons _ _ => exact ok.elim
theorem sd_isi {T : String} {e : E} {y : Str} {p q pos : Pos} {pa : Expr} (g : Good C N X sc ow ew) (hT : chkTy T y = true) (hs : glB sc "isinstance" = true) (hy : glB sc y = true) (ha : Sd C X ew e pa) (ns : starB pa = false) : Sd C X ew (.bi (.isinst T) (.cons e .nil)) (.Call (.Name "isinstance" p) [pa, .Name y q] [] pos) := by
  obtain ⟨h1, h2, h3, h4, h5⟩ := chkTy_of hT
  refine Sd.plain ?_ rfl
  have hp : PE X (.Name y q) (tC (.ty T)) := pe_bltn (gl_of g.sc hy) (g.facts.blt y h3) h2 (v := .ty T) rfl h4 h5
  have ha2 : PA X [pa, .Name y q] (tCons (tX C X ew e) (tCons (tC (.ty T)) tNil)) := pa_cons ha.ex (pa_cons hp pa_nil) (star_each ns)
  refine (pe_callB (r := fun vs H Q => ∃ σ', rIsiD X.K C.cls (ew σ') T vs H Q) (fun pins s σ H xs us Q I rv ⟨σ', q⟩ => cr_isiD T h1 pins s σ H xs us Q I rv q) (gl_of g.sc hs) (g.facts.blt "isinstance" (by decide)) boot_isinstance ha2 (by decide) (by decide) (star_each ns) (by rfl)).imp fun σ H Q h => ?_
  obtain ⟨F, ad, env, st, r, en, ok⟩ := h
  unfold evX evXs evXs at ok
  show tX C X ew e σ H fun x H1 => ∃ σ', rIsiD X.K C.cls (ew σ') T [x, .ty T] H1 Q
  refine ⟨F, ad, env, st, r, en, ?_⟩
  cases q : evX (run C.T C.k) e env st with
  | stuck => rw [q] at ok; exact ok
  | err c st' => rw [q] at ok; exact ok
  | ok x st' =>
    rw [q] at ok
    intro F' ad' H' v s r' xr
    obtain ⟨F'', s', r'', xr'⟩ := freezeX s r' xr
    exact ⟨σ, v, rfl, F'', ad', st', [x.d], r'', .cons xr' .nil, OkV.step s' ok⟩
/-- list(range(n)) -/
theorem sd_lrange {e : E} {p q pos pos2 : Pos} {pa : Expr} (g : Good C N X sc ow ew) (hs : glB sc "list" = true) (hy : glB sc "range" = true) (ha : Sd C X ew e pa) (ns : starB pa = false) : Sd C X ew (.bi .range1 (.cons e .nil)) (.Call (.Name "list" p) [.Call (.Name "range" q) [pa] [] pos2] [] pos) := by
  refine Sd.plain ?_ rfl
  have ha1 : PA X [pa] (tCons (tX C X ew e) tNil) := pa_cons ha.ex pa_nil (star_each ns)
  have hr := pe_callTy (pos := pos2) (p := q) cr_range1 (gl_of g.sc hy) (g.facts.blt "range" (by decide)) boot_range ha1 (by decide) (by decide) (star_each ns) (by rfl)
  have ha2 := pa_cons hr pa_nil
  refine (pe_callTy (cr_listR g.calm) (gl_of g.sc hs) (g.facts.blt "list" (by decide)) boot_list ha2 (by decide) (by decide)).imp fun σ H Q h => ?_
  obtain ⟨F, ad, env, st, r, en, ok⟩ := h
  unfold evX evXs evXs at ok
  show tX C X ew e σ H fun x H1 => ∃ i, [x] = [V.int i] ∧ ∀ p, H1 p = none → ∃ p', ∃ lo hi, [V.ref p] = [V.ref p'] ∧ (upd H1 p (.rng 0 i)) p' = some (.rng lo hi) ∧ _ ∧ ∀ q, (upd H1 p (.rng 0 i)) q = none → Q (.ref q) (upd (upd H1 p (.rng 0 i)) q (.lst ((rangeI lo (hi - lo).toNat).map V.int)))
  refine ⟨F, ad, env, st, r, en, ?_⟩
  cases q : evX (run C.T C.k) e env st with
  | stuck => rw [q] at ok; exact ok
  | err c st' => rw [q] at ok; exact ok
  | ok x st' =>
    rw [q] at ok
    intro F' ad' H' v s r' xr
    obtain ⟨F'', s', r'', xr'⟩ := freezeX s r' xr
    have ok2 : OkV X.K C.cls (ew σ) F'' ad' H' (range1V x.d st') Q := OkV.step s' ok
    generalize x.d = d at *
    unfold range1V at ok2
    split at ok2
    · cases xr'
      rename_i n
      obtain ⟨⟨hz1, hz2⟩, ok2⟩ := ite_ok (X := X) ok2
      have hsz : sizeLine = 16777216 := sizeLine_eq
      refine ⟨n, rfl, fun p hp => ⟨p, 0, n, rfl, upd_same, ⟨by omega, by omega, by omega, by omega, by omega⟩, fun q hq => ?_⟩⟩
      rw [Int.sub_zero]
      have s2 : Step F'' ad' H' F'' ad' (upd H' p (.rng 0 n)) := Step.beside hp
      exact OkV.list (OkV.step s2 ok2) (r''.beside hp) (reps_ints _) hq
    · exact ok2.elim
/-! methods of lists -/
theorem tyL {K : PySem.W.Frag} {F : Hp} {ad : List Addr} {st : Sto} {H : Hp} {v : V} {d : D} (r : RelS K F ad st H) (h : Rep K F ad v d) (e : (listOf st d).isSome = true) : tyV K "list" v H := by
  cases q : listOf st d with
  | none => rw [q] at e; cases e
  | some xs =>
    obtain ⟨a, vs, rfl, ha, _⟩ := listOf_rep r h q
    exact .inl ⟨rfl, _, SqL.of ha⟩
theorem key_mt {m : MT} {o : E} {es : Es} {σ : L2.St} {H : Hp} {Q : VK} (hm : ∀ d st, mtIs m d st = true → (listOf st d).isSome = true) (h : tX C X ew (.mt m o es) σ H Q) :
    tX C X ew o σ H fun x H1 => tyV X.K "list" x H1 ∧ tXs C X ew es σ H1 fun xs H2 => ∃ σ', rMt X.K C.cls (ew σ') m x xs H2 Q := by
  obtain ⟨F, ad, env, st, r, en, ok⟩ := h
  unfold evX at ok
  refine ⟨F, ad, env, st, r, en, ok.bindF fun x st1 F1 ad1 H1 v s1 r1 x1 ok1 => ?_⟩
  obtain ⟨hi, ok1⟩ := ite_ok (X := X) ok1
  refine ⟨tyL r1 x1 (hm _ _ hi), F1, ad1, env, st1, r1, en.step s1, ok1.bindL fun xs st2 F2 ad2 H2 vs s2 r2 xs2 ok2 => ?_⟩
  exact ⟨σ, F2, ad2, st2, x.d, xs, r2, x1.step s2, xs2, ok2⟩
theorem sd_mt {m : MT} {o : E} {es : Es} {po : Expr} {y : Str} {apos cpos : Pos} {ps : List Expr} {n : Str} {z : Bool} (g : Good C N X sc ow ew) (hm : mtName m = some (n, z)) (hn : n = y) (hcb : callB po = false) (ho : Sd C X ew o po) (hl : (apos.endLine == cpos.line) = true) (h30 : ps.length < 30) (hz : z = ps.isEmpty) (ha : PA X ps (tXs C X ew es)) (ns : nostar ps = true) (hnil : ps = [] → es = .nil) :
    Sd C X ew (.mt m o es) (.Call (.Attribute po y apos) ps [] cpos) := by
  subst hn
  have go : ∀ {id : String} {p0 : Expr} {pr : List Expr}, ps = p0 :: pr → (∀ d st, mtIs m d st = true → (listOf st d).isSome = true) → Slot "list" n id → typeOf (.builtin id) = pure (.type "method_descriptor") → (∀ cls ew, MtM X id (rMt X.K cls ew m)) → PE X (.Call (.Attribute po n apos) ps [] cpos) (tX C X ew (.mt m o es)) := fun {id p0 pr} e hI hS hty hM => by
    subst e
    have ns2 := ns
    unfold nostar at ns
    simp only [Bool.and_eq_true, Bool.not_eq_true'] at ns
    refine (pe_bm PySem.F.plainAttrs_list hS hty (r := fun x xs H Q => ∃ σ', rMt X.K C.cls (ew σ') m x xs H Q) (fun pins s σ H x xs v us Q I rx rv ⟨σ', q⟩ => hM _ _ pins s σ H x xs v us Q I rx rv q) ho.ex ha (att_base hcb) ?_ hl (star_each ns.1) (back_any ns.2)).imp fun σ H Q q => key_mt hI q
    rw [back_all ns2]
    simp only [Bool.true_and]
    show (([] : List (Option Str × Sem Value)).all (fun x => x.1.isSome) && decide ((p0 :: pr).length + 0 + 0 < 30)) = true
    simpa using h30
  have go0 : ∀ {id : String}, ps = [] → (∀ d st, mtIs m d st = true → (listOf st d).isSome = true) → Slot "list" n id → typeOf (.builtin id) = pure (.type "method_descriptor") → (∀ cls ew, MtM X id (fun x vs H Q => vs = [] ∧ rMt X.K cls ew m x vs H Q)) → PE X (.Call (.Attribute po n apos) ps [] cpos) (tX C X ew (.mt m o es)) := fun {id} e hI hS hty hM => by
    subst e
    have hes := hnil rfl
    subst hes
    refine (pe_bm0 PySem.F.plainAttrs_list hS hty (r := fun x xs H Q => ∃ σ', xs = [] ∧ rMt X.K C.cls (ew σ') m x xs H Q) (fun pins s σ H x xs v us Q I rx rv ⟨σ', q⟩ => hM _ _ pins s σ H x xs v us Q I rx rv q) ho.ex (att_base hcb) hl).imp fun σ H Q q => ?_
    refine tX_mono (key_mt hI q) fun x H1 ⟨h1, F, ad, env, st, r, en, ok⟩ => ⟨h1, ?_⟩
    unfold evXs at ok
    obtain ⟨σ', q⟩ := ok F ad _ [] (Step.refl _ _ _) r .nil
    exact ⟨σ', rfl, q⟩
  have two : (z = false → ∃ p0 pr, ps = p0 :: pr) ∧ (z = true → ps = []) := by
    subst hz
    cases ps with
    | nil => exact ⟨fun z => (nomatch z), fun _ => rfl⟩
    | cons p0 pr => exact ⟨fun _ => ⟨_, _, rfl⟩, fun z => (nomatch z)⟩
  refine Sd.plain ?_ rfl
  cases m with
  | append =>
    cases hm
    obtain ⟨p0, pr, e⟩ := two.1 rfl
    exact go e (fun _ _ h => h) PySem.F.slot_list_append PySem.F.type_list_append fun cls ew => mt_appendD
  | extend =>
    cases hm
    obtain ⟨p0, pr, e⟩ := two.1 rfl
    exact go e (fun _ _ h => h) PySem.F.slot_list_extend PySem.F.type_list_extend fun cls ew => mt_extendD
  | pop0 =>
    cases hm
    exact go0 (two.2 rfl) (fun _ _ h => h) PySem.F.slot_list_pop PySem.F.type_list_pop fun cls ew => mt_pop0D
  | popAt =>
    cases hm
    obtain ⟨p0, pr, e⟩ := two.1 rfl
    exact go e (fun _ _ h => h) PySem.F.slot_list_pop PySem.F.type_list_pop fun cls ew => mt_popAtD
  | insert =>
    cases hm
    obtain ⟨p0, pr, e⟩ := two.1 rfl
    exact go e (fun _ _ h => h) PySem.F.slot_list_insert PySem.F.type_list_insert fun cls ew => mt_insertD
  | reverse =>
    cases hm
    exact go0 (two.2 rfl) (fun _ _ h => h) PySem.F.slot_list_reverse PySem.F.type_list_reverse fun cls ew => fun pins s σ H x xs v us Q I rx rv ⟨_, q⟩ => mt_reverseD pins s σ H x xs v us Q I rx rv q
  | clear =>
    cases hm
    exact go0 (two.2 rfl) (fun _ _ h => h) PySem.F.slot_list_clear PySem.F.type_list_clear fun cls ew => fun pins s σ H x xs v us Q I rx rv ⟨_, q⟩ => mt_clearD pins s σ H x xs v us Q I rx rv q
  | index =>
    cases hm
    obtain ⟨p0, pr, e⟩ := two.1 rfl
    exact go e (fun _ _ h => h) PySem.F.slot_list_index PySem.F.type_list_index fun cls ew => mt_indexD' (units_ok g)
  | _ => cases hm
end
end MP

/-! What is walked; comprehensions. -/
namespace MP
open PySem PySem.Spec PyProof.Rows L2

section
variable {K : PySem.W.Frag} {cls : Str → Option Addr} {ew : XK} {F F1 : Hp} {ad ad1 : List Addr} {H H1 : Hp} {st st1 : Sto} {Q : VK}
theorem OkI.bindF {r : R Val} {f : Val → Sto → R (D × List D)} {QI : MP.D → List MP.D → Hp → List Addr → Hp → Prop} (h : OkI K cls ew F ad H (r.bind f) QI) {Q' : VK}
    (k : ∀ x st' F' ad' H' v, Step F ad H F' ad' H' → RelS K F' ad' st' H' → Rep K F' ad' v x.d → OkI K cls ew F' ad' H' (f x st') QI → Q' v H') : OkV K cls ew F ad H r Q' := by
  cases r with
  | ok x st' =>
    intro F' ad' H' v s r q
    obtain ⟨F'', s', r', q'⟩ := freezeX s r q
    refine k x st' F'' ad' H' v s' r' q' ?_
    have h' : OkI K cls ew F ad H (f x st') QI := h
    cases e : f x st' with
    | ok y st2 => rw [e] at h'; exact fun F' ad' H' s2 r2 => h' F' ad' H' (s'.trans s2) r2
    | err c st2 => rw [e] at h'; exact fun F' ad' H' a s2 r2 ec => h' F' ad' H' a (s'.trans s2) r2 ec
    | stuck => rw [e] at h'; exact h'
  | err c st' => exact h
  | stuck => exact h
theorem OkV.bindI {r : R (D × List D)} {f : D × List D → Sto → R Val} {QI : MP.D → List MP.D → Hp → List Addr → Hp → Prop} (h : OkV K cls ew F ad H (r.bind f) Q)
    (k : ∀ x st' F' ad' H', Step F ad H F' ad' H' → RelS K F' ad' st' H' → OkV K cls ew F' ad' H' (f x st') Q → QI x.1 x.2 F' ad' H') : OkI K cls ew F ad H r QI := by
  cases r with
  | ok x st' => exact fun F' ad' H' s r => k x st' F' ad' H' s r (OkV.step s h)
  | err c st' => exact h
  | stuck => exact h
theorem RelS.aside {p : Addr} {o : HO} (r : RelS K F ad st H) (hf : F p = none) (ha : p ∉ ad) : RelS K F ad st (upd H p o) where
  sub := fun a u h => by
    have : a ≠ p := fun e => by rw [e, hf] at h; cases h
    rw [upd_ne this]; exact r.sub a u h
  nd := r.nd
  out := r.out
  len := r.len
  live := fun a h => by
    have : a ≠ p := fun e => ha (e ▸ h)
    rw [upd_ne this]; exact r.live a h
  cell := fun n c a h1 h2 => by
    have hne : a ≠ p := fun e => ha (e ▸ List.mem_of_getElem? h2)
    cases c with
    | lst xs => obtain ⟨vs, g1, g2⟩ := r.cell n _ a h1 h2; exact ⟨vs, by rw [upd_ne hne]; exact g1, g2⟩
    | dk ks xs => obtain ⟨vs, g1, g2⟩ := r.cell n _ a h1 h2; exact ⟨vs, by rw [upd_ne hne]; exact g1, g2⟩
    | dt ks xs => obtain ⟨vs, g1, g2⟩ := r.cell n _ a h1 h2; exact ⟨vs, by rw [upd_ne hne]; exact g1, g2⟩
    | dead => exact r.cell n _ a h1 h2
theorem Step.aside {p : Addr} {o : HO} (s : Step F ad H F1 ad1 H1) (h0 : H p = none) : Step F ad H F1 ad1 (upd H1 p o) where
  le := s.le
  pre := s.pre
  newF := s.newF
  newA := s.newA
  keep := fun a u h1 h2 => by
    have : a ≠ p := fun e => by rw [e, h0] at h2; cases h2
    rw [upd_ne this]; exact s.keep a u h1 h2
  dom := fun a h => by
    by_cases e : a = p
    · rw [e]; exact h0
    · rw [upd_ne e] at h; exact s.dom a h
end

section
variable {C : Con} {N : List Str} {X : Cx} {sc : Scope} {ow : Str → Bool} {ew : L2.St → XK}
theorem pi_seqD {tg : Expr} {e : E} {pe : Expr} (he : Sd C X ew e pe) : PI X tg pe (tI C X ew (.seq e)) := (pi_seq he.ex).imp fun σ H R ⟨F, ad, env, st, r, en, ok⟩ => by
  unfold evI at ok
  refine ⟨F, ad, env, st, r, en, ok.bindF fun x st1 F1 ad1 H1 v s1 r1 x1 ok1 => ?_⟩
  split at ok1
  · rename_i ds e
    have ok2 := ok1 F1 ad1 H1 (Step.refl _ _ _) r1
    rcases items_jok r1 x1 e with ⟨a, ws, e1, e2, e3⟩ | ⟨a, ws, e1, e2, e3⟩ | ⟨z, e1, e3⟩
    · exact .inl ⟨a, ws, e1, e2, ok2 _ e3⟩
    · exact .inr (.inl ⟨a, ws, e1, e2, ok2 _ e3⟩)
    · exact .inr (.inr ⟨z, e1, ok2 _ e3⟩)
  · exact ok1.elim
theorem pi_r1D {tg : Expr} {a : E} {pa : Expr} {p pos : Pos} (g : Good C N X sc ow ew) (hs : glB sc "range" = true) (ha : Sd C X ew a pa) (ns : starB pa = false) : PI X tg (.Call (.Name "range" p) [pa] [] pos) (tI C X ew (.range1 a)) := by
  refine (pi_range1 (gl_of g.sc hs) (g.facts.blt "range" (by decide)) (pa_cons ha.ex pa_nil (star_each ns)) (star_each ns)).imp fun σ H R ⟨F, ad, env, st, r, en, ok⟩ => ?_
  unfold evI at ok
  show tX C X ew a σ H fun x H1 => ∃ j : Int, [x] = [V.int j] ∧ -(2 ^ 62) ≤ j ∧ j < 2 ^ 62 ∧ R (Itr 0 j.toNat) H1
  refine ⟨F, ad, env, st, r, en, ok.bindF fun x st1 F1 ad1 H1 v s1 r1 x1 ok1 => ?_⟩
  split at ok1
  · rename_i n
    cases x1
    split at ok1
    · rename_i hz
      have hsz : sizeLine = 16777216 := sizeLine_eq
      have ok2 := ok1 F1 ad1 H1 (Step.refl _ _ _) r1
      exact ⟨n, rfl, hz.2, by omega, ok2 _ jok_range⟩
    · exact ok1.elim
  · exact ok1.elim
theorem pi_r2D {tg : Expr} {a b : E} {pa pb : Expr} {p pos : Pos} (g : Good C N X sc ow ew) (hs : glB sc "range" = true) (ha : Sd C X ew a pa) (hb : Sd C X ew b pb) (ns : starB pa = false) (ns2 : starB pb = false) : PI X tg (.Call (.Name "range" p) [pa, pb] [] pos) (tI C X ew (.range2 a b)) := by
  refine (pi_range2 (gl_of g.sc hs) (g.facts.blt "range" (by decide)) (pa_cons ha.ex (pa_cons hb.ex pa_nil (star_each ns2)) (star_each ns)) (by rw [star_each ns, star_each ns2]; rfl) (by rw [star_each ns2]; rfl)).imp fun σ H R ⟨F, ad, env, st, r, en, ok⟩ => ?_
  unfold evI at ok
  show tX C X ew a σ H fun x H1 => tX C X ew b σ H1 fun y H2 => ∃ i j : Int, [x, y] = [V.int i, V.int j] ∧ (-(2 ^ 62) ≤ i ∧ i < 2 ^ 62 ∧ -(2 ^ 62) ≤ j ∧ j < 2 ^ 62) ∧ R (Itr i (j - i).toNat) H2
  refine ⟨F, ad, env, st, r, en, ok.bindF fun x st1 F1 ad1 H1 v s1 r1 x1 ok1 => ?_⟩
  refine ⟨F1, ad1, env, st1, r1, en.step s1, ok1.bindF fun y st2 F2 ad2 H2 w s2 r2 y2 ok2 => ?_⟩
  have x2 := x1.step s2
  split at ok2
  · rename_i i j
    cases x2
    cases y2
    split at ok2
    · rename_i hz
      have ok3 := ok2 F2 ad2 H2 (Step.refl _ _ _) r2
      exact ⟨i, j, rfl, hz.2, ok3 _ jok_range⟩
    · exact ok2.elim
  · exact ok2.elim
theorem pi_zipD {elts : List Expr} {kk : Nat} {tpos : Pos} {a b : E} {pa pb : Expr} {p pos : Pos} (g : Good C N X sc ow ew) (hs : glB sc "zip" = true) (ha : Sd C X ew a pa) (hb : Sd C X ew b pb) (ns : starB pa = false) (ns2 : starB pb = false) : PI X (.Tuple elts kk tpos) (.Call (.Name "zip" p) [pa, pb] [] pos) (tI C X ew (.zip a b)) := by
  refine (pi_zip (gl_of g.sc hs) (g.facts.blt "zip" (by decide)) (pa_cons ha.ex (pa_cons hb.ex pa_nil (star_each ns2)) (star_each ns)) (star_each ns) (by rw [star_each ns2]; rfl)).imp fun σ H R ⟨F, ad, env, st, r, en, ok⟩ => ?_
  unfold evI at ok
  show tX C X ew a σ H fun x H1 => tX C X ew b σ H1 fun y H2 => ∃ a b xs ys, [x, y] = [V.ref a, V.ref b] ∧ SqL X.K H2 a xs ∧ SqL X.K H2 b ys ∧ R (Itz X.K a b) H2
  refine ⟨F, ad, env, st, r, en, ok.bindF fun x st1 F1 ad1 H1 v s1 r1 x1 ok1 => ?_⟩
  refine ⟨F1, ad1, env, st1, r1, en.step s1, ok1.bindF fun y st2 F2 ad2 H2 w s2 r2 y2 ok2 => ?_⟩
  have x2 := x1.step s2
  generalize x.d = xd at *
  generalize y.d = yd at *
  split at ok2
  · cases x2 with
    | list h1 h2 =>
      cases y2 with
      | list h3 h4 =>
        have ok3 := ok2 F2 ad2 H2 (Step.refl _ _ _) r2
        exact ⟨_, _, _, _, rfl, SqL.of (r2.sub _ _ h1), SqL.of (r2.sub _ _ h3), ok3 _ (jok_zip h1 h2 h3 h4)⟩
  · exact ok2.elim

/-! targets -/
theorem loc_of {sc : Scope} {x : Str} (g : Good C N X sc ow ew) (h : locB sc ow x = true) : Loc X.env.scope x ∧ (X.fn x = true ∨ X.env.scope.names.lookup x = some .local) := by
  unfold locB at h
  rw [g.sc]
  split at h
  · exact ⟨.inl (by assumption), .inr (by assumption)⟩
  · exact ⟨.inr (by assumption), .inl (g.ow x h)⟩
  · cases h
theorem pgs_of (g : Good C N X sc ow ew) : ∀ {is : List Nat} {ps : List Expr}, chkNames N sc ow is ps = true → PGs X ps (gNames is) ∧ (assignEach ps X.env).length = is.length ∧ (assignEach ps X.env).findIdx? (·.1) = none
  | [], [], _ => ⟨pgs_nil, rfl, rfl⟩
  | [], _ :: _, h => by simp [chkNames] at h
  | _ :: _, [], h => by simp [chkNames] at h
  | i :: is, p :: ps, h => by
    unfold chkNames at h
    split at h
    · rename_i e; cases e
    · rename_i i' is' x pos ps' e1 e2
      cases e1; cases e2
      simp only [Bool.and_eq_true, beq_iff_eq] at h
      obtain ⟨⟨h1, h2⟩, h3⟩ := h
      obtain ⟨g1, g2, g3⟩ := pgs_of g h3
      obtain ⟨l1, l2⟩ := loc_of g h2
      have e : assignEach (.Name x pos :: ps) X.env = (false, assign (.Name x pos) X.env) :: assignEach ps X.env := rfl
      refine ⟨pgs_cons (pg_name (by rw [g.hN]; exact g.nd) (by rw [g.hN]; exact h1) l1 l2) g1 rfl, by rw [e, List.length_cons, g2]; rfl, ?_⟩
      rw [e, List.findIdx?_cons, g3]; rfl
    · cases h
theorem pg_of (g : Good C N X sc ow ew) {tg : Tg} {pe : Expr} (h : chkTg N sc ow tg pe = true) : PG X pe (tT X.K tg) := by
  unfold chkTg at h
  split at h
  · split at h
    · simp only [Bool.and_eq_true, beq_iff_eq] at h
      obtain ⟨l1, l2⟩ := loc_of g h.2
      exact pg_name (by rw [g.hN]; exact g.nd) (by rw [g.hN]; exact h.1) l1 l2
    · cases h
  · split at h
    · obtain ⟨g1, g2, g3⟩ := pgs_of g h
      exact pg_tup g.calm g1 g2 g3
    · cases h
theorem ownP_snd (N : List Str) (own : List Nat) : (ownP N own).map (·.2) = own := by
  unfold ownP
  rw [List.map_map]
  have : ((fun x : Str × Nat => x.2) ∘ fun i => ((N[i]?).getD "", i)) = id := rfl
  rw [this, List.map_id]
abbrev E9 : L2.St → XK := fun _ => E0
theorem Good.blk (g : Good C N X sc ow ew) (s : Shared) (H : Hp) (scope : Scope) (cl : List (Str × Addr)) (Cc : Addr) (fp : List Addr) : Good C N (X.blk s H scope (compEnvC scope cl Cc X.env) fp) (relS scope sc) (owB scope) E9 where
  hN := g.hN
  nd := g.nd
  sc := by rw [← g.sc]; rfl
  calm := g.calm
  room := g.room
  pass := fun σ => fun _ _ _ _ _ _ h => by
    obtain ⟨_, _, _, _, _, _, _, _, _, _, _, _, z⟩ := h
    exact z.elim
  ow := fun x h => h
  facts := g.facts
/-- the test of a comprehension -/
def tC9 (C : Con) (X : Cx) (cond : E) : TT := fun σ H Q => tX C X E9 cond σ H fun x H1 => ∃ c, x = .bl c ∧ Q c H1
theorem comp_key {elt cond : E} {tg : Tg} {it : It} {own : List Nat} (hsub : ∀ i ∈ tgIx tg, i ∈ own) {σ : L2.St} {H : Hp} {Q : VK} (h : tX C X ew (.comp elt tg it cond own) σ H Q) :
    tLc (tI C X ew it) (tT X.K tg) (tC9 C X cond) (tX C X E9 elt) own σ H Q := by
  obtain ⟨F, ad, env, st, r, en, ok⟩ := h
  unfold evX at ok
  refine ⟨F, ad, env, st, r, en, ok.bindI fun x st1 F1 ad1 H1 s1 r1 ok1 => ?_⟩
  intro J hJ D hD
  obtain ⟨src, ds⟩ := x
  dsimp only at ok1 hJ ⊢
  have en1 := en.step s1
  clear ok r en
  by_cases hst : stands src ds st1 = true
  case neg =>
    rw [if_pos (by simpa using hst)] at ok1; exact ok1.elim
  rw [if_neg (by simpa using hst)] at ok1
  generalize hf : (fun d st => match bindT (wipeE env own) tg d with
        | some env' => (evX (run C.T C.k) cond env' st).bind fun c st => (match c with
          | .v (.bool true) => (evX (run C.T C.k) elt env' st).bind fun y st => .ok (some y.d) st
          | .v (.bool false) => .ok Option.none st
          | _ => .stuck)
        | Option.none => (.stuck : R (Option MP.D))) = f at ok1
  cases hl : loopC (stands src ds) f ds st1 with
  | err c st2 => rw [hl] at ok1; exact ok1.elim
  | stuck => rw [hl] at ok1; exact ok1.elim
  | ok ys st2 =>
  rw [hl] at ok1
  obtain ⟨hlen, ok1⟩ := ite_ok (X := X) ok1
  have hFD : F1 D = none := by
    cases e : F1 D with
    | none => rfl
    | some o => rw [r1.sub D o e] at hD; cases hD
  have hAD : D ∉ ad1 := fun hm => r1.live D hm hD
  let Wc : Nat → Hp → Prop := fun i H => i ≤ ds.length ∧ ∃ F' ad' st' acc done rest, Step F1 ad1 H1 F' ad' H ∧ RelS X.K F' ad' st' H ∧ H D = some (.lst acc) ∧ F' D = none ∧ D ∉ ad' ∧ Reps X.K F' ad' acc done ∧ stands src ds st' = true ∧ loopC (stands src ds) f (ds.drop i) st' = .ok rest st2 ∧ done ++ rest = ys
  refine ⟨fun i m H => m = ds.length - i ∧ Wc i H, ⟨ds.length, by simp, Nat.zero_le _, F1, ad1, st1, [], [], ys, Step.beside hD, r1.beside hD, upd_same, hFD, hAD, .nil, hst, by simpa using hl, rfl⟩, ?_⟩
  rintro i m H2 ⟨rfl, hi, F2, ad2, st', acc, done, rest, s2, r2, hacc, hF2, hA2, hr2, hst2, hl2, hys⟩
  by_cases hlt : i < ds.length
  · obtain ⟨jgo, jyld⟩ := hJ.go i F2 ad2 st' H2 s2 r2 hst2 hlt
    refine .inr ⟨jgo, Wc (i + 1), fun H' w => ⟨ds.length - (i + 1), by omega, rfl, w⟩, fun x H' hy => ?_⟩
    obtain ⟨F3, s3, r3, d, hd, x3⟩ := jyld x H' hy
    have hdrop : ds.drop i = d :: ds.drop (i + 1) := by
      rw [List.drop_eq_getElem_cons hlt]
      congr 1
      rw [List.getElem?_eq_getElem hlt] at hd
      exact Option.some.inj hd
    rw [hdrop] at hl2
    unfold loopC at hl2
    cases hfd : f d st' with
    | err c q => rw [hfd] at hl2; cases hl2
    | stuck => rw [hfd] at hl2; cases hl2
    | ok ro st4 =>
    rw [hfd] at hl2
    dsimp only at hl2
    by_cases hst4 : stands src ds st4 = true
    case neg =>
      rw [if_neg hst4] at hl2; cases hl2
    rw [if_pos hst4] at hl2
    cases hl4 : loopC (stands src ds) f (ds.drop (i + 1)) st4 with
    | err c q => rw [hl4] at hl2; cases hl2
    | stuck => rw [hl4] at hl2; cases hl2
    | ok rest4 st5 =>
    rw [hl4] at hl2
    dsimp only at hl2
    rw [← hf] at hfd
    dsimp only at hfd
    cases hb : bindT (wipeE env own) tg d with
    | none => rw [hb] at hfd; cases hfd
    | some env' =>
    rw [hb] at hfd
    dsimp only at hfd
    have en3 : EnvRel X.K F3 ad2 (wipeE env own) (wipe σ own) := ((en1.step s2).step s3).wipe2 own
    refine tT_ok r3 x3 en3 hb fun σ2 en4 hw => ⟨by rw [hw own hsub, wipe_wipe], ?_⟩
    refine ⟨F3, ad2, env', st', r3, en4, ?_⟩
    cases hc : evX (run C.T C.k) cond env' st' with
    | err c q => rw [hc] at hfd; cases hfd
    | stuck => rw [hc] at hfd; cases hfd
    | ok cv st6 =>
    rw [hc] at hfd
    rw [R.bind_ok] at hfd
    intro F6 ad6 H6 v6 s6 r6 x6
    -- what is common
    have hH6 : ∀ {F7 ad7 H7}, Step F2 ad2 H2 F7 ad7 H7 → H7 D = some (.lst acc) ∧ F7 D = none ∧ D ∉ ad7 := fun {F7 ad7 H7} sS => by
      refine ⟨sS.keep D _ hA2 hacc, ?_, fun hm => ?_⟩
      · cases e : F7 D with
        | none => rfl
        | some o =>
          have z := sS.newF D hF2 (by rw [e]; simp)
          rw [hacc] at z; cases z
      · have z := sS.newA D hm hA2
        rw [hacc] at z; cases z
    split at hfd
    · cases x6
      refine ⟨true, rfl, ?_⟩
      refine iteT ?_
      refine ⟨F6, ad6, env', st6, r6, en4.step s6, ?_⟩
      cases he : evX (run C.T C.k) elt env' st6 with
      | err c q => rw [he] at hfd; cases hfd
      | stuck => rw [he] at hfd; cases hfd
      | ok y st7 =>
      rw [he] at hfd
      rw [R.bind_ok] at hfd
      cases hfd
      cases hl2
      intro F7 ad7 H7 v7 s7 r7 x7
      obtain ⟨F8, s8, r8, x8⟩ := freezeX s7 r7 x7
      have sS : Step F2 ad2 H2 F8 ad7 H7 := s3.trans (s6.trans s8)
      obtain ⟨k1, k2, k3⟩ := hH6 sS
      refine ⟨acc, k1, ?_, ?_⟩
      · have z := hr2.length
        have z2 := congrArg List.length hys
        simp only [List.length_append, List.length_cons] at z2
        omega
      · refine ⟨hlt, F8, ad7, st4, acc ++ [v7], done ++ [y.d], rest4, (s2.trans sS).aside hD, r8.aside k2 k3, upd_same, k2, k3, (hr2.step sS).append (Reps.one x8), hst4, hl4, ?_⟩
        rw [← hys]
        simp
    · cases x6
      refine ⟨false, rfl, ?_⟩
      refine iteF ?_
      cases hfd
      cases hl2
      have sS : Step F2 ad2 H2 F6 ad6 H6 := s3.trans s6
      obtain ⟨k1, k2, k3⟩ := hH6 sS
      exact ⟨hlt, F6, ad6, st4, acc, done, rest4, s2.trans sS, r6, k1, k2, k3, hr2.step sS, hst4, hl4, hys⟩
    · cases hfd
  · have e : i = ds.length := by omega
    subst e
    refine .inl ⟨hJ.stop _ F2 ad2 st' H2 s2 r2 hst2 (Nat.le_refl _), ?_⟩
    rw [List.drop_length] at hl2
    unfold loopC at hl2
    cases hl2
    rw [List.append_nil] at hys
    subst hys
    exact ok1 F2 ad2 H2 _ s2 r2 ⟨D, acc, rfl, hD, hacc, hF2, hA2, hr2⟩
end
end MP

/-! All expressions that the check lets by are sound. -/
namespace MP
open PySem PySem.Spec PyProof.Rows L2

section
variable {C : Con} {N : List Str} {X : Cx} {sc : Scope} {ow : Str → Bool} {ew : L2.St → XK}
theorem cell_key {e : E} {σ : L2.St} {H : Hp} {Q : VK} (h : tX C X ew (.cell e) σ H Q) : tX C X ew e σ H Q := by
  obtain ⟨F, ad, env, st, r, en, ok⟩ := h
  unfold evX at ok
  refine ⟨F, ad, env, st, r, en, ok.bindX fun x st1 F1 ad1 H1 v s1 r1 x1 ok1 => ?_⟩
  split at ok1
  · obtain ⟨p, h1, h2, h3⟩ := cellX s1 r1 x1
    exact ok1 _ _ _ _ h1 h2 h3
  · exact ok1.elim
theorem sd_cell {e : E} {pe : Expr} (h : Sd C X ew e pe) : Sd C X ew (.cell e) pe :=
  ⟨h.ex.imp fun σ H Q q => cell_key q, fun t => (h.tst t).imp fun σ H Q q => cell_key q, fun t => (h.who t).imp fun σ H Q q => cell_key q⟩
theorem nat_all {l own : List Nat} (h : l.all (fun i => own.contains i) = true) : ∀ i ∈ l, i ∈ own := fun i hi => by
  have := List.all_eq_true.mp h i hi
  simpa using this
/-- the parts of a comprehension -/
structure CompOk (C : Con) (N : List Str) (X : Cx) (sc : Scope) (ew : L2.St → XK) (elt cond : E) (tg : Tg) (it : It) (own : List Nat) (pelt ptg pit : Expr) (pifs : List Expr) (scope : Scope) : Prop where
  blk : BlkOk X.N X.env.scope scope (ownP N own)
  itp : PI X ptg pit (tI C X ew it)
  tgp : ∀ (s : Shared) (H : Hp) (Cc : Addr) (cl : List (Str × Addr)) (fp : List Addr), PG (X.blk s H scope (compEnvC scope cl Cc X.env) fp) ptg (tT X.K tg)
  tt : ∀ (s : Shared) (H : Hp) (Cc : Addr) (cl : List (Str × Addr)) (fp : List Addr), PTs (X.blk s H scope (compEnvC scope cl Cc X.env) fp) pifs (tC9 C X cond)
  te : ∀ (s : Shared) (H : Hp) (Cc : Addr) (cl : List (Str × Addr)) (fp : List Addr), PE (X.blk s H scope (compEnvC scope cl Cc X.env) fp) pelt (tX C X E9 elt)
  ns : ∀ x, foldedSetIterable pit X.env x = pure x
  sub : ∀ i ∈ tgIx tg, i ∈ own
theorem sd_comp {elt cond : E} {tg : Tg} {it : It} {own : List Nat} {pelt ptg pit : Expr} {pifs : List Expr} {scope : Scope} {pos : Pos} (g : Good C N X sc ow ew) (h : CompOk C N X sc ew elt cond tg it own pelt ptg pit pifs scope) :
    Sd C X ew (.comp elt tg it cond own) (.ListComp pelt [⟨ptg, pit, pifs, 0⟩] scope pos) := by
  refine Sd.plain ((pe_lc g.calm (by rw [g.hN]; exact g.nd) h.itp h.blk h.tgp h.tt h.te h.ns).imp fun σ H Q q => ?_) rfl
  rw [ownP_snd]
  exact comp_key h.sub q
mutual
theorem sndE : ∀ (e : E) {X : Cx} {sc : Scope} {ow : Str → Bool} {ew : L2.St → XK} {pe : Expr}, chkE C.T C.G N sc ow e pe = true → Good C N X sc ow ew → Sd C X ew e pe
  | .var i, _, _, _, _, _, h, g => sd_var g h
  | .lit d, _, _, _, _, _, h, g => sd_lit (by unfold chkE at h; exact h)
  | .glob x d, _, _, _, _, _, h, g => sd_glob g h
  | .bin o a b, _, _, _, _, _, h, g => by
    unfold chkE at h
    split at h
    · simp only [Bool.and_eq_true, decide_eq_true_eq] at h
      obtain ⟨⟨h1, h2⟩, h3⟩ := h
      subst h1
      exact sd_bin (sndE a h2 g) (sndE b h3 g)
    · cases h
  | .cmp o a b, _, _, _, _, _, h, g => by
    unfold chkE at h
    split at h
    · simp only [Bool.and_eq_true, decide_eq_true_eq, Bool.not_eq_true'] at h
      obtain ⟨⟨⟨h1, h2⟩, h3⟩, h4⟩ := h
      subst h1
      exact sd_cmp g (sndE a h3 g) (sndE b h4 g) h2
    · cases h
  | .chain o p a b c, _, _, _, _, _, h, g => by
    unfold chkE at h
    split at h
    · simp only [Bool.and_eq_true, decide_eq_true_eq, Bool.not_eq_true'] at h
      obtain ⟨⟨⟨⟨⟨h1, h2⟩, h3⟩, h4⟩, h5⟩, h6⟩ := h
      subst h1
      subst h2
      exact sd_chain g (sndE a h4 g) (sndE b h5 g) (sndE c h6 g) h3
    · cases h
  | .land a b, _, _, _, _, _, h, g => by
    unfold chkE at h
    split at h
    · simp only [Bool.and_eq_true] at h
      obtain ⟨⟨⟨h1, h2⟩, h3⟩, h4⟩ := h
      have hb := sndE b h4 g
      exact sd_land (sndE a h3 g) h1 (pe_one hb.ex) (pw_and1 (hb.tst h2))
    · simp only [Bool.and_eq_true] at h
      obtain ⟨⟨h1, h3⟩, h4⟩ := h
      have hb := sndE b h4 g
      exact sd_land (sndE a h3 g) h1 hb.ex (hb.who rfl)
    · cases h
  | .lor a b, _, _, _, _, _, h, g => by
    unfold chkE at h
    split at h
    · simp only [Bool.and_eq_true] at h
      obtain ⟨⟨⟨h1, h2⟩, h3⟩, h4⟩ := h
      have hb := sndE b h4 g
      exact sd_lor (sndE a h3 g) h1 (pe_one hb.ex) (pw_or1 (hb.tst h2))
    · simp only [Bool.and_eq_true] at h
      obtain ⟨⟨h1, h3⟩, h4⟩ := h
      have hb := sndE b h4 g
      exact sd_lor (sndE a h3 g) h1 hb.ex (hb.who rfl)
    · cases h
  | .lnot a, _, _, _, _, _, h, g => by
    unfold chkE at h
    split at h
    · simp only [Bool.and_eq_true] at h
      exact sd_lnot (sndE a h.2 g) h.1
    · cases h
  | .ite c a b, _, _, _, _, _, h, g => by
    unfold chkE at h
    split at h
    · simp only [Bool.and_eq_true] at h
      obtain ⟨⟨⟨h1, h2⟩, h3⟩, h4⟩ := h
      exact sd_ite (sndE c h2 g) h1 (sndE a h3 g) (sndE b h4 g)
    · cases h
  | .tup es, _, _, _, _, _, h, g => by
    unfold chkE at h
    split at h
    · exact sd_tup (sndEs es h g).1
    · cases h
  | .list es, _, _, _, _, _, h, g => by
    unfold chkE at h
    split at h
    · exact sd_list (sndEs es h g).1
    · cases h
  | .ix a b, _, _, _, _, _, h, g => by
    unfold chkE at h
    split at h
    · simp only [Bool.and_eq_true] at h
      obtain ⟨⟨h1, h2⟩, h3⟩ := h
      exact sd_ix (sndE a h2 g) (sndE b h3 g) h1
    · cases h
  | .sl a lo hi, _, _, _, _, _, h, g => by
    unfold chkE at h
    split at h
    · rename_i pa plo phi p2 pos
      simp only [Bool.and_eq_true] at h
      obtain ⟨⟨h1, h2⟩, h3⟩ := h
      refine sd_sl (sndE a h1 g) ?_ ?_
      · cases plo with
        | none => exact h2
        | some p =>
          simp only [Bool.and_eq_true, Bool.not_eq_true'] at h2
          exact ⟨h2.1, sndE lo h2.2 g⟩
      · cases phi with
        | none => exact h3
        | some p =>
          simp only [Bool.and_eq_true, Bool.not_eq_true'] at h3
          exact ⟨h3.1, sndE hi h3.2 g⟩
    · cases h
  | .call f es, _, _, _, _, _, h, g => by
    unfold chkE at h
    split at h
    · split at h
      · rename_i d hd
        simp only [Bool.and_eq_true, beq_iff_eq] at h
        obtain ⟨⟨⟨h1, h2⟩, h3⟩, h4⟩ := h
        obtain ⟨k1, k2, k3⟩ := sndEs es h4 g
        exact sd_callG g hd h1 h2 h3 k1 k2 k3 fun σ H Q q => key_call q
      · cases h
    · cases h
  | .callC f es, _, _, _, _, _, h, g => by
    unfold chkE at h
    split at h
    · split at h
      · rename_i d hd
        simp only [Bool.and_eq_true, beq_iff_eq] at h
        obtain ⟨⟨⟨h1, h2⟩, h3⟩, h4⟩ := h
        obtain ⟨k1, k2, k3⟩ := sndEs es h4 g
        exact sd_callG g hd h1 h2 h3 k1 k2 k3 fun σ H Q q => key_callC q
      · cases h
    · cases h
  | .callS f es, _, _, _, _, _, h, g => by
    unfold chkE at h
    split at h
    · split at h
      · rename_i d hd
        simp only [Bool.and_eq_true, beq_iff_eq] at h
        obtain ⟨⟨⟨h1, h2⟩, h3⟩, h4⟩ := h
        obtain ⟨k1, k2, k3⟩ := sndEs es h4 g
        exact sd_callG g hd h1 h2 h3 k1 k2 k3 fun σ H Q q => key_callS q
      · cases h
    · cases h
  | .bi f es, _, _, _, _, _, h, g => by
    unfold chkE at h
    split at h
    · split at h
      · simp only [Bool.and_eq_true, beq_iff_eq, Bool.not_eq_true'] at h
        obtain ⟨⟨⟨⟨⟨h1, h2⟩, h3⟩, h4⟩, h5⟩, h6⟩ := h
        subst h1
        subst h2
        split at h6
        · rename_i e
          exact sd_lrange g h3 h4 (sndE e h6 g) h5
        · cases h6
      · cases h
    · split at h
      · simp only [Bool.and_eq_true, beq_iff_eq, Bool.not_eq_true'] at h
        obtain ⟨⟨⟨⟨⟨h1, h2⟩, h3⟩, h4⟩, h5⟩, h6⟩ := h
        subst h1
        split at h6
        · rename_i e
          exact sd_isi g h2 h3 h4 (sndE e h6 g) h5
        · cases h6
      · cases h
    · split at h
      · simp only [Bool.and_eq_true, Bool.not_eq_true'] at h
        obtain ⟨⟨⟨h1, h2⟩, h3⟩, h4⟩ := h
        obtain ⟨k1, k2, k3⟩ := sndEs es h4 g
        exact sd_bi g h1 h2 k1 k2
      · cases h
  | .mt m o es, _, _, _, _, _, h, g => by
    unfold chkE at h
    split at h
    · split at h
      · rename_i n z hm
        simp only [Bool.and_eq_true, beq_iff_eq, Bool.not_eq_true', decide_eq_true_eq] at h
        obtain ⟨⟨⟨⟨⟨⟨h1, h2⟩, h3⟩, h4⟩, h5⟩, h6⟩, h7⟩ := h
        obtain ⟨k1, k2, k3⟩ := sndEs es h7 g
        exact sd_mt g hm h1 h2 (sndE o h3 g) (by simpa using h4) h5 h6 k1 k2 k3
      · cases h
    · cases h
  | .comp elt tg it cond own, X, sc, ow, ew, _, h, g => by
    unfold chkE at h
    split at h
    · rename_i pelt ptg pit pifs scope pos
      simp only [Bool.and_eq_true, Bool.not_eq_true'] at h
      obtain ⟨⟨⟨⟨⟨⟨h1, h2⟩, h3⟩, h4⟩, h5⟩, h6⟩, h7⟩ := h
      refine sd_comp g ⟨by rw [g.hN, g.sc]; exact blkOk_by h1, sndI it h2 g ptg (fun z => z), fun s H Cc cl fp => pg_of (g.blk s H scope cl Cc fp) h5, fun s H Cc cl fp => ?_, fun s H Cc cl fp => (sndE elt h6 (g.blk s H scope cl Cc fp)).ex, not_set h3, nat_all h4⟩
      cases pifs with
      | nil =>
        have e1 : cond = .lit (.bool true) := by
          simp only at h7
          unfold isTrueLit at h7
          split at h7
          · rfl
          · cases h7
        subst e1
        refine ⟨fun pins s σ H Q I q => pts_nil.run pins s σ H Q I ?_⟩
        obtain ⟨F, ad, env, st, r, en, ok⟩ := q
        unfold evX at ok
        obtain ⟨c, e, q⟩ := ok.val r (.bool true)
        cases e
        exact q
      | cons pc r =>
        cases r with
        | nil =>
          simp only [Bool.and_eq_true] at h7
          exact pts_one ((sndE cond h7.2 (g.blk s H scope cl Cc fp)).tst h7.1)
        | cons _ _ => cases h7
    · cases h
  | .cell e, _, _, _, _, _, h, g => sd_cell (sndE e (by unfold chkE at h; exact h) g)
  | .dnew _, _, _, _, _, _, h, g => by unfold chkE at h; cases h
theorem sndEs : ∀ (es : Es) {X : Cx} {sc : Scope} {ow : Str → Bool} {ew : L2.St → XK} {ps : List Expr}, chkEs C.T C.G N sc ow es ps = true → Good C N X sc ow ew → PA X ps (tXs C X ew es) ∧ nostar ps = true ∧ (ps = [] → es = .nil)
  | .nil, _, _, _, _, ps, h, g => by
    unfold chkEs at h
    have e : ps = [] := by simpa using h
    subst e
    exact ⟨sd_nil, rfl, fun _ => rfl⟩
  | .cons e es, _, _, _, _, ps, h, g => by
    unfold chkEs at h
    split at h
    · simp only [Bool.and_eq_true, Bool.not_eq_true'] at h
      obtain ⟨⟨h1, h2⟩, h3⟩ := h
      obtain ⟨k1, k2, k3⟩ := sndEs es h3 g
      refine ⟨sd_cons (sndE e h2 g) k1 h1, ?_, fun z => by cases z⟩
      unfold nostar
      rw [h1, k2]; rfl
    · cases h
theorem sndI : ∀ (it : It) {X : Cx} {sc : Scope} {ow : Str → Bool} {ew : L2.St → XK} {tup : Bool} {pe : Expr}, chkI C.T C.G N sc ow tup it pe = true → Good C N X sc ow ew → ∀ ptg, (tup = true → tupB ptg = true) → PI X ptg pe (tI C X ew it)
  | .seq e, _, _, _, _, _, _, h, g, ptg, ht => pi_seqD (sndE e (by unfold chkI at h; exact h) g)
  | .range1 a, _, _, _, _, _, _, h, g, ptg, ht => by
    unfold chkI at h
    split at h
    · simp only [Bool.and_eq_true, beq_iff_eq, Bool.not_eq_true'] at h
      obtain ⟨⟨⟨h1, h2⟩, h3⟩, h4⟩ := h
      subst h1
      exact pi_r1D g h2 (sndE a h4 g) h3
    · cases h
  | .range2 a b, _, _, _, _, _, _, h, g, ptg, ht => by
    unfold chkI at h
    split at h
    · simp only [Bool.and_eq_true, beq_iff_eq, Bool.not_eq_true'] at h
      obtain ⟨⟨⟨⟨⟨h1, h2⟩, h3⟩, h4⟩, h5⟩, h6⟩ := h
      subst h1
      exact pi_r2D g h2 (sndE a h5 g) (sndE b h6 g) h3 h4
    · cases h
  | .zip a b, _, _, _, _, _, _, h, g, ptg, ht => by
    unfold chkI at h
    split at h
    · simp only [Bool.and_eq_true, beq_iff_eq, Bool.not_eq_true'] at h
      obtain ⟨⟨⟨⟨⟨⟨h0, h1⟩, h2⟩, h3⟩, h4⟩, h5⟩, h6⟩ := h
      subst h1
      have z := ht h0
      cases ptg <;> first | exact pi_zipD g h2 (sndE a h5 g) (sndE b h6 g) h3 h4 | (cases z)
    · cases h
end
end
end MP

/-! Statements. -/
namespace MP
open PySem PySem.Spec PyProof.Rows L2

/-- an own exception class -/
structure ExcOk (K : PySem.W.Frag) (mg : Str → Option Value) (c : Str) (a : Addr) : Prop where
  ex : ∃ B newId initId bmB, ExcBaseFacts B newId initId bmB ∧ PySem.W.excIn K a bmB newId = true
  gl : mg c = some (.ref a)
  kp : PySem.W.keepIn K (.ref a) = true
  sub : PySem.W.subIn K (.ref a) (.type "BaseException") = some true
  ty : PySem.W.typeIn K (.ref a) = some (.type "type")
structure GoodS (C : Con) (N : List Str) (X : Cx) (sc : Scope) (ow : Str → Bool) (W : WX) : Prop where
  g : Good C N X sc ow (WE W)
  own : PassesOwn (model X.prog X.w) X.A X.env X.xe
  tk : Takes X W
  exc : ∀ c a, C.cls c = some a → ExcOk X.K X.mg c a
  kind : sc.kind = .function

def OkX (K : PySem.W.Frag) (cls : Str → Option Addr) (W : WX) (F : Hp) (ad : List Addr) (H : Hp) (r : MP.X) (D : Ends) : Prop := match r with
  | .nx env st => ∀ F' ad' H' σ', Step F ad H F' ad' H' → RelS K F' ad' st H' → EnvRel K F' ad' env σ' → D.nx σ' H'
  | .rt d st => ∀ F' ad' H' v, Step F ad H F' ad' H' → RelS K F' ad' st H' → Rep K F' ad' v d → D.rt v H'
  | .err c env st => ∀ F' ad' H' σ' a, Step F ad H F' ad' H' → RelS K F' ad' st H' → EnvRel K F' ad' env σ' → cls c = some a → W (.ref a) none σ' H'
  | .stuck => False
section
variable {K : PySem.W.Frag} {cls : Str → Option Addr} {W : WX} {F F1 : Hp} {ad ad1 : List Addr} {H H1 : Hp} {st st1 : Sto} {D D' : Ends}
theorem OkX.step (s : Step F ad H F1 ad1 H1) {r : MP.X} (h : OkX K cls W F ad H r D) : OkX K cls W F1 ad1 H1 r D := by
  cases r with
  | nx env st' => exact fun F' ad' H' v s' r' x' => h F' ad' H' v (s.trans s') r' x'
  | rt d st' => exact fun F' ad' H' v s' r' x' => h F' ad' H' v (s.trans s') r' x'
  | err c env st' => exact fun F' ad' H' σ' a s' r' x' e => h F' ad' H' σ' a (s.trans s') r' x' e
  | stuck => exact h
/-- an expression, then the rest -/
theorem OkX.bindE {cf : CF} {e : E} {env : MP.Env} {σ : L2.St} {f : MP.D → Sto → MP.X} (h : OkX K cls W F ad H ((evE cf e env st).toX env f) D) (en : EnvRel K F ad env σ) {Q : VK}
    (k : ∀ d st' F' ad' H' v, Step F ad H F' ad' H' → RelS K F' ad' st' H' → Rep K F' ad' v d → OkX K cls W F' ad' H' (f d st') D → Q v H') : OkV K cls (WE W σ) F ad H (evX cf e env st) Q := by
  unfold evE at h
  cases q : evX cf e env st with
  | ok x st' =>
    rw [q] at h
    intro F' ad' H' v s r xr
    obtain ⟨F'', s', r', q'⟩ := freezeX s r xr
    exact k x.d st' F'' ad' H' v s' r' q' (OkX.step s' h)
  | err c st' =>
    rw [q] at h
    exact fun F' ad' H' a s r e => h F' ad' H' σ a s r (en.step s) e
  | stuck => rw [q] at h; exact h
theorem OkX.bindIt {cf : CF} {it : It} {env : MP.Env} {σ : L2.St} {f : MP.D × List MP.D → Sto → MP.X} (h : OkX K cls W F ad H ((evI cf it env st).toX env f) D) (en : EnvRel K F ad env σ) {QI : MP.D → List MP.D → Hp → List Addr → Hp → Prop}
    (k : ∀ p st' F' ad' H', Step F ad H F' ad' H' → RelS K F' ad' st' H' → OkX K cls W F' ad' H' (f p st') D → QI p.1 p.2 F' ad' H') : OkI K cls (WE W σ) F ad H (evI cf it env st) QI := by
  cases q : evI cf it env st with
  | ok x st' =>
    rw [q] at h
    intro F' ad' H' s r
    exact k x st' F' ad' H' s r (OkX.step s h)
  | err c st' =>
    rw [q] at h
    exact fun F' ad' H' a s r e => h F' ad' H' σ a s r (en.step s) e
  | stuck => rw [q] at h; exact h
end
def tS (C : Con) (X : Cx) (W : WX) (s : S) : TS := fun D σ H => ∃ F ad env st, RelS X.K F ad st H ∧ EnvRel X.K F ad env σ ∧ OkX X.K C.cls W F ad H (exS (run C.T C.k) s env st) D
def tSs (C : Con) (X : Cx) (W : WX) (ss : List S) : TS := fun D σ H => ∃ F ad env st, RelS X.K F ad st H ∧ EnvRel X.K F ad env σ ∧ OkX X.K C.cls W F ad H (exL (run C.T C.k) ss env st) D
theorem _root_.L2.PS.imp {X : Cx} {e : Stmt} {t t' : TS} (h : PS X e t) (i : ∀ D σ H, t' D σ H → t D σ H) : PS X e t' := ⟨fun pins s σ H Q I q => h.run pins s σ H Q I (i _ _ _ q)⟩
theorem _root_.L2.PSs.imp {X : Cx} {e : List Stmt} {t t' : TS} (h : PSs X e t) (i : ∀ D σ H, t' D σ H → t D σ H) : PSs X e t' := ⟨fun pins s σ H Q I q => h.run pins s σ H Q I (i _ _ _ q)⟩

/-! ### the check -/
def localB (sc : Scope) (x : Str) : Bool := sc.names.lookup x == some .local
/-- name = [..] stores as it goes -/
def swapB (sc : Scope) (x : Str) (px : Pos) : Expr → Bool
  | .ListComp _ _ scope p => localB sc x && (px.line == p.line) && !(scope.names.any fun (n, k) => n == x && (k == .local || k == .cell))
  | _ => false
def compB : Expr → Bool
  | .ListComp _ _ _ _ => true
  | .SetComp _ _ _ _ => true
  | .DictComp _ _ _ _ _ => true
  | _ => false
def compB2 : Expr → Bool
  | .SetComp _ _ _ _ => true
  | .DictComp _ _ _ _ _ => true
  | _ => false
def nmL (N : List Str) (sc : Scope) (i : Nat) : Expr → Bool
  | .Name x _ => (N[i]? == some x) && localB sc x
  | _ => false
def lineOf : Expr → Nat
  | .Name _ p => p.line
  | _ => 0
def isComp : E → Option (E × Tg × It × E × List Nat)
  | .comp elt tg it cond own => some (elt, tg, it, cond, own)
  | .cell (.comp elt tg it cond own) => some (elt, tg, it, cond, own)
  | _ => none
mutual
def chkS (T : Nat → Option Def) (G : Str → Option D) (cls : Str → Option Addr) (N : List Str) (sc : Scope) (ow : Str → Bool) : S → Stmt → Bool
  | .set i e, ps => (match ps with
    | .Assign [.Name x px] pe _ => (N[i]? == some x) && locB sc ow x && chkE T G N sc ow e pe && !compB2 pe && (!swapB sc x px pe || (isComp e).isSome)
    | _ => false)
  | .unpack is e, ps => (match ps with
    | .Assign [.Tuple qs _ _] pe _ => chkNames N sc ow is qs && chkE T G N sc ow e pe && !tupB pe
    | _ => false)
  | .par2 i j a b, ps => (match ps with
    | .Assign [.Tuple [qx, qy] _ _] (.Tuple [pa, pb] _ _) _ => nmL N sc i qx && nmL N sc j qy && decide (i ≠ j) && (lineOf qx == lineOf qy) && !starB pa && !starB pb && !([pa, pb].all (foldedForSure 8)) && !([pa, pb].all (constantsAlone 8)) && chkE T G N sc ow a pa && chkE T G N sc ow b pb
    | _ => false)
  | .par3 i j k a b c, ps => (match ps with
    | .Assign [.Tuple [qx, qy, qz] _ _] (.Tuple [pa, pb, pc] _ _) _ => nmL N sc i qx && nmL N sc j qy && nmL N sc k qz && decide (i ≠ j) && decide (i ≠ k) && decide (j ≠ k) && (lineOf qx == lineOf qy) && (lineOf qx == lineOf qz) && !starB pa && !starB pb && !starB pc && !([pa, pb, pc].all (foldedForSure 8)) && !([pa, pb, pc].all (constantsAlone 8)) && chkE T G N sc ow a pa && chkE T G N sc ow b pb && chkE T G N sc ow c pc
    | _ => false)
  | .put o i v, ps => (match ps with
    | .Assign [.Subscript po pi _] pe _ => plainIxB pi && chkE T G N sc ow v pe && chkE T G N sc ow o po && chkE T G N sc ow i pi
    | _ => false)
  | .expr e, ps => (match ps with
    | .Expr pe _ => !compB pe && chkE T G N sc ow e pe
    | _ => false)
  | .ret e, ps => (match ps with
    | .Return (some pe) _ => chkE T G N sc ow e pe
    | _ => false)
  | .retN, ps => (match ps with
    | .Return none _ => true
    | _ => false)
  | .ife c a b, ps => (match ps with
    | .If pc pa pb _ => tokB pc && chkE T G N sc ow c pc && chkL T G cls N sc ow a pa && chkL T G cls N sc ow b pb
    | _ => false)
  | .for_ tg it body tmp trim, ps => (match ps with
    | .For ptg pit pb [] _ => chkTg N sc ow tg ptg && chkI T G N sc ow (tupB ptg) it pit && !setB pit && chkL T G cls N sc ow body pb
    | _ => false)
  | .while_ c body tmp trim, ps => (match ps with
    | .While pc pb [] _ => tokB pc && chkE T G N sc ow c pc && chkL T G cls N sc ow body pb
    | _ => false)
  | .raise c, ps => (match ps with
    | .Raise (some (.Call (.Name x _) [.Constant (.str _) _ _] [] _)) none _ => c == x && (cls c).isSome && glB sc x && okN x
    | _ => false)
def chkL (T : Nat → Option Def) (G : Str → Option D) (cls : Str → Option Addr) (N : List Str) (sc : Scope) (ow : Str → Bool) : List S → List Stmt → Bool
  | [], ps => (match ps with
    | [] => true
    | _ => false)
  | s :: ss, ps => (match ps with
    | p :: ps => chkS T G cls N sc ow s p && chkL T G cls N sc ow ss ps
    | [] => false)
end

section
variable {C : Con} {N : List Str} {X : Cx} {sc : Scope} {ow : Str → Bool} {W : WX}
theorem block_fn {env : PySem.Env} (h : env.scope.kind = .function) : env.blockKind = .function := by
  unfold Env.blockKind; rw [h]; rfl
theorem swap_eq {env : PySem.Env} {pe : Expr} {x : Str} {px : Pos} {l : Nat} (hk : env.scope.kind = .function) (hc : compB2 pe = false) : swapsWith pe (some (.Name x px)) l env = pure (swapB env.scope x px pe) := by
  cases pe <;> first
    | rfl
    | (cases hc; done)
    | skip
  unfold swapsWith swapB localB
  simp only [block_fn hk]
  rfl
theorem comp_of {e : E} {pe : Expr} (g : Good C N X sc ow (WE W)) (h : chkE C.T C.G N sc ow e pe = true) {elt cond : E} {tg : Tg} {it : It} {own : List Nat} (hc : isComp e = some (elt, tg, it, cond, own)) :
    ∃ pelt ptg pit pifs scope pos, pe = .ListComp pelt [⟨ptg, pit, pifs, 0⟩] scope pos ∧ CompOk C N X sc (WE W) elt cond tg it own pelt ptg pit pifs scope ∧ ∀ σ H Q, tX C X (WE W) e σ H Q → tX C X (WE W) (.comp elt tg it cond own) σ H Q := by
  have main : ∀ {pe}, chkE C.T C.G N sc ow (.comp elt tg it cond own) pe = true → ∃ pelt ptg pit pifs scope pos, pe = .ListComp pelt [⟨ptg, pit, pifs, 0⟩] scope pos ∧ CompOk C N X sc (WE W) elt cond tg it own pelt ptg pit pifs scope := fun {pe} h => by
    unfold chkE at h
    split at h
    · rename_i pelt ptg pit pifs scope pos
      simp only [Bool.and_eq_true, Bool.not_eq_true'] at h
      obtain ⟨⟨⟨⟨⟨⟨h1, h2⟩, h3⟩, h4⟩, h5⟩, h6⟩, h7⟩ := h
      refine ⟨pelt, ptg, pit, pifs, scope, pos, rfl, ⟨by rw [g.hN, g.sc]; exact blkOk_by h1, sndI it h2 g ptg (fun z => z), fun s H Cc cl fp => pg_of (g.blk s H scope cl Cc fp) h5, fun s H Cc cl fp => ?_, fun s H Cc cl fp => (sndE elt h6 (g.blk s H scope cl Cc fp)).ex, not_set h3, nat_all h4⟩⟩
      cases pifs with
      | nil =>
        have e1 : cond = .lit (.bool true) := by
          simp only at h7
          unfold isTrueLit at h7
          split at h7
          · rfl
          · cases h7
        subst e1
        refine ⟨fun pins s σ H Q I q => pts_nil.run pins s σ H Q I ?_⟩
        obtain ⟨F, ad, env, st, r, en, ok⟩ := q
        unfold evX at ok
        obtain ⟨c, e, q⟩ := ok.val r (.bool true)
        cases e
        exact q
      | cons pc r =>
        cases r with
        | nil =>
          simp only [Bool.and_eq_true] at h7
          exact pts_one ((sndE cond h7.2 (g.blk s H scope cl Cc fp)).tst h7.1)
        | cons _ _ => cases h7
    · cases h
  unfold isComp at hc
  split at hc
  · cases hc
    obtain ⟨a1, a2, a3, a4, a5, a6, a7, a8⟩ := main h
    exact ⟨a1, a2, a3, a4, a5, a6, a7, a8, fun σ H Q q => q⟩
  · cases hc
    unfold chkE at h
    obtain ⟨a1, a2, a3, a4, a5, a6, a7, a8⟩ := main h
    exact ⟨a1, a2, a3, a4, a5, a6, a7, a8, fun σ H Q q => cell_key q⟩
  · cases hc
theorem set_key {i : Nat} {e : E} {D : Ends} {σ : L2.St} {H : Hp} (h : tS C X W (.set i e) D σ H) : tX C X (WE W) e σ H fun x H1 => D.nx (σ.set i (some x)) H1 := by
  obtain ⟨F, ad, env, st, r, en, ok⟩ := h
  unfold exS at ok
  exact ⟨F, ad, env, st, r, en, ok.bindE en fun d st' F' ad' H' v s r' x ok' => ok' _ _ _ _ (Step.refl _ _ _) r' ((en.step s).set i x)⟩
theorem ss_set {i : Nat} {e : E} {ps : Stmt} (g : GoodS C N X sc ow W) (h : chkS C.T C.G C.cls N sc ow (.set i e) ps = true) : PS X ps (tS C X W (.set i e)) := by
  unfold chkS at h
  split at h
  · rename_i x px pe pos
    simp only [Bool.and_eq_true, beq_iff_eq, Bool.not_eq_true'] at h
    obtain ⟨⟨⟨⟨h1, h2⟩, h3⟩, h4⟩, h5⟩ := h
    obtain ⟨l1, l2⟩ := loc_of g.g h2
    have hk : X.env.scope.kind = .function := by rw [g.g.sc]; exact g.kind
    have hsw := swap_eq (x := x) (px := px) (l := pos.line) hk h4
    rw [g.g.sc] at hsw
    cases hs : swapB sc x px pe with
    | false =>
      rw [hs] at hsw
      exact (ps_set (by rw [g.g.hN]; exact g.g.nd) (by rw [g.g.hN]; exact h1) l1 (sndE e h3 g.g).ex hsw l2).imp fun D σ H q => set_key q
    | true =>
      rw [hs] at h5 hsw
      simp only [Bool.not_true, Bool.false_or] at h5
      obtain ⟨⟨elt, tg, it, cond, own⟩, hc⟩ := Option.isSome_iff_exists.mp h5
      obtain ⟨pelt, ptg, pit, pifs, scope, pos', e1, ok, key⟩ := comp_of g.g h3 hc
      subst e1
      have hl : X.env.scope.names.lookup x = some .local := by
        unfold swapB localB at hs
        simp only [Bool.and_eq_true, beq_iff_eq] at hs
        rw [g.g.sc]; exact hs.1.1
      refine (ps_setLc g.g.calm (by rw [g.g.hN]; exact g.g.nd) (by rw [g.g.hN]; exact h1) hl hsw ok.itp ok.blk ok.tgp ok.tt ok.te ok.ns).imp fun D σ H q => ?_
      show tLc _ _ _ _ _ σ H fun x H1 => gName i x σ H1 D.nx
      rw [ownP_snd]
      exact comp_key ok.sub (key _ _ _ (set_key q))
  · cases h
theorem ss_unpack {is : List Nat} {e : E} {ps : Stmt} (g : GoodS C N X sc ow W) (h : chkS C.T C.G C.cls N sc ow (.unpack is e) ps = true) : PS X ps (tS C X W (.unpack is e)) := by
  unfold chkS at h
  split at h
  · rename_i qs k pt pe pos
    simp only [Bool.and_eq_true, Bool.not_eq_true'] at h
    obtain ⟨⟨h1, h2⟩, h3⟩ := h
    obtain ⟨g1, g2, g3⟩ := pgs_of g.g h1
    refine (ps_asg (sndE e h2 g.g).ex (pg_tup g.g.calm g1 g2 g3) (by cases pe <;> rfl) (by cases pe <;> first | rfl | cases h3) rfl).imp fun D σ H q => ?_
    obtain ⟨F, ad, env, st, r, en, ok⟩ := q
    unfold exS at ok
    refine ⟨F, ad, env, st, r, en, ok.bindE en fun d st' F' ad' H' v s r' x ok' => ?_⟩
    split at ok'
    · rename_i env' e'
      exact tT_ok (tg := .many is) r' x (en.step s) e' fun σ' en' _ => ok' _ _ _ _ (Step.refl _ _ _) r' en'
    · exact ok'.elim
  · cases h
theorem sw2 {env : PySem.Env} {x y : Str} {px py pt pt2 : Pos} {kt k2} {pa pb : Expr} (hk : env.scope.kind = .function) (hx : env.scope.names.lookup x = some .local) (hy : env.scope.names.lookup y = some .local) (hl : px.line = py.line) (hne : x ≠ y)
    (sa : starB pa = false) (sb : starB pb = false) (hf : ([pa, pb].all (foldedForSure 8)) = false) (hc : ([pa, pb].all (constantsAlone 8)) = false) :
    swappedStores [.Tuple [.Name x px, .Name y py] kt pt] (.Tuple [pa, pb] k2 pt2) env = pure (some [x, y]) := by
  have kx : env.kindOf x = some .local := hx
  have ky : env.kindOf y = some .local := hy
  unfold swappedStores
  simp [block_fn hk, kx, ky, hl, hf, hc, Expr.pos, List.eraseDups]
  rw [if_neg, if_pos]
  · have e1 : (y == x) = false := by simpa using Ne.symm hne
    simp [List.eraseDupsBy, List.eraseDupsBy.loop, e1]
  · intro h
    rcases h with h | h
    · split at h
      · cases sa
      · cases h
    · split at h
      · cases sb
      · cases h
theorem sw3 {env : PySem.Env} {x y z : Str} {px py pz pt pt2 : Pos} {kt k2} {pa pb pc : Expr} (hk : env.scope.kind = .function) (hx : env.scope.names.lookup x = some .local) (hy : env.scope.names.lookup y = some .local) (hz : env.scope.names.lookup z = some .local) (hl : px.line = py.line) (hl2 : px.line = pz.line) (hne : x ≠ y) (hne2 : x ≠ z) (hne3 : y ≠ z)
    (sa : starB pa = false) (sb : starB pb = false) (sc : starB pc = false) (hf : ([pa, pb, pc].all (foldedForSure 8)) = false) (hc : ([pa, pb, pc].all (constantsAlone 8)) = false) :
    swappedStores [.Tuple [.Name x px, .Name y py, .Name z pz] kt pt] (.Tuple [pa, pb, pc] k2 pt2) env = pure (some [x, y, z]) := by
  have kx : env.kindOf x = some .local := hx
  have ky : env.kindOf y = some .local := hy
  have kz : env.kindOf z = some .local := hz
  unfold swappedStores
  simp [block_fn hk, kx, ky, kz, ← hl, ← hl2, hf, hc, Expr.pos, List.eraseDups]
  rw [if_neg, if_pos]
  · have e1 : (y == x) = false := by simpa using Ne.symm hne
    have e2 : (z == x) = false := by simpa using Ne.symm hne2
    have e3 : (z == y) = false := by simpa using Ne.symm hne3
    simp [List.eraseDupsBy, List.eraseDupsBy.loop, e1, e2, e3]
  · intro h
    rcases h with h | h | h
    · split at h
      · cases sa
      · cases h
    · split at h
      · cases sb
      · cases h
    · split at h
      · cases sc
      · cases h
theorem nmL_of {i : Nat} {q : Expr} (h : nmL N sc i q = true) : ∃ x p, q = .Name x p ∧ N[i]? = some x ∧ sc.names.lookup x = some .local := by
  unfold nmL at h
  split at h
  · rename_i x p
    unfold localB at h
    simp only [Bool.and_eq_true, beq_iff_eq] at h
    exact ⟨x, p, rfl, h.1, h.2⟩
  · cases h
theorem nm_ne {i j : Nat} {x y : Str} (nd : N.Nodup) (hi : N[i]? = some x) (hj : N[j]? = some y) (h : i ≠ j) : x ≠ y := fun e => by
  subst e
  exact h (nodup_ix nd hi hj)
theorem ss_par2 {i j : Nat} {a b : E} {ps : Stmt} (g : GoodS C N X sc ow W) (h : chkS C.T C.G C.cls N sc ow (.par2 i j a b) ps = true) : PS X ps (tS C X W (.par2 i j a b)) := by
  unfold chkS at h
  split at h
  · rename_i qx qy k1 p1 pa pb k2 p2 pos
    simp only [Bool.and_eq_true, beq_iff_eq, Bool.not_eq_true', decide_eq_true_eq] at h
    obtain ⟨⟨⟨⟨⟨⟨⟨⟨⟨h1, h2⟩, h3⟩, h4⟩, h5⟩, h6⟩, h7⟩, h8⟩, h9⟩, h10⟩ := h
    obtain ⟨x, px, rfl, n1, l1⟩ := nmL_of h1
    obtain ⟨y, py, rfl, n2, l2⟩ := nmL_of h2
    have hsc := g.g.sc
    have hN := g.g.hN
    have hk : X.env.scope.kind = .function := by rw [hsc]; exact g.kind
    refine (ps_par g.g.calm (by rw [hN]; exact g.g.nd) (by rw [hN]; exact n1) (by rw [hN]; exact n2) h3 (by rw [hsc]; exact l1) (by rw [hsc]; exact l2) (pa_cons (sndE a h9 g.g).ex (pa_cons (sndE b h10 g.g).ex pa_nil (star_each h6)) (star_each h5))
      (sw2 hk (by rw [hsc]; exact l1) (by rw [hsc]; exact l2) h4 (nm_ne g.g.nd n1 n2 h3) h5 h6 h7 h8)).imp fun D σ H q => ?_
    obtain ⟨F, ad, env, st, r, en, ok⟩ := q
    unfold exS at ok
    show tX C X (WE W) a σ H fun u H1 => tX C X (WE W) b σ H1 fun v H2 => ∃ v' w', [u, v] = [v', w'] ∧ D.nx ((σ.set i (some v')).set j (some w')) H2
    refine ⟨F, ad, env, st, r, en, ok.bindE en fun d st1 F1 ad1 H1 v s1 r1 x1 ok1 => ?_⟩
    refine ⟨F1, ad1, env, st1, r1, en.step s1, ok1.bindE (en.step s1) fun d2 st2 F2 ad2 H2 w s2 r2 x2 ok2 => ?_⟩
    exact ⟨_, _, rfl, ok2 _ _ _ _ (Step.refl _ _ _) r2 ((((en.step s1).step s2).set i (x1.step s2)).set j x2)⟩
  · cases h
theorem ss_par3 {i j k : Nat} {a b c : E} {ps : Stmt} (g : GoodS C N X sc ow W) (h : chkS C.T C.G C.cls N sc ow (.par3 i j k a b c) ps = true) : PS X ps (tS C X W (.par3 i j k a b c)) := by
  unfold chkS at h
  split at h
  · rename_i qx qy qz k1 p1 pa pb pc k2 p2 pos
    simp only [Bool.and_eq_true, beq_iff_eq, Bool.not_eq_true', decide_eq_true_eq] at h
    obtain ⟨⟨⟨⟨⟨⟨⟨⟨⟨⟨⟨⟨⟨⟨⟨h1, h2⟩, h3⟩, e1⟩, e2⟩, e3⟩, l4⟩, l5⟩, h4⟩, h5⟩, h6⟩, h7⟩, h8⟩, h9⟩, h10⟩, h11⟩ := h
    obtain ⟨x, px, rfl, n1, l1⟩ := nmL_of h1
    obtain ⟨y, py, rfl, n2, l2⟩ := nmL_of h2
    obtain ⟨z, pz, rfl, n3, l3⟩ := nmL_of h3
    have hsc := g.g.sc
    have hN := g.g.hN
    have hk : X.env.scope.kind = .function := by rw [hsc]; exact g.kind
    refine (ps_par3 g.g.calm (by rw [hN]; exact g.g.nd) (by rw [hN]; exact n1) (by rw [hN]; exact n2) (by rw [hN]; exact n3) e1 e2 e3 (by rw [hsc]; exact l1) (by rw [hsc]; exact l2) (by rw [hsc]; exact l3) (pa_cons (sndE a h9 g.g).ex (pa_cons (sndE b h10 g.g).ex (pa_cons (sndE c h11 g.g).ex pa_nil (star_each h6)) (star_each h5)) (star_each h4))
      (sw3 hk (by rw [hsc]; exact l1) (by rw [hsc]; exact l2) (by rw [hsc]; exact l3) l4 l5 (nm_ne g.g.nd n1 n2 e1) (nm_ne g.g.nd n1 n3 e2) (nm_ne g.g.nd n2 n3 e3) h4 h5 h6 h7 h8)).imp fun D σ H q => ?_
    obtain ⟨F, ad, env, st, r, en, ok⟩ := q
    unfold exS at ok
    show tX C X (WE W) a σ H fun u H1 => tX C X (WE W) b σ H1 fun v H2 => tX C X (WE W) c σ H2 fun w H3 => ∃ u' v' w', [u, v, w] = [u', v', w'] ∧ D.nx (((σ.set i (some u')).set j (some v')).set k (some w')) H3
    refine ⟨F, ad, env, st, r, en, ok.bindE en fun d st1 F1 ad1 H1 v s1 r1 x1 ok1 => ?_⟩
    refine ⟨F1, ad1, env, st1, r1, en.step s1, ok1.bindE (en.step s1) fun d2 st2 F2 ad2 H2 w s2 r2 x2 ok2 => ?_⟩
    have en2 := (en.step s1).step s2
    refine ⟨F2, ad2, env, st2, r2, en2, ok2.bindE en2 fun d3 st3 F3 ad3 H3 w3 s3 r3 x3 ok3 => ?_⟩
    exact ⟨_, _, _, rfl, ok3 _ _ _ _ (Step.refl _ _ _) r3 ((((en2.step s3).set i ((x1.step s2).step s3)).set j (x2.step s3)).set k x3)⟩
  · cases h
theorem ixN_len {n m : Nat} {k : Int} {j : Nat} (e : n = m) (h : ixN n k = some j) : ixN m k = some j := by subst e; exact h
theorem ss_put {o i v : E} {ps : Stmt} (g : GoodS C N X sc ow W) (h : chkS C.T C.G C.cls N sc ow (.put o i v) ps = true) : PS X ps (tS C X W (.put o i v)) := by
  unfold chkS at h
  split at h
  · rename_i po pi p1 pe pos
    simp only [Bool.and_eq_true] at h
    obtain ⟨⟨⟨h1, h2⟩, h3⟩, h4⟩ := h
    refine (ps_asg (sndE v h2 g.g).ex (pg_sub (sndE o h3 g.g).ex (sndE i h4 g.g).ex set_list (fun v => by cases pi <;> first | rfl | cases h1)) (by cases pe <;> rfl) (by cases pe <;> rfl) rfl).imp fun D σ H q => ?_
    obtain ⟨F, ad, env, st, r, en, ok⟩ := q
    unfold exS at ok
    refine ⟨F, ad, env, st, r, en, ok.bindE en fun d st1 F1 ad1 H1 v s1 r1 x1 ok1 => ?_⟩
    refine ⟨F1, ad1, env, st1, r1, en.step s1, ok1.bindE (en.step s1) fun d2 st2 F2 ad2 H2 w s2 r2 x2 ok2 => ?_⟩
    have en2 := (en.step s1).step s2
    refine ⟨F2, ad2, env, st2, r2, en2, ok2.bindE en2 fun d3 st3 F3 ad3 H3 w3 s3 r3 x3 ok3 => ?_⟩
    have y2 := x2.step s3
    have y1 := (x1.step s2).step s3
    split at ok3
    · rename_i st' e
      unfold putV at e
      split at e
      · cases x3
        cases y2 with
        | ref ha =>
          rename_i n k a
          split at e
          · rename_i xs hx
            obtain ⟨vs, g1, g2⟩ := r3.cell _ _ _ hx ha
            split at e
            · rename_i j hj
              cases e
              refine ⟨a, vs, _, j, rfl, rfl, g1, ixN_len g2.length.symm hj, ?_⟩
              exact ok3 _ _ _ _ (Step.write ha) (r3.write ha ⟨_, upd_same, g2.set j y1⟩) (en2.step s3)
            · cases e
          · cases e
      · cases e
    · exact ok3.elim
  · cases h
theorem ss_expr {e : E} {ps : Stmt} (g : GoodS C N X sc ow W) (h : chkS C.T C.G C.cls N sc ow (.expr e) ps = true) : PS X ps (tS C X W (.expr e)) := by
  unfold chkS at h
  split at h
  · rename_i pe pos
    simp only [Bool.and_eq_true, Bool.not_eq_true'] at h
    refine (ps_expr (sndE e h.2 g.g).ex (by cases pe <;> first | rfl | (exact absurd h.1 (by simp [compB])))).imp fun D σ H q => ?_
    obtain ⟨F, ad, env, st, r, en, ok⟩ := q
    unfold exS at ok
    exact ⟨F, ad, env, st, r, en, ok.bindE en fun d st1 F1 ad1 H1 v s1 r1 x1 ok1 => ok1 _ _ _ _ (Step.refl _ _ _) r1 (en.step s1)⟩
  · cases h
theorem ss_ret {e : E} {ps : Stmt} (g : GoodS C N X sc ow W) (h : chkS C.T C.G C.cls N sc ow (.ret e) ps = true) : PS X ps (tS C X W (.ret e)) := by
  unfold chkS at h
  split at h
  · rename_i pe pos
    refine (ps_ret (sndE e h g.g).ex).imp fun D σ H q => ?_
    obtain ⟨F, ad, env, st, r, en, ok⟩ := q
    unfold exS at ok
    exact ⟨F, ad, env, st, r, en, ok.bindE en fun d st1 F1 ad1 H1 v s1 r1 x1 ok1 => ok1 _ _ _ _ (Step.refl _ _ _) r1 x1⟩
  · cases h
theorem ss_retN {ps : Stmt} (h : chkS C.T C.G C.cls N sc ow .retN ps = true) : PS X ps (tS C X W .retN) := by
  unfold chkS at h
  split at h
  · refine ps_retN.imp fun D σ H q => ?_
    obtain ⟨F, ad, env, st, r, en, ok⟩ := q
    unfold exS at ok
    exact ok _ _ _ _ (Step.refl _ _ _) r .none
  · cases h
theorem ss_raise {c : Str} {ps : Stmt} (g : GoodS C N X sc ow W) (h : chkS C.T C.G C.cls N sc ow (.raise c) ps = true) : PS X ps (tS C X W (.raise c)) := by
  unfold chkS at h
  split at h
  · simp only [Bool.and_eq_true, beq_iff_eq] at h
    obtain ⟨⟨⟨h1, h2⟩, h3⟩, h4⟩ := h
    subst h1
    obtain ⟨a, ha⟩ := Option.isSome_iff_exists.mp h2
    obtain ⟨⟨B, newId, initId, bmB, k1, k2⟩, k3, k4, k5, k6⟩ := g.exc _ _ ha
    refine (ps_raise g.g.calm g.tk (pmk_own k1 k2 k3 k4 (raises_own k5 k6) (gl_of g.g.sc h3) (ok1 h4).1)).imp fun D σ H q => ?_
    obtain ⟨F, ad, env, st, r, en, ok⟩ := q
    unfold exS at ok
    exact ok _ _ _ _ a (Step.refl _ _ _) r en ha
  · cases h
end
end MP

/-! Tests, loops, bodies. -/
namespace MP
open PySem PySem.Spec PyProof.Rows L2

section
variable {K : PySem.W.Frag} {cls : Str → Option Addr} {W : WX} {F F1 : Hp} {ad ad1 : List Addr} {H H1 : Hp} {st st1 : Sto} {D D' : Ends}
theorem CellAt.lowT {n : Nat} {a : Addr} : ∀ {c : Cell}, CellAt K F ad H a c → c.low n = true → CellAt K F (ad.take n) H a c
  | .lst _, ⟨vs, h, r⟩, l => ⟨vs, h, r.lowT l⟩
  | .dk _ _, ⟨vs, h, e, r⟩, l => ⟨vs, h, e, r.lowT l⟩
  | .dt _ _, ⟨vs, h, e, r⟩, l => ⟨vs, h, e, r.lowT l⟩
  | .dead, h, _ => h.elim
theorem RelS.takeT {n : Nat} (r : RelS K F ad st H) (l : (st.take n).all (Cell.low n) = true) : RelS K F (ad.take n) (st.take n) H where
  sub := r.sub
  nd := r.nd.sublist (List.take_sublist _ _)
  out := fun a h => r.out a (List.mem_of_mem_take h)
  len := by simp [r.len]
  live := fun a h => r.live a (List.mem_of_mem_take h)
  cell := fun m c a h1 h2 => by
    have hc := List.all_eq_true.mp l c (List.mem_of_getElem? h1)
    have hm : m < n := by
      have := (List.getElem?_eq_some_iff.mp h1).1
      simp only [List.length_take] at this
      omega
    rw [List.getElem?_take_of_lt hm] at h1 h2
    exact (r.cell m c a h1 h2).lowT hc
theorem envBelow_at {n : Nat} : ∀ {env : MP.Env} {i : Nat} {d : MP.D}, envBelow n env = true → env[i]? = some (some d) → d.low n = true
  | some x :: r, 0, d, h, e => by
    simp only [envBelow, Bool.and_eq_true] at h
    simp only [List.getElem?_cons_zero, Option.some.injEq] at e
    subst e
    exact h.1
  | none :: r, 0, d, h, e => by simp at e
  | some x :: r, i + 1, d, h, e => by
    simp only [envBelow, Bool.and_eq_true] at h
    exact envBelow_at h.2 (by simpa using e)
  | none :: r, i + 1, d, h, e => by
    simp only [envBelow] at h
    exact envBelow_at h (by simpa using e)
  | [], i, d, h, e => by simp at e
theorem fin_ok {trim : Bool} {n : Nat} {tmp : List Nat} {env env' : MP.Env} {st' : Sto} {σ : L2.St} {F0 : Hp} {ad0 : List Addr} {H0 : Hp} (hn : n = ad0.length) (s : Step F0 ad0 H0 F ad H) (r : RelS K F ad st H) (en : EnvRel K F ad env σ) (e : fin trim n tmp env st = some (env', st')) :
    ∃ ad', Step F0 ad0 H0 F ad' H ∧ RelS K F ad' st' H ∧ EnvRel K F ad' env' σ := by
  unfold fin at e
  cases trim with
  | false =>
    rw [if_neg (by decide)] at e
    cases e
    exact ⟨ad, s, r, en.wipeL tmp⟩
  | true =>
    rw [if_pos rfl] at e
    split at e
    · rename_i hb
      rw [Bool.and_eq_true] at hb
      cases e
      obtain ⟨more, em⟩ := s.pre
      have e0 : ad.take n = ad0 := by rw [em, hn]; simp
      refine ⟨ad.take n, ⟨s.le, ⟨[], by rw [e0]; simp⟩, s.newF, fun a h1 h2 => absurd (by rw [e0] at h1; exact h1) h2, s.keep, s.dom⟩, r.takeT hb.2, ⟨by rw [wipeE_len]; exact en.len, fun i d h => ?_⟩⟩
      obtain ⟨v, h1, h2⟩ := (en.wipeL tmp).at_ i d h
      exact ⟨v, h1, h2.lowT (envBelow_at hb.1 h)⟩
    · cases e
theorem OkX.imp {r : MP.X} (h : OkX K cls W F ad H r D) (hn : ∀ σ H, D.nx σ H → D'.nx σ H) (hr : ∀ v H, D.rt v H → D'.rt v H) : OkX K cls W F ad H r D' := by
  cases r with
  | nx env st' => exact fun F' ad' H' v s' r' x' => hn _ _ (h F' ad' H' v s' r' x')
  | rt d st' => exact fun F' ad' H' v s' r' x' => hr _ _ (h F' ad' H' v s' r' x')
  | err c env st' => exact h
  | stuck => exact h
end
section
variable {C : Con} {N : List Str} {X : Cx} {sc : Scope} {ow : Str → Bool} {W : WX}
theorem ss_nil : PSs X [] (tSs C X W []) := pss_nil.imp fun D σ H ⟨F, ad, env, st, r, en, ok⟩ => by
  unfold exL at ok
  exact ok _ _ _ _ (Step.refl _ _ _) r en
theorem ss_cons {s : S} {ss : List S} {p : Stmt} {ps : List Stmt} (h1 : PS X p (tS C X W s)) (h2 : PSs X ps (tSs C X W ss)) : PSs X (p :: ps) (tSs C X W (s :: ss)) := by
  refine (pss_cons h1 h2).imp fun D σ H ⟨F, ad, env, st, r, en, ok⟩ => ?_
  show tS C X W s { D with nx := tSs C X W ss D } σ H
  unfold exL at ok
  refine ⟨F, ad, env, st, r, en, ?_⟩
  cases q : exS (run C.T C.k) s env st with
  | nx env' st' =>
    rw [q] at ok
    exact fun F' ad' H' σ' s' r' en' => ⟨F', ad', env', st', r', en', OkX.step s' ok⟩
  | rt d st' => rw [q] at ok; exact ok
  | err c env' st' => rw [q] at ok; exact ok
  | stuck => rw [q] at ok; exact ok
theorem ss_ife {c : E} {a b : List S} {pc : Expr} {pa pb : List Stmt} {pos : Pos} (hc : Sd C X (WE W) c pc) (tc : tokB pc = true) (ha : PSs X pa (tSs C X W a)) (hb : PSs X pb (tSs C X W b)) : PS X (.If pc pa pb pos) (tS C X W (.ife c a b)) := by
  refine (ps_if (hc.tst tc) ha hb).imp fun D σ H ⟨F, ad, env, st, r, en, ok⟩ => ?_
  unfold exS at ok
  refine ⟨F, ad, env, st, r, en, ok.bindE en fun d st1 F1 ad1 H1 v s1 r1 x1 ok1 => ?_⟩
  split at ok1
  · cases x1
    exact ⟨true, rfl, iteT ⟨F1, ad1, env, st1, r1, en.step s1, ok1⟩⟩
  · cases x1
    exact ⟨false, rfl, iteF ⟨F1, ad1, env, st1, r1, en.step s1, ok1⟩⟩
  · exact ok1.elim
theorem ss_for {tg : Tg} {it : It} {body : List S} {tmp : List Nat} {trim : Bool} {ptg pit : Expr} {pb : List Stmt} {pos : Pos} (g : GoodS C N X sc ow W) (hi : PI X ptg pit (tI C X (WE W) it)) (hg : PG X ptg (tT X.K tg)) (hb : PSs X pb (tSs C X W body)) (hs : setB pit = false) :
    PS X (.For ptg pit pb [] pos) (tS C X W (.for_ tg it body tmp trim)) := by
  refine (ps_for g.own g.g.calm hi hg hb (not_set hs)).imp fun D σ H ⟨F, ad, env, st, r, en, ok⟩ => ?_
  unfold exS at ok
  refine ⟨F, ad, env, st, r, en, ok.bindIt en fun p st1 F1 ad1 H1 s1 r1 ok1 => ?_⟩
  intro J hJ
  obtain ⟨src, ds⟩ := p
  dsimp only at ok1 hJ ⊢
  have en1 := en.step s1
  clear ok r en
  by_cases hst : stands src ds st1 = true
  case neg =>
    rw [if_pos (by simpa using hst)] at ok1; exact ok1.elim
  rw [if_neg (by simpa using hst)] at ok1
  have hn : st1.length = ad1.length := r1.len.symm
  let bodyF : MP.D → MP.Env → Sto → MP.X := fun d env st => match bindT env tg d with
        | some env' => exL (run C.T C.k) body env' st
        | Option.none => .stuck
  let Wc : Nat → L2.St → Hp → Prop := fun i σ H => i ≤ ds.length ∧ ∃ F' ad' env' st', Step F1 ad1 H1 F' ad' H ∧ RelS X.K F' ad' st' H ∧ EnvRel X.K F' ad' env' σ ∧ stands src ds st' = true ∧ OkX X.K C.cls W F1 ad1 H1 (loopF (stands src ds) trim st1.length tmp bodyF (ds.drop i) env' st') D
  refine ⟨fun i m σ H => m = ds.length - i ∧ Wc i σ H, ⟨ds.length, by simp, Nat.zero_le _, F1, ad1, env, st1, Step.refl _ _ _, r1, en1, hst, by rw [List.drop_zero]; exact ok1⟩, ?_⟩
  rintro i m σ2 H2 ⟨rfl, hi, F2, ad2, env2, st2, s2, r2, en2, hst2, ok2⟩
  by_cases hlt : i < ds.length
  · obtain ⟨jgo, jyld⟩ := hJ.go i F2 ad2 st2 H2 s2 r2 hst2 hlt
    refine .inr ⟨jgo, Wc (i + 1), fun σ' H' w => ⟨ds.length - (i + 1), by omega, rfl, w⟩, fun x H' hy => ?_⟩
    obtain ⟨F3, s3, r3, d, hd, x3⟩ := jyld x H' hy
    have hdrop : ds.drop i = d :: ds.drop (i + 1) := by
      rw [List.drop_eq_getElem_cons hlt]
      congr 1
      rw [List.getElem?_eq_getElem hlt] at hd
      exact Option.some.inj hd
    rw [hdrop] at ok2
    unfold loopF at ok2
    have hbd : bodyF d env2 st2 = (match bindT env2 tg d with
        | some env' => exL (run C.T C.k) body env' st2
        | Option.none => .stuck) := rfl
    rw [hbd] at ok2
    cases hb2 : bindT env2 tg d with
    | none => rw [hb2] at ok2; exact ok2.elim
    | some env3 =>
    rw [hb2] at ok2
    dsimp only at ok2
    refine tT_ok r3 x3 (en2.step s3) hb2 fun σ3 en3 _ => ?_
    have s13 := s2.trans s3
    refine ⟨F3, ad2, env3, st2, r3, en3, ?_⟩
    cases q : exL (run C.T C.k) body env3 st2 with
    | nx env4 st4 =>
      rw [q] at ok2
      dsimp only at ok2
      intro F4 ad4 H4 σ4 s4 r4 en4
      cases hf : fin trim st1.length tmp env4 st4 with
      | none => rw [hf] at ok2; exact ok2.elim
      | some p =>
      obtain ⟨env5, st5⟩ := p
      rw [hf] at ok2
      dsimp only at ok2
      by_cases hst5 : stands src ds st5 = true
      case neg =>
        rw [if_neg hst5] at ok2; exact ok2.elim
      rw [if_pos hst5] at ok2
      obtain ⟨ad5, s5, r5, en5⟩ := fin_ok hn (s13.trans s4) r4 en4 hf
      exact ⟨hlt, F4, ad5, env5, st5, s5, r5, en5, hst5, ok2⟩
    | rt d4 st4 =>
      rw [q] at ok2
      exact fun F4 ad4 H4 v s4 r4 x4 => ok2 F4 ad4 H4 v (s13.trans s4) r4 x4
    | err c env4 st4 =>
      rw [q] at ok2
      exact fun F4 ad4 H4 σ4 a s4 r4 en4 e => ok2 F4 ad4 H4 σ4 a (s13.trans s4) r4 en4 e
    | stuck => rw [q] at ok2; exact ok2.elim
  · have e : i = ds.length := by omega
    subst e
    refine .inl ⟨hJ.stop _ F2 ad2 st2 H2 s2 r2 hst2 (Nat.le_refl _), ?_⟩
    rw [List.drop_length] at ok2
    unfold loopF at ok2
    exact ok2 F2 ad2 H2 σ2 s2 r2 en2
theorem ss_while {c : E} {body : List S} {tmp : List Nat} {trim : Bool} {pc : Expr} {pb : List Stmt} {pos : Pos} (g : GoodS C N X sc ow W) (hc : Sd C X (WE W) c pc) (tc : tokB pc = true) (hb : PSs X pb (tSs C X W body)) :
    PS X (.While pc pb [] pos) (tS C X W (.while_ c body tmp trim)) := by
  refine (ps_while g.own (hc.tst tc) hb).imp fun D σ H ⟨F, ad, env, st, r, en, ok⟩ => ?_
  unfold exS at ok
  have hn : st.length = ad.length := r.len.symm
  generalize wmost = wm at ok
  refine ⟨fun m σ' H' => ∃ F' ad' env' st', Step F ad H F' ad' H' ∧ RelS X.K F' ad' st' H' ∧ EnvRel X.K F' ad' env' σ' ∧
    OkX X.K C.cls W F ad H (loopW trim st.length tmp (fun env st => (evE (run C.T C.k) c env st).bind boolR) (fun env st => exL (run C.T C.k) body env st) m env' st') D, ⟨wm, F, ad, env, st, Step.refl _ _ _, r, en, ok⟩, ?_⟩
  rintro m σ2 H2 ⟨F2, ad2, env2, st2, s2, r2, en2, ok2⟩
  cases m with
  | zero => exact ok2.elim
  | succ m =>
  unfold loopW at ok2
  refine ⟨F2, ad2, env2, st2, r2, en2, ?_⟩
  cases q : evX (run C.T C.k) c env2 st2 with
  | stuck =>
    rw [show evE (run C.T C.k) c env2 st2 = .stuck by unfold evE; rw [q]; rfl] at ok2; exact ok2.elim
  | err e st3 =>
    rw [show evE (run C.T C.k) c env2 st2 = .err e st3 by unfold evE; rw [q]; rfl] at ok2
    exact fun F3 ad3 H3 a s3 r3 ec => ok2 F3 ad3 H3 σ2 a (s2.trans s3) r3 (en2.step s3) ec
  | ok x st3 =>
  rw [show evE (run C.T C.k) c env2 st2 = .ok x.d st3 by unfold evE; rw [q]; rfl, R.bind_ok] at ok2
  intro F3 ad3 H3 v s3 r3 xr
  obtain ⟨F4, s4, r4, x4⟩ := freezeX s3 r3 xr
  generalize x.d = xd at *
  cases x4 with
  | bool b =>
   cases b with
   | true =>
    rw [show boolR (MP.D.bool true) st3 = .ok true st3 from rfl] at ok2
    dsimp only at ok2
    refine ⟨true, rfl, iteT ⟨fun σ' H' => ∃ F' ad' env' st', Step F ad H F' ad' H' ∧ RelS X.K F' ad' st' H' ∧ EnvRel X.K F' ad' env' σ' ∧
      OkX X.K C.cls W F ad H (loopW trim st.length tmp (fun env st => (evE (run C.T C.k) c env st).bind boolR) (fun env st => exL (run C.T C.k) body env st) m env' st') D, fun σ' H' w => ⟨m, by omega, w⟩, ?_⟩⟩
    refine ⟨F4, ad3, env2, st3, r4, en2.step s4, ?_⟩
    have s14 := s2.trans s4
    cases q5 : exL (run C.T C.k) body env2 st3 with
    | nx env5 st5 =>
      rw [q5] at ok2
      dsimp only at ok2
      intro F5 ad5 H5 σ5 s5 r5 en5
      cases hf : fin trim st.length tmp env5 st5 with
      | none => rw [hf] at ok2; exact ok2.elim
      | some p =>
      obtain ⟨env6, st6⟩ := p
      rw [hf] at ok2
      dsimp only at ok2
      obtain ⟨ad6, s6, r6, en6⟩ := fin_ok hn (s14.trans s5) r5 en5 hf
      exact ⟨F5, ad6, env6, st6, s6, r6, en6, ok2⟩
    | rt d5 st5 =>
      rw [q5] at ok2
      exact fun F5 ad5 H5 v s5 r5 x5 => ok2 F5 ad5 H5 v (s14.trans s5) r5 x5
    | err c env5 st5 =>
      rw [q5] at ok2
      exact fun F5 ad5 H5 σ5 a s5 r5 en5 e => ok2 F5 ad5 H5 σ5 a (s14.trans s5) r5 en5 e
    | stuck => rw [q5] at ok2; exact ok2.elim
   | false =>
    refine ⟨false, rfl, iteF ?_⟩
    exact ok2 F4 ad3 H3 σ2 (s2.trans s4) r4 (en2.step s4)
  | _ => exact ok2.elim
mutual
theorem sndS : ∀ (s : S) {p : Stmt}, GoodS C N X sc ow W → chkS C.T C.G C.cls N sc ow s p = true → PS X p (tS C X W s)
  | .set i e, _, g, h => ss_set g h
  | .unpack is e, _, g, h => ss_unpack g h
  | .par2 i j a b, _, g, h => ss_par2 g h
  | .par3 i j k a b c, _, g, h => ss_par3 g h
  | .put o i v, _, g, h => ss_put g h
  | .expr e, _, g, h => ss_expr g h
  | .ret e, _, g, h => ss_ret g h
  | .retN, _, g, h => ss_retN h
  | .ife c a b, _, g, h => by
    unfold chkS at h
    split at h
    · simp only [Bool.and_eq_true] at h
      obtain ⟨⟨⟨h1, h2⟩, h3⟩, h4⟩ := h
      exact ss_ife (sndE c h2 g.g) h1 (sndL a g h3) (sndL b g h4)
    · cases h
  | .for_ tg it body tmp trim, _, g, h => by
    unfold chkS at h
    split at h
    · simp only [Bool.and_eq_true, Bool.not_eq_true'] at h
      obtain ⟨⟨⟨h1, h2⟩, h3⟩, h4⟩ := h
      exact ss_for g (sndI it h2 g.g _ fun z => z) (pg_of g.g h1) (sndL body g h4) h3
    · cases h
  | .while_ c body tmp trim, _, g, h => by
    unfold chkS at h
    split at h
    · simp only [Bool.and_eq_true] at h
      obtain ⟨⟨h1, h2⟩, h3⟩ := h
      exact ss_while g (sndE c h2 g.g) h1 (sndL body g h3)
    · cases h
  | .raise c, _, g, h => ss_raise g h
theorem sndL : ∀ (ss : List S) {ps : List Stmt}, GoodS C N X sc ow W → chkL C.T C.G C.cls N sc ow ss ps = true → PSs X ps (tSs C X W ss)
  | [], ps, g, h => by
    unfold chkL at h
    split at h
    · exact ss_nil
    · cases h
  | s :: ss, ps, g, h => by
    unfold chkL at h
    split at h
    · simp only [Bool.and_eq_true] at h
      exact ss_cons (sndS s g h.1) (sndL ss g h.2)
    · cases h
end
end
end MP

/-! Defs; the end. -/
namespace MP
open PySem PySem.Spec PyProof.Rows L2

/-- a body, its text ahead of it left out -/
def chkB (T : Nat → Option Def) (G : Str → Option D) (cls : Str → Option Addr) (N : List Str) (sc : Scope) (ss : List S) : List Stmt → Bool
  | .Expr (.Constant (.str _) _ _) _ :: ps => chkL T G cls N sc (fun _ => true) ss ps
  | ps => chkL T G cls N sc (fun _ => true) ss ps
structure DefP (T : Nat → Option Def) (G : Str → Option D) (exc : List Str) (d : Def) (e : He.DefD) : Prop where
  at_ : e.at_ = (d.name, none)
  dfl : e.dfl = []
  kwd : e.kwd = []
  sc : FnScope d.locs d.pars e.scope
  chk : ∀ cls : Str → Option Addr, (∀ c ∈ exc, (cls c).isSome = true) → chkB T G cls d.locs e.scope d.body e.body = true
  bind : ∀ (kV doc pm : Value) (an : Option Addr) (cdv ct : Value) (us : List Value), us.length = d.pars.length → bindArgs (PySem.W.fnOf e.name e.qual e.params e.body e.scope .none kV doc pm an cdv ct) ⟨us, []⟩ = pure (d.pars.zip us)
/-- the check without the classes' addresses -/
theorem chkB_cls {T : Nat → Option Def} {G : Str → Option D} {N : List Str} {sc : Scope} {ss : List S} {ps : List Stmt} {exc : List Str} (h : chkB T G (fun c => if exc.contains c then some 0 else none) N sc ss ps = true) :
    ∀ cls : Str → Option Addr, (∀ c ∈ exc, (cls c).isSome = true) → chkB T G cls N sc ss ps = true := fun cls hc => by
  unfold chkB at h ⊢
  split at h <;> exact go hc _ h
where
  goS {cls : Str → Option Addr} {ow : Str → Bool} (hc : ∀ c ∈ exc, (cls c).isSome = true) : ∀ (s : S) {p : Stmt}, chkS T G (fun c => if exc.contains c then some 0 else none) N sc ow s p = true → chkS T G cls N sc ow s p = true
    | .set i e, _, h => by unfold chkS at h ⊢; exact h
    | .unpack is e, _, h => by unfold chkS at h ⊢; exact h
    | .par2 i j a b, _, h => by unfold chkS at h ⊢; exact h
    | .par3 i j k a b c, _, h => by unfold chkS at h ⊢; exact h
    | .put o i v, _, h => by unfold chkS at h ⊢; exact h
    | .expr e, _, h => by unfold chkS at h ⊢; exact h
    | .ret e, _, h => by unfold chkS at h ⊢; exact h
    | .retN, _, h => by unfold chkS at h ⊢; exact h
    | .ife c a b, _, h => by
      unfold chkS at h ⊢
      split at h
      · simp only [Bool.and_eq_true] at h ⊢
        obtain ⟨⟨⟨h1, h2⟩, h3⟩, h4⟩ := h
        exact ⟨⟨⟨h1, h2⟩, go hc a h3⟩, go hc b h4⟩
      · cases h
    | .for_ tg it body tmp trim, _, h => by
      unfold chkS at h ⊢
      split at h
      · simp only [Bool.and_eq_true] at h ⊢
        obtain ⟨⟨⟨h1, h2⟩, h3⟩, h4⟩ := h
        exact ⟨⟨⟨h1, h2⟩, h3⟩, go hc body h4⟩
      · cases h
    | .while_ c body tmp trim, _, h => by
      unfold chkS at h ⊢
      split at h
      · simp only [Bool.and_eq_true] at h ⊢
        obtain ⟨⟨h1, h2⟩, h3⟩ := h
        exact ⟨⟨h1, h2⟩, go hc body h3⟩
      · cases h
    | .raise c, _, h => by
      unfold chkS at h ⊢
      split at h
      · simp only [Bool.and_eq_true, beq_iff_eq] at h ⊢
        obtain ⟨⟨⟨h1, h2⟩, h3⟩, h4⟩ := h
        refine ⟨⟨⟨h1, hc c ?_⟩, h3⟩, h4⟩
        by_cases q : exc.contains c = true
        · simpa using q
        · rw [if_neg q] at h2; cases h2
      · cases h
  go {cls : Str → Option Addr} {ow : Str → Bool} (hc : ∀ c ∈ exc, (cls c).isSome = true) : ∀ (ss : List S) {ps : List Stmt}, chkL T G (fun c => if exc.contains c then some 0 else none) N sc ow ss ps = true → chkL T G cls N sc ow ss ps = true
    | [], ps, h => by unfold chkL at h ⊢; exact h
    | s :: ss, ps, h => by
      unfold chkL at h ⊢
      split at h
      · simp only [Bool.and_eq_true] at h ⊢
        exact ⟨goS hc s h.1, go hc ss h.2⟩
      · cases h
section
variable {P : Program} {w : World} {K : PySem.W.Frag} {mg : Str → Option Value} {base : Heap} {T : Nat → Option Def} {G : Str → Option D} {cls : Str → Option Addr}
theorem sndB {C : Con} {N : List Str} {X : Cx} {sc : Scope} {W : WX} {ss : List S} {ps : List Stmt} (g : GoodS C N X sc (fun _ => true) W) (h : chkB C.T C.G C.cls N sc ss ps = true) : PSs X ps (tSs C X W ss) := by
  unfold chkB at h
  split at h
  · exact (pss_cons ps_doc (sndL ss g h)).imp fun D σ H q => q
  · exact sndL ss g h
theorem run_len {k f : Nat} {d : Def} {ds : List D} {st : Sto} (hT : T f = some d) (h : run T k f ds st ≠ .stuck) : ds.length = d.pars.length := by
  cases k with
  | zero => exact absurd rfl h
  | succ k =>
    unfold run at h
    rw [hT] at h
    dsimp only at h
    unfold runD at h
    by_cases q : ds.length = d.pars.length
    · exact q
    · rw [if_neg q] at h; exact absurd rfl h
theorem sp_len {C : Con} {k f : Nat} {d : Def} (hT : C.T f = some d) : ∀ vs H Q E, spF C K k f vs H Q E → vs.length = d.pars.length := fun vs H Q E ⟨F, ad, st, ds, r, rs, ok⟩ => by
  rw [rs.length]
  refine run_len (T := C.T) (k := k) (f := f) (st := st) hT fun e => ?_
  rw [e] at ok
  exact ok
theorem start_env {F : Hp} {ad : List Addr} {vs : List V} {ds : List D} {N : List Str} (h : Reps K F ad vs ds) : EnvRel K F ad (ds.map some ++ List.replicate (N.length - ds.length) Option.none) (L2.start N vs) := by
  have hl := h.length
  refine ⟨by simp [L2.start, hl], fun i d e => ?_⟩
  by_cases hi : i < ds.length
  · rw [List.getElem?_append_left (by simpa using hi), List.getElem?_map] at e
    cases q : ds[i]? with
    | none => rw [q] at e; cases e
    | some d' =>
      rw [q] at e
      cases e
      obtain ⟨v, h1, h2⟩ := h.get q
      refine ⟨v, ?_, h2⟩
      unfold L2.start
      rw [List.getElem?_append_left (by simp [hl, hi]), List.getElem?_map, h1]; rfl
  · rw [List.getElem?_append_right (by simpa using hi), List.getElem?_replicate] at e
    split at e <;> cases e
/-- what the head tells -/
structure Told (K : PySem.W.Frag) (mg : Str → Option Value) (T : Nat → Option Def) (G : Str → Option D) (exc : List Str) (cls : Str → Option Addr) : Prop where
  defs : ∀ f d, T f = some d → ∃ e a fd, DefP T G exc d e ∧ FunD K e.name e.qual e.params e.body e.scope (e.dvs K) (e.kws K) a fd ∧ mg d.name = some (.ref a)
  glo : ∀ x d, G x = some d → ∃ u v, mg x = some u ∧ RelV v u ∧ ∀ F ad, Rep K F ad v d
  blt : ∀ x, x ∈ bnames → mg x = none
  exo : ∀ c a, cls c = some a → ExcOk K mg c a
  all : ∀ c ∈ exc, (cls c).isSome = true
theorem fns_all {exc : List Str} (t : Told K mg T G exc cls) : ∀ (k f : Nat) (d : Def), T f = some d → ∃ a fd, (∀ (P : Program) (w : World) (base : Heap), FnOk P w K mg base (L2.CX P w) k a fd d.pars (spF ⟨T, cls, G, k⟩ K k f)) ∧ mg d.name = some (.ref a) ∧ PySem.W.keepIn K (.ref a) = true ∧ Binds K fd d.pars [] ∧ ∀ (s : Shared) (us : List Value), us.length = d.pars.length → BindsTo s fd ⟨us, []⟩ (d.pars.zip us)
  | 0, f, d, hT => by
    obtain ⟨e, a, fd, dp, F, hm⟩ := t.defs f d hT
    have e1 : e.dvs K = [] := by unfold He.DefD.dvs; rw [dp.dfl]; rfl
    rw [e1] at F
    refine ⟨a, fd, fun _ _ _ => ⟨sp_len hT, fun A outer s H args us vs Q E _ _ _ _ ⟨_, _, _, _, _, _, ok⟩ => ok.elim⟩, hm, F.kp, F.bindsN dp.bind, F.bindsA dp.bind⟩
  | k + 1, f, d, hT => by
    obtain ⟨e, a, fd, dp, F, hm⟩ := t.defs f d hT
    have e1 : e.dvs K = [] := by unfold He.DefD.dvs; rw [dp.dfl]; rfl
    rw [e1] at F
    have ih := fns_all t k
    refine ⟨a, fd, fun P w base => F.ok dp.sc (sp_len hT) (fun cdv A outer s H vs Q E hr hsp => ?_), hm, F.kp, F.bindsN dp.bind, F.bindsA dp.bind⟩
    have g : GoodS ⟨T, cls, G, k⟩ d.locs (cxOf (L2.CX P w) P w K mg base d.locs e.qual e.scope a cdv A outer s H E) e.scope (fun _ => true) (fun c dd _ H => E c dd H) := by
      have tk : Takes (cxOf (L2.CX P w) P w K mg base d.locs e.qual e.scope a cdv A outer s H E) (fun c dd _ H => E c dd H) := takes_of rfl rfl rfl rfl
      exact ⟨⟨rfl, dp.sc.nd, rfl, rfl, hr, fun σ => passAt tk σ, fun x h => h, ⟨fun f d h => let ⟨a, fd, h1, h2, h3, h4, _⟩ := ih f d h; ⟨a, fd, h1 _ _ _, h2, h3, h4⟩, t.glo, t.blt⟩⟩, passes_of rfl, tk, t.exo, dp.sc.kind⟩
    refine ⟨_, sndB g (dp.chk cls t.all), ?_⟩
    obtain ⟨F, ad, st, ds, r, rs, ok⟩ := hsp
    have hl : ds.length = d.pars.length := run_len (T := T) (k := k + 1) (f := f) (st := st) hT fun q => by
      dsimp only at ok
      rw [q] at ok; exact ok
    refine ⟨F, ad, ds.map some ++ List.replicate (d.locs.length - ds.length) Option.none, st, r, start_env rs, ?_⟩
    dsimp only at ok ⊢
    unfold run at ok
    rw [hT] at ok
    dsimp only at ok
    unfold runD at ok
    rw [if_pos hl] at ok
    cases q : exL (run T k) d.body (ds.map some ++ List.replicate (d.locs.length - ds.length) Option.none) st with
    | nx env st' =>
      rw [q] at ok
      exact fun F' ad' H' σ' s' r' _ => ok F' ad' H' .non s' r' .none
    | rt x st' => rw [q] at ok; exact ok
    | err c env st' =>
      rw [q] at ok
      exact fun F' ad' H' σ' a s' r' _ e => ok F' ad' H' a s' r' e
    | stuck => rw [q] at ok; exact ok.elim
/-- a call's exception, whatever the world -/
def CXa (P : Program) : CXT := fun o H s E u s' => ∃ w, L2.CX P w o H s E u s'
theorem FnOk_any {k : Nat} {f : Addr} {fd : FuncData} {ps : List Str} {sp : Sp} (F : FnOk P w K mg base (L2.CX P w) k f fd ps sp) : FnOk P w K mg base (CXa P) k f fd ps sp :=
  ⟨F.len, fun A outer s H args us vs Q E hr he hb hv hs => codeAny_mono (F.run A outer s H args us vs Q E hr he hb hv hs) fun r s' h => by
    cases r with
    | error e => exact ⟨w, h⟩
    | ok fl => cases fl <;> exact h⟩
theorem cxa_no {H : Hp} {s : Shared} {e : Value} {s' : Shared} (h : CXa P [] H s (fun _ _ _ => False) e s') : False := by
  obtain ⟨w, _, _, _, _, _, _, _, _, _, _, _, _, z⟩ := h
  exact z
/-- the law: what it computes is True -/
theorem law_sp {C : Con} {k f : Nat} {n : Nat} (h : ∀ ns : List Int, ns.length ≤ n → ∃ st, run C.T k f [.scr ns] [] = .ok (.bool true) st) (H : Hp) (a : Addr) (ns : List Int) (hn : ns.length ≤ n) (hS : SqL K H a (ns.map V.int)) :
    spF C K k f [.ref a] H (fun v _ => v = .bl true) fun _ _ _ => False := by
  obtain ⟨st, e⟩ := h ns hn
  refine ⟨H, [], [], [.scr ns], start_rel fun _ _ h => h, .cons (.scr hS) .nil, ?_⟩
  rw [e]
  intro F' ad' H' v s r x
  cases x
  rfl
end
end MP

/-! What the terms compute: loops over lists. -/
namespace MP
open PySem PySem.Spec PyProof.Rows L2

/-- a body's end -/
def endR (r : MP.X) : R D := match r with
  | .nx _ st => .ok .none st
  | .rt x st => .ok x st
  | .err c _ st => .err c st
  | .stuck => .stuck
@[simp] theorem endR_nx (env : MP.Env) (st : Sto) : endR (.nx env st) = .ok .none st := rfl
@[simp] theorem endR_rt (d : D) (st : Sto) : endR (.rt d st) = .ok d st := rfl
@[simp] theorem endR_err (c : Str) (env : MP.Env) (st : Sto) : endR (.err c env st) = .err c st := rfl
theorem run_at {T : Nat → Option Def} {k f : Nat} {d : Def} {args : List D} {st : Sto} (h : T f = some d) (hl : args.length = d.pars.length) :
    run T (k + 1) f args st = endR (exL (run T k) d.body (args.map some ++ List.replicate (d.locs.length - args.length) Option.none) st) := by
  show (match T f with
    | some d => runD (run T k) d args st
    | Option.none => .stuck) = _
  rw [h]
  dsimp only
  unfold runD
  rw [if_pos hl]
  rfl
theorem atI_pos {α : Type} {xs : List α} {i : Int} (h : 0 ≤ i) (h2 : i < xs.length) : atI xs i = xs[i.toNat]? := by
  unfold atI ixN
  rw [if_pos h, if_pos h2]; rfl
theorem atI_neg {α : Type} {xs : List α} {i : Int} (h : i < 0) (h2 : -(xs.length : Int) ≤ i) : atI xs i = xs[(i + xs.length).toNat]? := by
  unfold atI ixN
  rw [if_neg (by omega), if_pos h2]; rfl
/-! ### one step of each form -/
section
variable {cf : CF} {env : MP.Env} {st : Sto}
@[simp] theorem evX_var (i : Nat) : evX cf (.var i) env st = (match env[i]? with
    | some (some d) => .ok (.v d) st
    | _ => .stuck) := by unfold evX <;> rfl
@[simp] theorem evX_lit (d : D) : evX cf (.lit d) env st = .ok (.v d) st := by unfold evX <;> rfl
@[simp] theorem evX_glob (x : Str) (d : D) : evX cf (.glob x d) env st = .ok (.v d) st := by unfold evX <;> rfl
@[simp] theorem evX_bin (o : BOp) (a b : E) : evX cf (.bin o a b) env st = (evX cf a env st).bind fun x st => (evX cf b env st).bind fun y st => binV o x.d y.d st := by rw [evX]
/-- a comparison's end -/
def cmpR (o : COp) (x y : D) (st : Sto) : R Val := match cmpV o st x y with
  | some c => .ok (.v (.bool c)) st
  | Option.none => .stuck
@[simp] theorem evX_cmp (o : COp) (a b : E) : evX cf (.cmp o a b) env st = (evX cf a env st).bind fun x st => (evX cf b env st).bind fun y st => cmpR o x.d y.d st := by rw [evX] <;> rfl
def chainR (c : Option Bool) (r : Sto → R Val) (st : Sto) : R Val := match c with
  | some true => r st
  | some false => .ok (.v (.bool false)) st
  | Option.none => .stuck
@[simp] theorem chainR_b (b : Bool) (r : Sto → R Val) : chainR (some b) r st = if b = true then r st else .ok (.v (.bool false)) st := by cases b <;> rfl
@[simp] theorem evX_chain (o p : COp) (a b c : E) : evX cf (.chain o p a b c) env st = (evX cf a env st).bind fun x st => (evX cf b env st).bind fun y st => chainR (cmpV o st x.d y.d) (fun st => (evX cf c env st).bind fun z st => cmpR p y.d z.d st) st := by rw [evX] <;> rfl
def landR (x : Val) (r : Sto → R Val) (st : Sto) : R Val := match x with
  | .v (.bool true) => r st
  | .v (.bool false) => .ok (.v (.bool false)) st
  | _ => .stuck
def lorR (x : Val) (r : Sto → R Val) (st : Sto) : R Val := match x with
  | .v (.bool false) => r st
  | .v (.bool true) => .ok (.v (.bool true)) st
  | _ => .stuck
def notR (x : Val) (st : Sto) : R Val := match x with
  | .v (.bool c) => .ok (.v (.bool (!c))) st
  | _ => .stuck
def iteR (x : Val) (r s : Sto → R Val) (st : Sto) : R Val := match x with
  | .v (.bool true) => r st
  | .v (.bool false) => s st
  | _ => .stuck
@[simp] theorem landR_b (b : Bool) (r : Sto → R Val) : landR (.v (.bool b)) r st = if b = true then r st else .ok (.v (.bool false)) st := by cases b <;> rfl
@[simp] theorem lorR_b (b : Bool) (r : Sto → R Val) : lorR (.v (.bool b)) r st = if b = true then .ok (.v (.bool true)) st else r st := by cases b <;> rfl
@[simp] theorem notR_b (b : Bool) : notR (.v (.bool b)) st = .ok (.v (.bool (!b))) st := rfl
@[simp] theorem iteR_b (b : Bool) (r s : Sto → R Val) : iteR (.v (.bool b)) r s st = if b = true then r st else s st := by cases b <;> rfl
@[simp] theorem evX_land (a b : E) : evX cf (.land a b) env st = (evX cf a env st).bind fun x st => landR x (fun st => evX cf b env st) st := by rw [evX] <;> rfl
@[simp] theorem evX_lor (a b : E) : evX cf (.lor a b) env st = (evX cf a env st).bind fun x st => lorR x (fun st => evX cf b env st) st := by rw [evX] <;> rfl
@[simp] theorem evX_lnot (a : E) : evX cf (.lnot a) env st = (evX cf a env st).bind fun x st => notR x st := by rw [evX] <;> rfl
@[simp] theorem evX_ite (c a b : E) : evX cf (.ite c a b) env st = (evX cf c env st).bind fun x st => iteR x (fun st => evX cf a env st) (fun st => evX cf b env st) st := by rw [evX] <;> rfl
@[simp] theorem evX_tup (es : Es) : evX cf (.tup es) env st = (evXs cf es env st).bind fun ds st => if ds.length ≤ sizeLine then .ok (.v (.tup ds)) st else .stuck := by rw [evX]
@[simp] theorem evX_list (es : Es) : evX cf (.list es) env st = (evXs cf es env st).bind fun ds st => if ds.length ≤ sizeLine then .ok (.new ds) st else .stuck := by rw [evX]
def ixR (x y : D) (st : Sto) : R Val := match ixV st x y with
  | some d => .ok (.v d) st
  | Option.none => .stuck
@[simp] theorem evX_ix (a b : E) : evX cf (.ix a b) env st = (evX cf a env st).bind fun x st => (evX cf b env st).bind fun y st => ixR x.d y.d st := by rw [evX] <;> rfl
@[simp] theorem evX_sl (a lo hi : E) : evX cf (.sl a lo hi) env st = (evX cf a env st).bind fun x st => (evX cf lo env st).bind fun l st => (match partOf lo l.d with
    | some l => (evX cf hi env st).bind fun u st => (match partOf hi u.d with
      | some u => slV x.d l u st
      | Option.none => .stuck)
    | Option.none => .stuck) := by rw [evX] <;> rfl
@[simp] theorem evX_call (f : Nat) (es : Es) : evX cf (.call f es) env st = (evXs cf es env st).bind fun ds st => callP cf f ds st := by rw [evX]
@[simp] theorem evX_callC (f : Nat) (es : Es) : evX cf (.callC f es) env st = (evXs cf es env st).bind fun ds st => callC cf f ds st := by rw [evX]
@[simp] theorem evX_callS (f : Nat) (es : Es) : evX cf (.callS f es) env st = (evXs cf es env st).bind fun ds st => callS cf f ds st := by rw [evX]
@[simp] theorem evX_bi (f : BI) (es : Es) : evX cf (.bi f es) env st = (evXs cf es env st).bind fun ds st => biV f ds st := by rw [evX]
@[simp] theorem evX_mt (m : MT) (o : E) (es : Es) : evX cf (.mt m o es) env st = (evX cf o env st).bind fun x st => if mtIs m x.d st then (evXs cf es env st).bind fun ds st => mtV m x.d ds st else .stuck := by rw [evX]
/-- a turn of a comprehension -/
def turnC (cf : CF) (elt : E) (tg : Tg) (cond : E) (env : MP.Env) (d : D) (st : Sto) : R (Option D) := match bindT env tg d with
  | some env' => (evX cf cond env' st).bind fun c st => (match c with
    | .v (.bool true) => (evX cf elt env' st).bind fun y st => .ok (some y.d) st
    | .v (.bool false) => .ok Option.none st
    | _ => .stuck)
  | Option.none => .stuck
def compR (ok : Sto → Bool) (f : D → Sto → R (Option D)) (ds : List D) (st : Sto) : R Val := if !ok st then .stuck else match loopC ok f ds st with
  | .ok ys st => if ys.length ≤ sizeLine then .ok (.new ys) st else .stuck
  | _ => .stuck
@[simp] theorem evX_comp (elt : E) (tg : Tg) (it : It) (cond : E) (own : List Nat) : evX cf (.comp elt tg it cond own) env st = (evI cf it env st).bind fun p st => compR (stands p.1 p.2) (turnC cf elt tg cond (wipeE env own)) p.2 st := by rw [evX] <;> rfl
def cellR (x : Val) (st : Sto) : R Val := match x with
  | .new ds => .ok (.v (.ref st.length)) (st ++ [.lst ds])
  | _ => .stuck
@[simp] theorem cellR_new (ds : List D) : cellR (.new ds) st = .ok (.v (.ref st.length)) (st ++ [.lst ds]) := rfl
@[simp] theorem evX_cell (e : E) : evX cf (.cell e) env st = (evX cf e env st).bind fun x st => cellR x st := by rw [evX] <;> rfl
@[simp] theorem evXs_nil : evXs cf .nil env st = .ok [] st := by unfold evXs <;> rfl
@[simp] theorem evXs_cons (e : E) (es : Es) : evXs cf (.cons e es) env st = (evX cf e env st).bind fun x st => (evXs cf es env st).bind fun xs st => .ok (x.d :: xs) st := by rw [evXs]
def itR (d : D) (st : Sto) : R (D × List D) := match items st d with
  | some ds => .ok (d, ds) st
  | Option.none => .stuck
@[simp] theorem evI_seq (e : E) : evI cf (.seq e) env st = (evX cf e env st).bind fun x st => itR x.d st := by rw [evI] <;> rfl
@[simp] theorem evI_range1 (a : E) : evI cf (.range1 a) env st = (evX cf a env st).bind fun x st => (match x with
    | .v (.int n) => if n ≤ sizeLine ∧ -(2 ^ 62) ≤ n then .ok (.none, (rangeI 0 n.toNat).map D.int) st else .stuck
    | _ => .stuck) := by rw [evI] <;> rfl
@[simp] theorem evI_range2 (a b : E) : evI cf (.range2 a b) env st = (evX cf a env st).bind fun x st => (evX cf b env st).bind fun y st => (match x, y with
    | .v (.int i), .v (.int j) => if j - i ≤ sizeLine ∧ -(2 ^ 62) ≤ i ∧ i < 2 ^ 62 ∧ -(2 ^ 62) ≤ j ∧ j < 2 ^ 62 then .ok (.none, (rangeI i (j - i).toNat).map D.int) st else .stuck
    | _, _ => .stuck) := by rw [evI] <;> rfl
@[simp] theorem evE_eq (e : E) : evE cf e env st = (evX cf e env st).bind fun x st => .ok x.d st := rfl
/-! statements -/
@[simp] theorem exS_set (i : Nat) (e : E) : exS cf (.set i e) env st = (evE cf e env st).toX env fun d st => .nx (env.set i (some d)) st := by rw [exS]
def unR (is : List Nat) (env : MP.Env) (d : D) (st : Sto) : MP.X := match bindT env (.many is) d with
  | some env' => .nx env' st
  | Option.none => .stuck
@[simp] theorem exS_unpack (is : List Nat) (e : E) : exS cf (.unpack is e) env st = (evE cf e env st).toX env fun d st => unR is env d st := by rw [exS] <;> rfl
@[simp] theorem exS_par2 (i j : Nat) (a b : E) : exS cf (.par2 i j a b) env st = (evE cf a env st).toX env fun x st => (evE cf b env st).toX env fun y st => .nx ((env.set i (some x)).set j (some y)) st := by rw [exS]
@[simp] theorem exS_par3 (i j k : Nat) (a b c : E) : exS cf (.par3 i j k a b c) env st = (evE cf a env st).toX env fun x st => (evE cf b env st).toX env fun y st => (evE cf c env st).toX env fun z st => .nx (((env.set i (some x)).set j (some y)).set k (some z)) st := by rw [exS]
def putR (env : MP.Env) (x y z : D) (st : Sto) : MP.X := match putV x y z st with
  | some st' => .nx env st'
  | Option.none => .stuck
@[simp] theorem exS_put (o i v : E) : exS cf (.put o i v) env st = (evE cf v env st).toX env fun z st => (evE cf o env st).toX env fun x st => (evE cf i env st).toX env fun y st => putR env x y z st := by rw [exS] <;> rfl
@[simp] theorem exS_expr (e : E) : exS cf (.expr e) env st = (evE cf e env st).toX env fun _ st => .nx env st := by rw [exS]
@[simp] theorem exS_ret (e : E) : exS cf (.ret e) env st = (evE cf e env st).toX env fun d st => .rt d st := by rw [exS]
@[simp] theorem exS_retN : exS cf .retN env st = .rt .none st := by unfold exS <;> rfl
@[simp] theorem exS_raise (c : Str) : exS cf (.raise c) env st = .err c env st := by unfold exS <;> rfl
def ifR (d : D) (a b : Sto → MP.X) (st : Sto) : MP.X := match d with
  | .bool true => a st
  | .bool false => b st
  | _ => .stuck
@[simp] theorem ifR_b (c : Bool) (a b : Sto → MP.X) : ifR (.bool c) a b st = if c = true then a st else b st := by cases c <;> rfl
@[simp] theorem exS_ife (c : E) (a b : List S) : exS cf (.ife c a b) env st = (evE cf c env st).toX env fun d st => ifR d (fun st => exL cf a env st) (fun st => exL cf b env st) st := by rw [exS] <;> rfl
/-- a turn of a loop -/
def turnF (cf : CF) (tg : Tg) (body : List S) (d : D) (env : MP.Env) (st : Sto) : MP.X := match bindT env tg d with
  | some env' => exL cf body env' st
  | Option.none => .stuck
def forR (ok : Sto → Bool) (trim : Bool) (n : Nat) (tmp : List Nat) (body : D → MP.Env → Sto → MP.X) (ds : List D) (env : MP.Env) (st : Sto) : MP.X := if !ok st then .stuck else loopF ok trim n tmp body ds env st
@[simp] theorem exS_for (tg : Tg) (it : It) (body : List S) (tmp : List Nat) (trim : Bool) : exS cf (.for_ tg it body tmp trim) env st = (evI cf it env st).toX env fun p st => forR (stands p.1 p.2) trim st.length tmp (turnF cf tg body) p.2 env st := by rw [exS] <;> rfl
def sqX (r : MP.X) (f : MP.Env → Sto → MP.X) : MP.X := match r with
  | .nx env st => f env st
  | x => x
@[simp] theorem sqX_nx (f : MP.Env → Sto → MP.X) : sqX (.nx env st) f = f env st := rfl
@[simp] theorem sqX_rt (d : D) (f : MP.Env → Sto → MP.X) : sqX (.rt d st) f = .rt d st := rfl
@[simp] theorem sqX_err (c : Str) (f : MP.Env → Sto → MP.X) : sqX (.err c env st) f = .err c env st := rfl
@[simp] theorem exL_nil : exL cf [] env st = .nx env st := by unfold exL <;> rfl
@[simp] theorem exL_cons (s : S) (ss : List S) : exL cf (s :: ss) env st = sqX (exS cf s env st) fun env st => exL cf ss env st := by
  rw [exL]
  unfold sqX
  rfl
end
/-! ### operations on known values -/
section
variable {st : Sto}
@[simp] theorem add_ii (i j : Int) : binV .add (.int i) (.int j) st = .ok (.v (.int (i + j))) st := rfl
@[simp] theorem sub_ii (i j : Int) : binV .sub (.int i) (.int j) st = .ok (.v (.int (i - j))) st := rfl
@[simp] theorem mul_ii (i j : Int) : binV .mul (.int i) (.int j) st = if L2.CMul i j then .ok (.v (.int (i * j))) st else .stuck := rfl
@[simp] theorem fdiv_ii (i j : Int) : binV .fdiv (.int i) (.int j) st = if L2.CDivN i j then .ok (.v (.int (i.fdiv j))) st else .stuck := rfl
@[simp] theorem mod_ii (i j : Int) : binV .mod (.int i) (.int j) st = if j ≠ 0 then .ok (.v (.int (i.fmod j))) st else .stuck := rfl
@[simp] theorem pow_ii (i j : Int) : binV .pow (.int i) (.int j) st = if L2.CPow i j then .ok (.v (.int (i ^ j.toNat))) st else .stuck := rfl
@[simp] theorem lt_ii (i j : Int) : cmpV .lt st (.int i) (.int j) = some (decide (i < j)) := rfl
@[simp] theorem le_ii (i j : Int) : cmpV .le st (.int i) (.int j) = some (decide (i ≤ j)) := rfl
@[simp] theorem gt_ii (i j : Int) : cmpV .gt st (.int i) (.int j) = some (decide (j < i)) := rfl
@[simp] theorem ge_ii (i j : Int) : cmpV .ge st (.int i) (.int j) = some (decide (j ≤ i)) := rfl
@[simp] theorem ge_ss (i j : Str) : cmpV .ge st (.str i) (.str j) = some (!decide (i.cps.toList < j.cps.toList)) := rfl
@[simp] theorem lt_ss (i j : Str) : cmpV .lt st (.str i) (.str j) = some (decide (i.cps.toList < j.cps.toList)) := rfl
@[simp] theorem in_ss (i j : Str) : cmpV .isin st (.str i) (.str j) = some (strIn i j) := rfl
@[simp] theorem frz_int (i : Int) : frz st (.int i) = some (.int i) := rfl
@[simp] theorem frz_str (i : Str) : frz st (.str i) = some (.str i) := rfl
@[simp] theorem frz_bool (i : Bool) : frz st (.bool i) = some (.bool i) := rfl
@[simp] theorem frz_none : frz st .none = some .none := rfl
theorem frz_of {d : D} (h : d.noref = true) : frz st d = some d := D.noref_map h
theorem frzs_of {ds : List D} (h : norefs ds = true) : frzs st ds = some ds := norefs_map h
@[simp] theorem shp_int (i : Int) : (D.int i).shp = true := rfl
theorem shp_str (i : Str) (h : i.cps.all (· < 0x110000) = true) : (D.str i).shp = true := by
  show (PyData.canLay0 (.str i) && decide (PyData.depth (.str i) ≤ 64)) = true
  simp only [PyData.canLay0, PyData.depth]
  simpa [PyData.strOk] using h
@[simp] theorem shp_bool (i : Bool) : (D.bool i).shp = true := rfl
@[simp] theorem shp_none : D.none.shp = true := rfl
@[simp] theorem eq_ii (i j : Int) : eqD (.int i) (.int j) = decide (i = j) := by
  show PyData.eqv (.int i) (.int j) = _
  simp only [PyData.eqv]
  rfl
end
theorem loopC_map {α : Type} {ok : Sto → Bool} {f : D → Sto → R (Option D)} {enc : α → D} {r : α → Option D} {st : Sto} (hok : ok st = true) : ∀ {xs : List α}, (∀ x ∈ xs, f (enc x) st = .ok (r x) st) → loopC ok f (xs.map enc) st = .ok (xs.filterMap r) st
  | [], _ => rfl
  | x :: xs, h => by
    rw [List.map_cons]
    unfold loopC
    rw [h x List.mem_cons_self]
    dsimp only
    rw [if_pos hok, loopC_map hok fun y hy => h y (List.mem_cons_of_mem _ hy)]
    cases e : r x with
    | none => simp [e]
    | some y => simp [e]
/-- a loop that may end by a return; else all is as it was -/
theorem loopF_find {α : Type} {ok : Sto → Bool} {trim : Bool} {n : Nat} {tmp : List Nat} {body : D → MP.Env → Sto → MP.X} {enc : α → D} {env : MP.Env} {st : Sto} {r : α → Option D} (hok : ok st = true) :
    ∀ {xs : List α}, (∀ x ∈ xs, match r x with
      | some d => body (enc x) env st = .rt d st
      | Option.none => ∃ env', body (enc x) env st = .nx env' st ∧ fin trim n tmp env' st = some (env, st)) →
    loopF ok trim n tmp body (xs.map enc) env st = (match xs.findSome? r with
      | some d => .rt d st
      | Option.none => .nx env st)
  | [], _ => rfl
  | x :: xs, h => by
    rw [List.map_cons]
    unfold loopF
    have h1 := h x List.mem_cons_self
    rw [List.findSome?_cons]
    cases e : r x with
    | some d =>
      rw [e] at h1
      dsimp only at h1
      rw [h1]
    | none =>
      rw [e] at h1
      obtain ⟨env', h1, h2⟩ := h1
      rw [h1]
      dsimp only
      rw [h2]
      dsimp only
      rw [if_pos hok]
      exact loopF_find hok fun y hy => h y (List.mem_cons_of_mem _ hy)
/-- .. by the same value each time -/
theorem loopF_all {α : Type} {ok : Sto → Bool} {trim : Bool} {n : Nat} {tmp : List Nat} {body : D → MP.Env → Sto → MP.X} {enc : α → D} {env : MP.Env} {st : Sto} (p : α → Bool) (d : D) (hok : ok st = true) :
    ∀ {xs : List α}, (∀ x ∈ xs, (p x = false → body (enc x) env st = .rt d st) ∧ (p x = true → ∃ env', body (enc x) env st = .nx env' st ∧ fin trim n tmp env' st = some (env, st))) →
    loopF ok trim n tmp body (xs.map enc) env st = if xs.all p = true then .nx env st else .rt d st
  | [], _ => rfl
  | x :: xs, h => by
    rw [List.map_cons]
    unfold loopF
    obtain ⟨h1, h2⟩ := h x List.mem_cons_self
    rw [List.all_cons]
    cases e : p x with
    | false => rw [h1 e]; rfl
    | true =>
      obtain ⟨env', h3, h4⟩ := h2 e
      rw [h3]
      dsimp only
      rw [h4]
      dsimp only
      rw [if_pos hok, Bool.true_and]
      exact loopF_all p d hok fun y hy => h y (List.mem_cons_of_mem _ hy)
/-- a loop with a state that is some state each time -/
theorem loopF_ex {α β : Type} {ok : Sto → Bool} {trim : Bool} {n : Nat} {tmp : List Nat} {body : D → MP.Env → Sto → MP.X} {enc : α → D} (I : Nat → β → Prop) (envOf : β → MP.Env) (stOf : β → Sto) (hok : ∀ s, ok (stOf s) = true) :
    ∀ {xs : List α} {j : Nat} {s : β}, I j s → (∀ i x s, xs[i]? = some x → I (j + i) s → ∃ s' env' st', I (j + i + 1) s' ∧ body (enc x) (envOf s) (stOf s) = .nx env' st' ∧ fin trim n tmp env' st' = some (envOf s', stOf s')) →
    ∃ s', loopF ok trim n tmp body (xs.map enc) (envOf s) (stOf s) = .nx (envOf s') (stOf s') ∧ I (j + xs.length) s'
  | [], j, s, i, _ => ⟨s, rfl, i⟩
  | x :: xs, j, s, i, h => by
    obtain ⟨s', env', st', i', h1, h2⟩ := h 0 x s rfl i
    obtain ⟨s2, e2, i2⟩ := loopF_ex I envOf stOf hok (xs := xs) (j := j + 1) (s := s') i' fun i y s hy hi => by
      obtain ⟨s', env', st', a, b, c⟩ := h (i + 1) y s (by simpa using hy) (by rw [show j + (i + 1) = j + 1 + i by omega]; exact hi)
      exact ⟨s', env', st', by rw [show j + 1 + i + 1 = j + (i + 1) + 1 by omega]; exact a, b, c⟩
    refine ⟨s2, ?_, by rw [List.length_cons, show j + (xs.length + 1) = j + 1 + xs.length by omega]; exact i2⟩
    rw [List.map_cons]
    unfold loopF
    rw [h1]
    dsimp only
    rw [h2]
    dsimp only
    rw [if_pos (hok _)]
    exact e2
/-- a loop with a state -/
theorem loopF_fold {α β : Type} {ok : Sto → Bool} {trim : Bool} {n : Nat} {tmp : List Nat} {body : D → MP.Env → Sto → MP.X} {enc : α → D} (I : β → Prop) (envOf : β → MP.Env) (stOf : β → Sto) (g : β → α → β) (hok : ∀ s, ok (stOf s) = true) :
    ∀ {xs : List α} {s : β}, I s → (∀ x ∈ xs, ∀ s, I s → I (g s x) ∧ ∃ env' st', body (enc x) (envOf s) (stOf s) = .nx env' st' ∧ fin trim n tmp env' st' = some (envOf (g s x), stOf (g s x))) →
    loopF ok trim n tmp body (xs.map enc) (envOf s) (stOf s) = .nx (envOf (xs.foldl g s)) (stOf (xs.foldl g s)) ∧ I (xs.foldl g s)
  | [], s, i, _ => ⟨rfl, i⟩
  | x :: xs, s, i, h => by
    rw [List.map_cons]
    unfold loopF
    obtain ⟨i', env', st', h1, h2⟩ := h x List.mem_cons_self s i
    rw [h1]
    dsimp only
    rw [h2]
    dsimp only
    rw [if_pos (hok _)]
    exact loopF_fold I envOf stOf g hok i' fun y hy => h y (List.mem_cons_of_mem _ hy)
/-! ### typed lists -/
def eL {α : Type} (f : α → D) (l : List α) : D := .list (l.map f)
section
variable {α : Type} {f : α → D} {l m : List α} {st : Sto}
@[simp] theorem eL_fold : D.list (l.map f) = eL f l := rfl
@[simp] theorem listOf_eL : listOf st (eL f l) = some (l.map f) := rfl
@[simp] theorem seqOf_eL : seqOf st (eL f l) = some (l.map f) := rfl
@[simp] theorem items_eL : items st (eL f l) = some (l.map f) := rfl
@[simp] theorem stands_eL (ds : List D) : stands (eL f l) ds st = true := rfl
@[simp] theorem stands_none (ds : List D) : stands .none ds st = true := rfl
@[simp] theorem len_eL : lenV (eL f l) st = .ok (.v (.int l.length)) st := by
  show (match seqOf st (eL f l) with
    | some xs => R.ok (Val.v (D.int xs.length)) st
    | Option.none => R.stuck) = _
  rw [seqOf_eL]
  simp
@[simp] theorem len_scr (ns : List Int) : lenV (.scr ns) st = .ok (.v (.int ns.length)) st := by
  show R.ok (Val.v (D.int (ns.map D.int).length)) st = _
  simp
theorem len_str {z : Str} (h : z.length ≤ sizeLine) : lenV (.str z) st = .ok (.v (.int z.length)) st := by
  show (if z.length ≤ sizeLine then R.ok (Val.v (D.int z.length)) st else R.stuck) = _
  rw [if_pos h]
@[simp] theorem bi_len (d : D) : biV .len [d] st = lenV d st := rfl
theorem ix_eL {i : Int} {x : α} (h : atI l i = some x) : ixR (eL f l) (.int i) st = .ok (.v (f x)) st := by
  have e : ixV st (eL f l) (.int i) = some (f x) := by
    show atI (l.map f) i = some (f x)
    unfold atI at h ⊢
    rw [List.length_map]
    cases q : ixN l.length i with
    | none => rw [q] at h; cases h
    | some j =>
      rw [q] at h
      show (l.map f)[j]? = some (f x)
      have h' : l[j]? = some x := h
      rw [List.getElem?_map, h']; rfl
  unfold ixR
  rw [e]
theorem ix_scr {ns : List Int} {i : Int} {x : Int} (h : atI ns i = some x) : ixR (.scr ns) (.int i) st = .ok (.v (.int x)) st := by
  have e : ixV st (.scr ns) (.int i) = some (.int x) := by
    show atI (ns.map D.int) i = some (.int x)
    unfold atI at h ⊢
    rw [List.length_map]
    cases q : ixN ns.length i with
    | none => rw [q] at h; cases h
    | some j =>
      rw [q] at h
      show (ns.map D.int)[j]? = some (.int x)
      have h' : ns[j]? = some x := h
      rw [List.getElem?_map, h']; rfl
  unfold ixR
  rw [e]
theorem norefs_map_of (h : ∀ x ∈ l, (f x).noref = true) : norefs (l.map f) = true := by
  induction l with
  | nil => rfl
  | cons a r ih =>
    show ((f a).noref && norefs (r.map f)) = true
    rw [h a List.mem_cons_self, ih fun x hx => h x (List.mem_cons_of_mem _ hx)]; rfl
theorem noref_eL (h : ∀ x ∈ l, (f x).noref = true) : (eL f l).noref = true := norefs_map_of h
theorem canLays (h : ∀ x ∈ l, (f x).py.canLay0 = true) : PyData.canLayAll0 (pys (l.map f)) = true := by
  induction l with
  | nil => rfl
  | cons a r ih =>
    show ((f a).py.canLay0 && PyData.canLayAll0 (pys (r.map f))) = true
    rw [h a List.mem_cons_self, ih fun x hx => h x (List.mem_cons_of_mem _ hx)]; rfl
theorem depths {n : Nat} (h : ∀ x ∈ l, (f x).py.depth ≤ n) : PyData.depthAll (pys (l.map f)) ≤ n := by
  induction l with
  | nil => exact Nat.zero_le _
  | cons a r ih =>
    show max (f a).py.depth (PyData.depthAll (pys (r.map f))) ≤ n
    have h1 := h a List.mem_cons_self
    have h2 := ih fun x hx => h x (List.mem_cons_of_mem _ hx)
    omega
theorem eqs_map [DecidableEq α] (h : ∀ x ∈ l, ∀ y ∈ m, eqD (f x) (f y) = decide (x = y)) : PyData.eqvAll (pys (l.map f)) (pys (m.map f)) = decide (l = m) := by
  induction l generalizing m with
  | nil =>
    cases m with
    | nil => simp [pys, PyData.eqvAll]
    | cons b r => simp [pys, PyData.eqvAll]
  | cons a r ih =>
    cases m with
    | nil => simp [pys, PyData.eqvAll]
    | cons b s =>
      have e := h a List.mem_cons_self b List.mem_cons_self
      have e2 := ih (m := s) fun x hx y hy => h x (List.mem_cons_of_mem _ hx) y (List.mem_cons_of_mem _ hy)
      unfold eqD at e
      simp only [List.map_cons, pys, PyData.eqvAll, e, e2]
      by_cases q : a = b <;> by_cases q2 : r = s <;> simp [q, q2]
end
/-- what may be compared: no cells, strs in order, not deep -/
structure Cmp (d : D) (n : Nat) : Prop where
  nr : d.noref = true
  lay : d.py.canLay0 = true
  dep : d.py.depth ≤ n
theorem Cmp.shp {d : D} {n : Nat} (h : Cmp d n) (hn : n ≤ 64) : d.shp = true := by
  show (d.py.canLay0 && decide (d.py.depth ≤ 64)) = true
  rw [h.lay]
  simpa using Nat.le_trans h.dep hn
theorem cmp_int (i : Int) : Cmp (.int i) 0 := ⟨rfl, rfl, Nat.le_refl _⟩
theorem cmp_bool (i : Bool) : Cmp (.bool i) 0 := ⟨rfl, rfl, Nat.le_refl _⟩
theorem cmp_none : Cmp .none 0 := ⟨rfl, rfl, Nat.le_refl _⟩
def sOk (x : Str) : Prop := x.cps.all (· < 0x110000) = true
theorem cmp_str {x : Str} (h : sOk x) : Cmp (.str x) 0 := ⟨rfl, by simpa [D.py, PyData.canLay0, PyData.strOk] using (show x.cps.all (· < 0x110000) = true from h), by simp [D.py, PyData.depth]⟩
theorem cmp_eL {α : Type} {f : α → D} {l : List α} {n : Nat} (h : ∀ x ∈ l, Cmp (f x) n) : Cmp (eL f l) (n + 1) :=
  ⟨noref_eL fun x hx => (h x hx).nr, by
    show PyData.canLay0 (.list (pys (l.map f))) = true
    simp only [PyData.canLay0]
    exact canLays fun x hx => (h x hx).lay, by
    show PyData.depth (.list (pys (l.map f))) ≤ n + 1
    simp only [PyData.depth]
    have := depths (f := f) (l := l) fun x hx => (h x hx).dep
    omega⟩
theorem cmp_eq {a b : D} {n m : Nat} {st : Sto} (ha : Cmp a n) (hb : Cmp b m) (hn : n ≤ 64) (hm : m ≤ 64) : cmpR .eq a b st = .ok (.v (.bool (eqD a b))) st := by
  unfold cmpR cmpV
  simp only [frz_of ha.nr, frz_of hb.nr, ha.shp hn, hb.shp hm, Bool.and_self, if_true]
theorem cmp_ne {a b : D} {n m : Nat} {st : Sto} (ha : Cmp a n) (hb : Cmp b m) (hn : n ≤ 64) (hm : m ≤ 64) : cmpR .ne a b st = .ok (.v (.bool (!eqD a b))) st := by
  unfold cmpR cmpV
  simp only [frz_of ha.nr, frz_of hb.nr, ha.shp hn, hb.shp hm, Bool.and_self, if_true]
@[simp] theorem cmp_eq_ii (i j : Int) (st : Sto) : cmpR .eq (.int i) (.int j) st = .ok (.v (.bool (decide (i = j)))) st := by
  rw [cmp_eq (cmp_int i) (cmp_int j) (by decide) (by decide), eq_ii]
@[simp] theorem cmp_ne_ii (i j : Int) (st : Sto) : cmpR .ne (.int i) (.int j) st = .ok (.v (.bool (!decide (i = j)))) st := by
  rw [cmp_ne (cmp_int i) (cmp_int j) (by decide) (by decide), eq_ii]
theorem eq_str (a b : Str) : eqD (.str a) (.str b) = decide (a = b) := by
  show PyData.eqv (.str a) (.str b) = _
  simp only [PyData.eqv]
  rfl
theorem eq_eL {α : Type} [DecidableEq α] {f : α → D} {l m : List α} (h : ∀ x ∈ l, ∀ y ∈ m, eqD (f x) (f y) = decide (x = y)) : eqD (eL f l) (eL f m) = decide (l = m) := by
  show PyData.eqv (.list (pys (l.map f))) (.list (pys (m.map f))) = _
  simp only [PyData.eqv]
  exact eqs_map h
theorem eq_int (a b : Int) : eqD (.int a) (.int b) = decide (a = b) := eq_ii a b
def ltS (a b : Str) : Bool := decide (a.cps.toList < b.cps.toList)
section
variable {st : Sto}
@[simp] theorem r_lt_ii (i j : Int) : cmpR .lt (.int i) (.int j) st = .ok (.v (.bool (decide (i < j)))) st := rfl
@[simp] theorem r_le_ii (i j : Int) : cmpR .le (.int i) (.int j) st = .ok (.v (.bool (decide (i ≤ j)))) st := rfl
@[simp] theorem r_gt_ii (i j : Int) : cmpR .gt (.int i) (.int j) st = .ok (.v (.bool (decide (j < i)))) st := rfl
@[simp] theorem r_ge_ii (i j : Int) : cmpR .ge (.int i) (.int j) st = .ok (.v (.bool (decide (j ≤ i)))) st := rfl
@[simp] theorem r_in_ss (i j : Str) : cmpR .isin (.str i) (.str j) st = .ok (.v (.bool (strIn i j))) st := rfl
@[simp] theorem r_ge_ss (i j : Str) : cmpR .ge (.str i) (.str j) st = .ok (.v (.bool (!ltS i j))) st := rfl
@[simp] theorem r_lt_ss (i j : Str) : cmpR .lt (.str i) (.str j) st = .ok (.v (.bool (ltS i j))) st := rfl
@[simp] theorem noref_int (i : Int) : (D.int i).noref = true := rfl
@[simp] theorem noref_str (i : Str) : (D.str i).noref = true := rfl
@[simp] theorem noref_bool (i : Bool) : (D.bool i).noref = true := rfl
@[simp] theorem noref_none : D.none.noref = true := rfl
@[simp] theorem noref_scr (i : List Int) : (D.scr i).noref = true := rfl
@[simp] theorem noref_eI (l : List Int) : (eL D.int l).noref = true := noref_eL fun _ _ => rfl
@[simp] theorem noref_eS (l : List Str) : (eL D.str l).noref = true := noref_eL fun _ _ => rfl
@[simp] theorem noref_eB (l : List Bool) : (eL D.bool l).noref = true := noref_eL fun _ _ => rfl
@[simp] theorem noref_eII (l : List (List Int)) : (eL (eL D.int) l).noref = true := noref_eL fun _ _ => noref_eI _
@[simp] theorem noref_eSS (l : List (List Str)) : (eL (eL D.str) l).noref = true := noref_eL fun _ _ => noref_eS _
@[simp] theorem norefs_nil : norefs [] = true := rfl
@[simp] theorem norefs_cons (d : D) (ds : List D) : norefs (d :: ds) = (d.noref && norefs ds) := rfl
@[simp] theorem noref_list (ds : List D) : (D.list ds).noref = norefs ds := rfl
@[simp] theorem noref_tup (ds : List D) : (D.tup ds).noref = norefs ds := rfl
@[simp] theorem eL_comp {α β : Type} (f : β → D) (g : α → β) (l : List α) : eL (f ∘ g) l = eL f (l.map g) := by
  unfold eL
  rw [List.map_map]
end
@[simp] theorem ite_okb {c : Prop} [Decidable c] (x y : Bool) (st : Sto) : (if c then R.ok (Val.v (D.bool x)) st else R.ok (Val.v (D.bool y)) st) = R.ok (Val.v (D.bool (if c then x else y))) st := by split <;> rfl
theorem bind_ite {α β : Type} {c : Prop} [Decidable c] (a b : R α) (f : α → Sto → R β) : (if c then a else b).bind f = if c then a.bind f else b.bind f := by split <;> rfl
def allB (bs : List Bool) : Bool := bs.all id
def anyB (bs : List Bool) : Bool := bs.any id
def allP {α : Type} (p : α → Bool) (l : List α) : Bool := l.all p
def anyP {α : Type} (p : α → Bool) (l : List α) : Bool := l.any p
@[simp] theorem allB_map {α : Type} (p : α → Bool) (l : List α) : allB (l.map p) = allP p l := by
  unfold allB allP; rw [List.all_map]; rfl
@[simp] theorem anyB_map {α : Type} (p : α → Bool) (l : List α) : anyB (l.map p) = anyP p l := by
  unfold anyB anyP; rw [List.any_map]; rfl
/-! ### comprehensions, calls -/
section
variable {α β : Type} {ok : Sto → Bool} {f : D → Sto → R (Option D)} {enc : α → D} {e2 : β → D} {st : Sto} {xs : List α}
theorem compR_each (g : α → β) (hok : ok st = true) (hl : xs.length ≤ sizeLine) (h : ∀ x ∈ xs, f (enc x) st = .ok (some (e2 (g x))) st) : compR ok f (xs.map enc) st = .ok (.new ((xs.map g).map e2)) st := by
  unfold compR
  rw [hok, loopC_map (r := fun x => some (e2 (g x))) hok h]
  have e : xs.filterMap (fun x => some (e2 (g x))) = (xs.map g).map e2 := by
    clear hl h
    induction xs with
    | nil => rfl
    | cons x r ih => simp [ih]
  rw [e]
  simp [hl]
theorem compR_filter (p : α → Bool) (g : α → β) (hok : ok st = true) (hl : xs.length ≤ sizeLine) (h : ∀ x ∈ xs, f (enc x) st = .ok (if p x = true then some (e2 (g x)) else Option.none) st) : compR ok f (xs.map enc) st = .ok (.new (((xs.filter p).map g).map e2)) st := by
  unfold compR
  rw [hok, loopC_map (r := fun x => if p x = true then some (e2 (g x)) else Option.none) hok h]
  have e : xs.filterMap (fun x => if p x = true then some (e2 (g x)) else Option.none) = ((xs.filter p).map g).map e2 := by
    clear h hl
    induction xs with
    | nil => rfl
    | cons x r ih =>
      rw [List.filterMap_cons, List.filter_cons]
      by_cases q : p x = true
      · simp [q, ih]
      · simp [q, ih]
  rw [e]
  have h2 : (((xs.filter p).map g).map e2).length ≤ sizeLine := by
    have := List.length_filter_le p xs
    simp only [List.length_map]
    omega
  simp only [Bool.not_true, Bool.false_eq_true, if_false]
  rw [if_pos h2]
theorem intsOf_map : ∀ ns : List Int, intsOf (ns.map D.int) = some ns
  | [] => rfl
  | n :: ns => by
    show (intsOf (ns.map D.int)).map (n :: ·) = _
    rw [intsOf_map ns]; rfl
theorem boolsOf_map : ∀ ns : List Bool, boolsOf (ns.map D.bool) = some ns
  | [] => rfl
  | n :: ns => by
    show (boolsOf (ns.map D.bool)).map (n :: ·) = _
    rw [boolsOf_map ns]; rfl
@[simp] theorem bi_all (bs : List Bool) : biV .all [eL D.bool bs] st = .ok (.v (.bool (allB bs))) st := by
  show onBools (eL D.bool bs) st _ = _
  unfold onBools
  rw [listOf_eL]
  dsimp only
  rw [boolsOf_map]
  rfl
@[simp] theorem bi_any (bs : List Bool) : biV .any [eL D.bool bs] st = .ok (.v (.bool (anyB bs))) st := by
  show onBools (eL D.bool bs) st _ = _
  unfold onBools
  rw [listOf_eL]
  dsimp only
  rw [boolsOf_map]
  rfl
@[simp] theorem bi_sum (ns : List Int) : biV .sum [eL D.int ns] st = .ok (.v (.int ns.sum)) st := by
  show onInts (eL D.int ns) st _ = _
  unfold onInts
  rw [listOf_eL]
  dsimp only
  rw [intsOf_map]
theorem bi_sorted {ns : List Int} (h : ns.length < 64) : biV .sorted [eL D.int ns] st = .ok (.new ((sortI ns).map D.int)) st := by
  show onInts (eL D.int ns) st _ = _
  unfold onInts
  rw [listOf_eL]
  dsimp only
  rw [intsOf_map]
  dsimp only
  rw [if_pos h]
@[simp] theorem bi_max2 (i j : Int) : biV .max2 [.int i, .int j] st = .ok (.v (.int (if j > i then j else i))) st := rfl
@[simp] theorem bi_toInt_b (b : Bool) : biV .toInt [.bool b] st = .ok (.v (.int (if b = true then 1 else 0))) st := rfl
@[simp] theorem bi_toInt_i (b : Int) : biV .toInt [.int b] st = .ok (.v (.int b)) st := rfl
theorem bi_list_ref {n : Nat} {ys : List D} (h : st[n]? = some (.lst ys)) : biV .listOf [.ref n] st = .ok (.new ys) st := by
  show (match seqOf st (.ref n) with
    | some xs => R.ok (Val.new xs) st
    | Option.none => R.stuck) = _
  show (match (match st[n]? with
    | some (.lst xs) => some xs
    | _ => Option.none) with
    | some xs => R.ok (Val.new xs) st
    | Option.none => R.stuck) = _
  rw [h]
@[simp] theorem bi_list_eL : biV .listOf [eL enc xs] st = .ok (.new (xs.map enc)) st := by
  show listV (eL enc xs) st = _
  show (match seqOf st (eL enc xs) with
    | some xs => R.ok (Val.new xs) st
    | Option.none => R.stuck) = _
  rw [seqOf_eL]
theorem callP_at {cf : CF} {k : Nat} {ds : List D} {d : D} {st' : Sto} (hn : norefs ds = true) (e : cf k ds [] = .ok d st') (hd : d.noref = true) : callP cf k ds st = .ok (.v d) st := by
  unfold callP
  rw [frzs_of hn]
  dsimp only
  rw [e]
  dsimp only
  rw [hn, Bool.true_or, if_pos rfl, frz_of hd]
theorem callS_at {cf : CF} {k : Nat} {ds : List D} {d : D} {st' : Sto} (e : cf k ds st = .ok d st') : callS cf k ds st = .ok (.v d) st' := by
  unfold callS
  rw [e]
theorem callC_at {cf : CF} {k : Nat} {ds : List D} {d : D} {st' : Sto} (hn : norefs ds = true) (e : cf k ds [] = .ok d st') : callC cf k ds st = .ok (.v (d.shift st.length)) (st ++ st'.map (Cell.shift st.length)) := by
  unfold callC
  rw [if_pos hn, e]
end
def eqOr (x a b : Int) : Bool := decide (x = a) || decide (x = b)
@[simp] theorem notin_ints {st : Sto} (x a b : Int) : cmpR .notin (.int x) (.tup [.int a, .int b]) st = .ok (.v (.bool (!eqOr x a b))) st := by
  have e : inD st (.int x) (.tup [.int a, .int b]) = some (eqD (.int a) (.int x) || (eqD (.int b) (.int x) || false)) := rfl
  unfold cmpR cmpV
  dsimp only
  rw [e, eq_ii, eq_ii]
  simp [eqOr, eq_comm]
/-! ### cells -/
section
variable {st : Sto}
def onLst (st : Sto) (n : Nat) (f : List D → R Val) : R Val := match st[n]? with
  | some (.lst xs) => f xs
  | _ => .stuck
@[simp] theorem listOf_ref (n : Nat) : listOf st (.ref n) = (match st[n]? with
    | some (.lst xs) => some xs
    | _ => Option.none) := rfl
@[simp] theorem seqOf_ref (n : Nat) : seqOf st (.ref n) = (match st[n]? with
    | some (.lst xs) => some xs
    | _ => Option.none) := rfl
theorem len_ref {n : Nat} {xs : List D} (h : st[n]? = some (.lst xs)) : lenV (.ref n) st = .ok (.v (.int xs.length)) st := by
  show (match seqOf st (.ref n) with
    | some xs => R.ok (Val.v (D.int xs.length)) st
    | Option.none => R.stuck) = _
  rw [seqOf_ref, h]
theorem mtIs_ref {m : MT} {n : Nat} {xs : List D} (h : st[n]? = some (.lst xs)) (hm : ∀ d st, mtIs m d st = (listOf st d).isSome) : mtIs m (.ref n) st = true := by
  rw [hm, listOf_ref, h]; rfl
@[simp] theorem mtIs_append (d : D) : mtIs .append d st = (listOf st d).isSome := rfl
@[simp] theorem mtIs_pop0 (d : D) : mtIs .pop0 d st = (listOf st d).isSome := rfl
@[simp] theorem mt_append (n : Nat) (y : D) : mtV .append (.ref n) [y] st = (match st[n]? with
    | some (.lst xs) => if xs.length < sizeLine then .ok (.v .none) (st.set n (.lst (xs ++ [y]))) else .stuck
    | _ => .stuck) := rfl
@[simp] theorem mt_pop0 (n : Nat) : mtV .pop0 (.ref n) [] st = (match st[n]? with
    | some (.lst xs) => popV xs fun y => .ok (.v y) (st.set n (.lst xs.dropLast))
    | _ => .stuck) := rfl
theorem ix_ref {n : Nat} {i : Int} {xs : List D} {d : D} (h : st[n]? = some (.lst xs)) (hd : atI xs i = some d) : ixR (.ref n) (.int i) st = .ok (.v d) st := by
  have e : ixV st (.ref n) (.int i) = some d := by
    show (match seqOf st (.ref n) with
      | some xs => atI xs i
      | Option.none => Option.none) = _
    rw [seqOf_ref, h]
    exact hd
  unfold ixR
  rw [e]
theorem ix_str {z : Str} {i : Int} {c : Nat} (hz : z.length ≤ sizeLine) (h : atI z.cps.toList i = some c) : ixR (.str z) (.int i) st = .ok (.v (sgn c)) st := by
  have e : ixV st (.str z) (.int i) = some (sgn c) := by
    show (if z.length ≤ sizeLine then (atI z.cps.toList i).map sgn else Option.none) = _
    rw [if_pos hz, h]; rfl
  unfold ixR
  rw [e]
theorem cmp_nil {α : Type} [DecidableEq α] {f : α → D} {l : List α} {n : Nat} (h : ∀ x ∈ l, Cmp (f x) n) (hn : n ≤ 60) : cmpR .eq (eL f l) (.list []) st = .ok (.v (.bool (decide (l = [])))) st := by
  have e : (D.list []) = eL f [] := rfl
  rw [e, cmp_eq (cmp_eL h) (cmp_eL (f := f) (l := []) (n := 0) fun x hx => by cases hx) (by omega) (by decide), eq_eL fun x _ y hy => by cases hy]
@[simp] theorem cmp_nil_I (l : List Int) : cmpR .eq (eL D.int l) (.list []) st = .ok (.v (.bool (decide (l = [])))) st := cmp_nil (fun x _ => cmp_int x) (by decide)
end
@[simp] theorem wipeE_nil (env : MP.Env) : wipeE env [] = env := rfl
@[simp] theorem wipeE_cons (env : MP.Env) (v : Nat) (vs : List Nat) : wipeE env (v :: vs) = (wipeE env vs).set v Option.none := rfl
@[simp] theorem bindT_one (env : MP.Env) (i : Nat) (d : D) : bindT env (.one i) d = some (env.set i (some d)) := rfl
@[simp] theorem fin_false (n : Nat) (tmp : List Nat) (env : MP.Env) (st : Sto) : fin false n tmp env st = some (wipeE env tmp, st) := rfl
@[simp] theorem cmp_nilnil (st : Sto) : cmpR .eq (.list []) (.list []) st = .ok (.v (.bool true)) st := by
  show cmpR .eq (eL D.int []) (.list []) st = _
  rw [cmp_nil_I]
  rfl
theorem itR_ref {st : Sto} {n : Nat} {ys : List D} (h : st[n]? = some (.lst ys)) : itR (.ref n) st = .ok (.ref n, ys) st := by
  unfold itR
  show (match (match st[n]? with
    | some (.lst xs) => some xs
    | _ => Option.none) with
    | some ds => R.ok (D.ref n, ds) st
    | Option.none => R.stuck) = _
  rw [h]
theorem lays_mem : ∀ {ds : List D}, PyData.canLayAll0 (pys ds) = true → ∀ d ∈ ds, d.py.canLay0 = true
  | [], _, d, h => by cases h
  | x :: xs, h, d, hd => by
    have h' : x.py.canLay0 = true ∧ PyData.canLayAll0 (pys xs) = true := by simpa only [pys, PyData.canLayAll0, Bool.and_eq_true] using h
    rcases List.mem_cons.mp hd with e | e
    · rw [e]; exact h'.1
    · exact lays_mem h'.2 d e
mutual
theorem D.same_refl : ∀ {d : D}, d.py.canLay0 = true → d.same d = true
  | .none, _ => rfl
  | .bool b, _ => by simp [D.same]
  | .int b, _ => by simp [D.same]
  | .str b, _ => by simp [D.same]
  | .list xs, h => by
    simp only [D.same]
    exact sames_refl (lays_mem (by simpa only [D.py, PyData.canLay0] using h))
  | .tup xs, h => by
    simp only [D.same]
    exact sames_refl (lays_mem (by simpa only [D.py, PyData.canLay0] using h))
  | .ref n, _ => by simp [D.same]
  | .dk _ _, h => by simp [D.py, PyData.canLay0] at h
  | .dt _ _, h => by simp [D.py, PyData.canLay0] at h
  | .scr _, h => by simp [D.py, PyData.canLay0] at h
theorem sames_refl : ∀ {ds : List D}, (∀ d ∈ ds, d.py.canLay0 = true) → sames ds ds = true
  | [], _ => rfl
  | d :: ds, h => by
    simp only [sames, Bool.and_eq_true]
    exact ⟨D.same_refl (h d List.mem_cons_self), sames_refl fun x hx => h x (List.mem_cons_of_mem _ hx)⟩
end
theorem stands_ref {st : Sto} {n : Nat} {ys : List D} (h : st[n]? = some (.lst ys)) (hl : ∀ d ∈ ys, d.py.canLay0 = true) : stands (.ref n) ys st = true := by
  show (match st[n]? with
    | some (.lst xs) => sames xs ys
    | _ => false) = true
  rw [h]
  exact sames_refl hl
theorem readN_ref {st : Sto} {n : Nat} {ys : List D} (h : st[n]? = some (.lst ys)) (hn : norefs ys = true) : readN st.length st n = some (.list ys) := by
  have hl : n < st.length := (List.getElem?_eq_some_iff.mp h).1
  obtain ⟨k, hk⟩ : ∃ k, st.length = k + 1 := ⟨st.length - 1, by omega⟩
  rw [hk]
  unfold readN
  rw [h]
  dsimp only
  rw [norefs_map hn]
theorem frz_ref {st : Sto} {n : Nat} {ys : List D} (h : st[n]? = some (.lst ys)) (hn : norefs ys = true) : frz st (.ref n) = some (.list ys) := by
  show readN st.length st n = _
  exact readN_ref h hn
theorem frzs_cons {st : Sto} {d t : D} {ds ts : List D} (h : frz st d = some t) (h2 : frzs st ds = some ts) : frzs st (d :: ds) = some (t :: ts) := by
  unfold frzs at h2 ⊢
  unfold frz at h
  simp only [mapRefs, h, h2]
theorem frzs_nil {st : Sto} : frzs st [] = some [] := rfl
theorem frz_tup {st : Sto} {ds ts : List D} (h : frzs st ds = some ts) : frz st (.tup ds) = some (.tup ts) := by
  unfold frzs at h
  unfold frz
  simp only [D.mapRef, h]
theorem callP_fz {cf : CF} {k : Nat} {st : Sto} {ds ts : List D} {d : D} (h : frzs st ds = some ts) (e : cf k ts [] = .ok d []) (hd : d.nolist = true) (hr : d.noref = true) : callP cf k ds st = .ok (.v d) st := by
  unfold callP
  rw [h]
  dsimp only
  rw [e]
  dsimp only
  rw [hd]
  simp [frz_of hr]
theorem in_strs {st : Sto} {m : Str} {ls : List Str} (hm : sOk m) (hl : ∀ x ∈ ls, sOk x) : cmpR .isin (.str m) (.list (ls.map D.str)) st = .ok (.v (.bool (ls.any fun z => decide (z = m)))) st := by
  have c1 := cmp_str hm
  have c2 : Cmp (eL D.str ls) 1 := cmp_eL fun x hx => cmp_str (hl x hx)
  have e : inD st (.str m) (.list (ls.map D.str)) = some ((ls.map D.str).any fun z => eqD z (.str m)) := by
    show (match frz st (.str m), frz st (eL D.str ls) with
      | some d, some (.list ds) => if d.shp && (D.list ds).shp then some (ds.any fun z => eqD z d) else Option.none
      | _, _ => Option.none) = _
    rw [frz_of c1.nr, frz_of c2.nr]
    show (if (D.str m).shp && (eL D.str ls).shp then _ else _) = _
    rw [c1.shp (by decide), c2.shp (by decide)]
    rfl
  unfold cmpR cmpV
  dsimp only
  rw [e]
  dsimp only
  rw [List.any_map]
  have : (fun z => eqD z (D.str m)) ∘ D.str = fun z => decide (z = m) := by
    funext z
    exact eq_str z m
  rw [this]
@[simp] theorem in_ints2 {st : Sto} (x a b : Int) : cmpR .isin (.int x) (.tup [.int a, .int b]) st = .ok (.v (.bool (decide (a = x) || decide (b = x)))) st := by
  have e : inD st (.int x) (.tup [.int a, .int b]) = some (eqD (.int a) (.int x) || (eqD (.int b) (.int x) || false)) := rfl
  unfold cmpR cmpV
  dsimp only
  rw [e, eq_ii, eq_ii, Bool.or_false]
@[simp] theorem in_ints3 {st : Sto} (x a b c : Int) : cmpR .isin (.int x) (.tup [.int a, .int b, .int c]) st = .ok (.v (.bool (decide (a = x) || (decide (b = x) || decide (c = x))))) st := by
  have e : inD st (.int x) (.tup [.int a, .int b, .int c]) = some (eqD (.int a) (.int x) || (eqD (.int b) (.int x) || (eqD (.int c) (.int x) || false))) := rfl
  unfold cmpR cmpV
  dsimp only
  rw [e, eq_ii, eq_ii, eq_ii, Bool.or_false]
mutual
theorem D.shift_nr (k : Nat) : ∀ {d : D}, d.noref = true → d.shift k = d
  | .none, _ => rfl
  | .bool _, _ => rfl
  | .int _, _ => rfl
  | .str _, _ => rfl
  | .scr _, _ => rfl
  | .list xs, h => by simp only [D.shift, shifts_nr k (show norefs xs = true from h)]
  | .tup xs, h => by simp only [D.shift, shifts_nr k (show norefs xs = true from h)]
  | .dk ks xs, h => by simp only [D.shift, shifts_nr k (show norefs xs = true from h)]
  | .dt ks xs, h => by simp only [D.shift, shifts_nr k (show norefs xs = true from h)]
  | .ref _, h => by cases h
theorem shifts_nr (k : Nat) : ∀ {ds : List D}, norefs ds = true → shifts k ds = ds
  | [], _ => rfl
  | d :: ds, h => by
    simp only [norefs, Bool.and_eq_true] at h
    simp only [shifts, D.shift_nr k h.1, shifts_nr k h.2]
end
theorem cell_shift_nr {k : Nat} {ds : List D} (h : norefs ds = true) : Cell.shift k (.lst ds) = .lst ds := by
  simp only [Cell.shift, shifts_nr k h]
theorem norefs_I (l : List Int) : norefs (l.map D.int) = true := norefs_map_of fun _ _ => rfl
theorem norefs_S (l : List Str) : norefs (l.map D.str) = true := norefs_map_of fun _ _ => rfl
theorem norefs_II (l : List (List Int)) : norefs (l.map (eL D.int)) = true := norefs_map_of fun _ _ => noref_eI _
theorem norefs_SS (l : List (List Str)) : norefs (l.map (eL D.str)) = true := norefs_map_of fun _ _ => noref_eS _
end MP

namespace Law
open PySem PySem.Spec PyProof.Rows L2 MP
def c_LETTERS : D := (.str "abcdef")
def c_MOST_ROOMS : D := (.int (24))
def b_rises_0 : List S := [.ife (.cmp .ge (.ix (.var 0) (.bin .sub (.var 1) (.lit (.int (1))))) (.ix (.var 0) (.var 1))) [.ret (.lit (.bool false))] []]
def d_rises : Def := ⟨"rises", ["some"], ["some", "k"], [.for_ (.one 1) (.range2 (.lit (.int (1))) (.bi .len (.cons (.var 0) .nil))) b_rises_0 [1] false, .ret (.lit (.bool true))]⟩
def d_are_marks : Def := ⟨"are_marks", ["marks"], ["marks", "mark"], [.ret (.land (.bi .all (.cons (.comp (.land (.cmp .eq (.bi .len (.cons (.var 1) .nil)) (.lit (.int (1)))) (.cmp .isin (.var 1) (.glob "LETTERS" c_LETTERS))) (.one 1) (.seq (.var 0)) (.lit (.bool true)) [1]) .nil)) (.call 0 (.cons (.var 0) .nil)))]⟩
def d_are_rooms : Def := ⟨"are_rooms", ["rooms", "many"], ["rooms", "many", "room"], [.ret (.land (.bi .all (.cons (.comp (.chain .le .lt (.lit (.int (0))) (.var 2) (.var 1)) (.one 2) (.seq (.var 0)) (.lit (.bool true)) [2]) .nil)) (.call 0 (.cons (.var 0) .nil)))]⟩
def b_is_world_0 : List S := [.ife (.lor (.cmp .notin (.ix (.var 0) (.var 4)) (.tup (.cons (.lit (.int (0))) (.cons (.lit (.int (1))) .nil)))) (.lnot (.call 1 (.cons (.ix (.var 1) (.var 4)) .nil)))) [.ret (.lit (.bool false))] [], .ife (.lor (.cmp .eq (.bi .len (.cons (.ix (.var 2) (.var 4)) .nil)) (.lit (.int (0)))) (.lnot (.call 2 (.cons (.ix (.var 2) (.var 4)) (.cons (.var 3) .nil))))) [.ret (.lit (.bool false))] []]
def d_is_world : Def := ⟨"is_world", ["owners", "marks", "steps"], ["owners", "marks", "steps", "many", "room"], [.set 3 (.bi .len (.cons (.var 0) .nil)), .ife (.lor (.lnot (.chain .le .le (.lit (.int (1))) (.var 3) (.glob "MOST_ROOMS" c_MOST_ROOMS))) (.lor (.cmp .ne (.bi .len (.cons (.var 1) .nil)) (.var 3)) (.cmp .ne (.bi .len (.cons (.var 2) .nil)) (.var 3)))) [.ret (.lit (.bool false))] [], .for_ (.one 4) (.range1 (.var 3)) b_is_world_0 [4] false, .ret (.lit (.bool true))]⟩
def d__law_cell_at : Def := ⟨"_law_cell_at", ["script", "k"], ["script", "k"], [.ife (.cmp .lt (.var 1) (.bi .len (.cons (.var 0) .nil))) [.ret (.ix (.var 0) (.var 1))] [], .ret (.lit (.int (0)))]⟩
def b__law_draw_0 : List S := [.set 4 (.bin .fdiv (.var 4) (.var 2))]
def d__law_draw : Def := ⟨"_law_draw", ["cell", "k", "bound"], ["cell", "k", "bound", "stir", "left", "j"], [.ife (.cmp .ge (.var 0) (.bin .pow (.lit (.int (10))) (.lit (.int (18))))) [.set 4 (.var 0), .for_ (.one 5) (.range1 (.var 1)) b__law_draw_0 [5] false, .ret (.bin .mod (.var 4) (.var 2))] [], .set 3 (.bin .mod (.bin .mul (.bin .add (.bin .add (.bin .mod (.var 0) (.lit (.int (1000000007)))) (.bin .mul (.lit (.int (1009))) (.var 1))) (.lit (.int (17)))) (.lit (.int (69621)))) (.lit (.int (2147483647)))), .set 3 (.bin .mod (.bin .add (.bin .add (.bin .mul (.var 3) (.var 3)) (.bin .mul (.lit (.int (40503))) (.var 1))) (.lit (.int (5)))) (.lit (.int (2147483629)))), .ret (.bin .mod (.bin .fdiv (.bin .mod (.bin .mul (.var 3) (.lit (.int (48271)))) (.lit (.int (2147483647)))) (.lit (.int (32)))) (.var 2))]⟩
def b__law_world_0 : List S := [.set 8 (.call 4 (.cons (.var 0) (.cons (.bin .add (.bin .add (.var 1) (.lit (.int (1)))) (.var 7)) .nil))), .expr (.mt .append (.var 4) (.cons (.call 5 (.cons (.var 8) (.cons (.lit (.int (0))) (.cons (.lit (.int (2))) .nil)))) .nil)), .expr (.mt .append (.var 5) (.cons (.comp (.ix (.lit (.str "abc")) (.var 11)) (.one 11) (.range1 (.lit (.int (3)))) (.cmp .eq (.call 5 (.cons (.var 8) (.cons (.bin .add (.lit (.int (1))) (.var 11)) (.cons (.lit (.int (2))) .nil)))) (.lit (.int (1)))) [11]) .nil)), .set 9 (.comp (.var 10) (.one 10) (.range1 (.var 3)) (.cmp .eq (.call 5 (.cons (.var 8) (.cons (.bin .add (.lit (.int (4))) (.var 10)) (.cons (.bin .add (.lit (.int (2))) (.bi .toInt (.cons (.cmp .gt (.var 3) (.lit (.int (3)))) .nil))) .nil)))) (.lit (.int (1)))) [10]), .ife (.cmp .eq (.var 9) (.list .nil)) [.set 9 (.list (.cons (.call 5 (.cons (.var 8) (.cons (.bin .add (.lit (.int (4))) (.var 3)) (.cons (.var 3) .nil)))) .nil))] [], .expr (.mt .append (.var 6) (.cons (.var 9) .nil))]
def d__law_world : Def := ⟨"_law_world", ["script", "at", "limit"], ["script", "at", "limit", "many", "owners", "marks", "steps", "room", "cell", "row", "there", "k"], [.set 3 (.bin .add (.lit (.int (1))) (.bin .mod (.call 4 (.cons (.var 0) (.cons (.var 1) .nil))) (.var 2))), .set 4 (.cell (.list .nil)), .set 5 (.cell (.list .nil)), .set 6 (.cell (.list .nil)), .for_ (.one 7) (.range1 (.var 3)) b__law_world_0 [7, 8, 9] false, .ret (.tup (.cons (.var 4) (.cons (.var 5) (.cons (.var 6) .nil))))]⟩
def d__law_twin : Def := ⟨"_law_twin", ["world"], ["world", "row"], [.ret (.tup (.cons (.bi .listOf (.cons (.ix (.var 0) (.lit (.int (0)))) .nil)) (.cons (.comp (.bi .listOf (.cons (.var 1) .nil)) (.one 1) (.seq (.ix (.var 0) (.lit (.int (1))))) (.lit (.bool true)) [1]) (.cons (.comp (.bi .listOf (.cons (.var 1) .nil)) (.one 1) (.seq (.ix (.var 0) (.lit (.int (2))))) (.lit (.bool true)) [1]) .nil))))]⟩
def d__law_spoilt : Def := ⟨"_law_spoilt", ["world", "cell"], ["world", "cell", "owners", "marks", "steps", "way", "far", "at"], [.unpack [2, 3, 4] (.var 0), .set 5 (.bin .mod (.var 1) (.lit (.int (12)))), .set 6 (.bin .mod (.bin .fdiv (.var 1) (.lit (.int (1000)))) (.bin .pow (.lit (.int (10))) (.lit (.int (50))))), .set 7 (.bin .mod (.bin .fdiv (.var 1) (.lit (.int (12)))) (.bi .max2 (.cons (.lit (.int (1))) (.cons (.bi .len (.cons (.var 2) .nil)) .nil)))), .ife (.land (.cmp .lt (.var 5) (.lit (.int (3)))) (.cmp .gt (.bi .len (.cons (.var 2) .nil)) (.lit (.int (0))))) [.put (.var 2) (.var 7) (.ix (.list (.cons (.lit (.int (2))) (.cons (.lit (.int (-1))) (.cons (.bin .add (.lit (.int (2))) (.var 6)) .nil)))) (.var 5))] [], .ife (.land (.cmp .isin (.var 5) (.tup (.cons (.lit (.int (3))) (.cons (.lit (.int (4))) (.cons (.lit (.int (5))) .nil))))) (.cmp .lt (.var 7) (.bi .len (.cons (.var 3) .nil)))) [.put (.var 3) (.var 7) (.ix (.list (.cons (.list (.cons (.lit (.str "g")) .nil)) (.cons (.list (.cons (.lit (.str "a")) (.cons (.lit (.str "a")) .nil))) (.cons (.list (.cons (.lit (.str "b")) (.cons (.lit (.str "a")) .nil))) (.cons (.list (.cons (.lit (.str "ab")) .nil)) (.cons (.list (.cons (.lit (.str "")) .nil)) (.cons (.list (.cons (.lit (.str "A")) .nil)) (.cons (.list (.cons (.lit (.str "f")) .nil)) (.cons (.list (.cons (.lit (.str "a")) (.cons (.lit (.str "f")) .nil))) .nil))))))))) (.bin .mod (.bin .fdiv (.var 1) (.lit (.int (144)))) (.lit (.int (8)))))] [], .ife (.land (.cmp .isin (.var 5) (.tup (.cons (.lit (.int (6))) (.cons (.lit (.int (7))) .nil)))) (.cmp .lt (.var 7) (.bi .len (.cons (.var 4) .nil)))) [.put (.var 4) (.var 7) (.ix (.list (.cons (.list .nil) (.cons (.list (.cons (.bi .len (.cons (.var 2) .nil)) .nil)) (.cons (.list (.cons (.lit (.int (-1))) .nil)) (.cons (.list (.cons (.lit (.int (0))) (.cons (.lit (.int (0))) .nil))) (.cons (.list (.cons (.bin .sub (.bi .len (.cons (.var 2) .nil)) (.lit (.int (1)))) (.cons (.lit (.int (0))) .nil))) (.cons (.list (.cons (.var 6) .nil)) (.cons (.list (.cons (.bin .sub (.lit (.int (-1))) (.var 6)) (.cons (.lit (.int (0))) .nil))) .nil)))))))) (.bin .mod (.bin .fdiv (.var 1) (.lit (.int (144)))) (.lit (.int (7)))))] [], .ife (.cmp .eq (.var 5) (.lit (.int (8)))) [.expr (.mt .append (.var 2) (.cons (.lit (.int (0))) .nil))] [], .ife (.land (.cmp .eq (.var 5) (.lit (.int (9)))) (.cmp .gt (.bi .len (.cons (.var 3) .nil)) (.lit (.int (0))))) [.expr (.mt .pop0 (.var 3) .nil)] [], .ife (.cmp .eq (.var 5) (.lit (.int (10)))) [.expr (.mt .append (.var 4) (.cons (.list (.cons (.lit (.int (0))) .nil)) .nil))] [], .ife (.land (.cmp .eq (.var 5) (.lit (.int (11)))) (.cmp .eq (.bin .mod (.bin .fdiv (.var 1) (.lit (.int (144)))) (.lit (.int (3)))) (.lit (.int (0))))) [.par3 2 3 4 (.cell (.list .nil)) (.cell (.list .nil)) (.cell (.list .nil))] [], .ret (.tup (.cons (.var 2) (.cons (.var 3) (.cons (.var 4) .nil))))]⟩
def d__law_rises : Def := ⟨"_law_rises", ["row"], ["row", "k"], [.ret (.cmp .eq (.bi .len (.cons (.comp (.var 1) (.one 1) (.range2 (.lit (.int (1))) (.bi .len (.cons (.var 0) .nil))) (.cmp .ge (.ix (.var 0) (.bin .sub (.var 1) (.lit (.int (1))))) (.ix (.var 0) (.var 1))) [1]) .nil)) (.lit (.int (0))))]⟩
def b__law_good_0 : List S := [.ife (.lor (.land (.cmp .ne (.ix (.var 0) (.var 4)) (.lit (.int (0)))) (.cmp .ne (.ix (.var 0) (.var 4)) (.lit (.int (1))))) (.cmp .eq (.ix (.var 2) (.var 4)) (.list .nil))) [.ret (.lit (.bool false))] [], .ife (.lor (.lnot (.bi .all (.cons (.comp (.cmp .isin (.var 5) (.list (.cons (.lit (.str "a")) (.cons (.lit (.str "b")) (.cons (.lit (.str "c")) (.cons (.lit (.str "d")) (.cons (.lit (.str "e")) (.cons (.lit (.str "f")) .nil)))))))) (.one 5) (.seq (.ix (.var 1) (.var 4))) (.lit (.bool true)) [5]) .nil))) (.lnot (.call 9 (.cons (.ix (.var 1) (.var 4)) .nil)))) [.ret (.lit (.bool false))] [], .ife (.lor (.lnot (.bi .all (.cons (.comp (.chain .le .lt (.lit (.int (0))) (.var 6) (.var 3)) (.one 6) (.seq (.ix (.var 2) (.var 4))) (.lit (.bool true)) [6]) .nil))) (.lnot (.call 9 (.cons (.ix (.var 2) (.var 4)) .nil)))) [.ret (.lit (.bool false))] []]
def d__law_good : Def := ⟨"_law_good", ["owners", "marks", "steps"], ["owners", "marks", "steps", "many", "room", "mark", "there"], [.set 3 (.bi .len (.cons (.var 0) .nil)), .ife (.lor (.cmp .lt (.var 3) (.lit (.int (1)))) (.lor (.cmp .gt (.var 3) (.lit (.int (24)))) (.lor (.cmp .ne (.bi .len (.cons (.var 1) .nil)) (.var 3)) (.cmp .ne (.bi .len (.cons (.var 2) .nil)) (.var 3))))) [.ret (.lit (.bool false))] [], .for_ (.one 4) (.range1 (.var 3)) b__law_good_0 [4] false, .ret (.lit (.bool true))]⟩
def b_law_0 : List S := [.set 1 (.callS 8 (.cons (.var 1) (.cons (.call 4 (.cons (.var 0) (.cons (.bin .add (.lit (.int (1))) (.var 3)) .nil))) .nil)))]
def d_law : Def := ⟨"law", ["script"], ["script", "world", "cell", "turn", "handed", "found", "many", "room"], [.set 1 (.callC 6 (.cons (.var 0) (.cons (.lit (.int (3))) (.cons (.lit (.int (6))) .nil)))), .set 2 (.call 4 (.cons (.var 0) (.cons (.lit (.int (0))) .nil))), .ife (.cmp .eq (.bin .mod (.bin .fdiv (.var 2) (.lit (.int (4)))) (.lit (.int (8)))) (.lit (.int (1)))) [.set 6 (.bin .add (.lit (.int (24))) (.bin .mod (.bin .fdiv (.var 2) (.lit (.int (32)))) (.lit (.int (2))))), .set 1 (.tup (.cons (.cell (.bin .mul (.list (.cons (.lit (.int (0))) .nil)) (.var 6))) (.cons (.cell (.comp (.list (.cons (.lit (.str "f")) .nil)) (.one 7) (.range1 (.var 6)) (.lit (.bool true)) [7])) (.cons (.cell (.comp (.list (.cons (.lit (.int (0))) (.cons (.bin .sub (.var 6) (.lit (.int (1)))) .nil))) (.one 7) (.range1 (.var 6)) (.lit (.bool true)) [7])) .nil))))] [], .for_ (.one 3) (.range1 (.ix (.list (.cons (.lit (.int (0))) (.cons (.lit (.int (1))) (.cons (.lit (.int (1))) (.cons (.lit (.int (2))) .nil))))) (.bin .mod (.var 2) (.lit (.int (4)))))) b_law_0 [3] false, .set 4 (.callS 7 (.cons (.var 1) .nil)), .set 5 (.call 3 (.cons (.ix (.var 4) (.lit (.int (0)))) (.cons (.ix (.var 4) (.lit (.int (1)))) (.cons (.ix (.var 4) (.lit (.int (2)))) .nil)))), .ret (.land (.bi (.isinst "bool") (.cons (.var 5) .nil)) (.land (.cmp .eq (.var 5) (.call 10 (.cons (.ix (.var 1) (.lit (.int (0)))) (.cons (.ix (.var 1) (.lit (.int (1)))) (.cons (.ix (.var 1) (.lit (.int (2)))) .nil))))) (.cmp .eq (.var 4) (.var 1))))]⟩
def ds : List Def := [d_rises, d_are_marks, d_are_rooms, d_is_world, d__law_cell_at, d__law_draw, d__law_world, d__law_twin, d__law_spoilt, d__law_rises, d__law_good, d_law]
abbrev T : Nat → Option Def := fun f => ds[f]?
def G : PySem.Str → Option D := fun x => if x = "LETTERS" then some c_LETTERS else if x = "MOST_ROOMS" then some c_MOST_ROOMS else Option.none
abbrev eI (l : List Int) : D := eL D.int l
abbrev eS (l : List PySem.Str) : D := eL D.str l
/-- rising, by any order -/
def risB {α : Type} (ge : α → α → Bool) (l : List α) : Bool := (rangeI 1 (l.length - 1)).all fun i => match atI l (i - 1), atI l i with
  | some a, some b => !ge a b
  | _, _ => true
theorem mem_range {a : Int} {n : Nat} {x : Int} (h : x ∈ rangeI a n) : a ≤ x ∧ x < a + n := by
  unfold rangeI at h
  simp only [List.mem_map, List.mem_range] at h
  obtain ⟨k, h1, rfl⟩ := h
  omega
theorem at_lt {α : Type} {l : List α} {i : Int} (h : 0 ≤ i) (h2 : i < l.length) : ∃ x, atI l i = some x := by
  rw [atI_pos h h2]
  exact ⟨l[i.toNat], List.getElem?_eq_getElem (by omega)⟩
theorem rises_ok {α : Type} {f : α → D} {ge : α → α → Bool} (hge : ∀ a b st, cmpR .ge (f a) (f b) st = .ok (.v (.bool (ge a b))) st) {k : Nat} {l : List α} (hl : l.length ≤ 10000) :
    run T (k + 1) 0 [eL f l] [] = .ok (.bool (risB ge l)) [] := by
  rw [run_at (d := d_rises) rfl rfl]
  have hs : sizeLine = 16777216 := sizeLine_eq
  simp only [d_rises]
  simp
  rw [if_pos ⟨by omega, by omega⟩]
  simp [forR]
  rw [loopF_all (fun i => match atI l (i - 1), atI l i with
    | some a, some b => !ge a b
    | _, _ => true) (.bool false) (by simp)]
  · unfold risB
    generalize List.all _ _ = q
    cases q <;> simp
  · intro x hx
    have h1 := mem_range hx
    obtain ⟨a, ha⟩ := at_lt (l := l) (i := x - 1) (by omega) (by omega)
    obtain ⟨b, hb⟩ := at_lt (l := l) (i := x) (by omega) (by omega)
    simp only [ha, hb]
    refine ⟨fun hg => ?_, fun hg => ?_⟩
    · have hg : ge a b = true := by simpa using hg
      simp [hg, turnF, b_rises_0, bindT, ix_eL ha, ix_eL hb, hge]
    · have hg : ge a b = false := by simpa using hg
      simp [hg, turnF, b_rises_0, bindT, ix_eL ha, ix_eL hb, hge, fin, wipeE]

theorem rises_I {k : Nat} {l : List Int} (hl : l.length ≤ 10000) : run T (k + 1) 0 [eI l] [] = .ok (.bool (risB (fun a b => decide (b ≤ a)) l)) [] :=
  rises_ok (fun a b st => by simp) hl
def geS (a b : PySem.Str) : Bool := !ltS a b
theorem rises_S {k : Nat} {l : List PySem.Str} (hl : l.length ≤ 10000) : run T (k + 1) 0 [eS l] [] = .ok (.bool (risB geS l)) [] :=
  rises_ok (fun a b st => by simp [geS]) hl
/-- what a mark is -/
def markB (m : PySem.Str) : Bool := decide ((m.length : Int) = 1) && strIn m "abcdef"
def marksB (l : List PySem.Str) : Bool := if allP markB l = true then risB geS l else false
theorem are_marks_ok {k : Nat} {l : List PySem.Str} (hl : l.length ≤ 10000) (h1 : ∀ m ∈ l, m.length ≤ 10000) : run T (k + 2) 1 [eS l] [] = .ok (.bool (marksB l)) [] := by
  have hs : sizeLine = 16777216 := sizeLine_eq
  rw [run_at (d := d_are_marks) rfl rfl]
  simp only [d_are_marks]
  simp [itR]
  rw [compR_each (e2 := D.bool) markB (by simp) (by omega) (fun x hx => by
    have := h1 x hx
    simp [turnC, bindT, wipeE, markB, len_str (show x.length ≤ sizeLine by omega), c_LETTERS])]
  simp
  by_cases q : allP markB l = true
  · simp [q, callP_at (st := []) (show norefs [eS l] = true by simp) (rises_S hl) rfl, marksB]
  · simp [q, marksB]

def inB (many r : Int) : Bool := if 0 ≤ r then decide (r < many) else false
def roomsB (l : List Int) (many : Int) : Bool := if allP (inB many) l = true then risB (fun a b => decide (b ≤ a)) l else false
theorem are_rooms_ok {k : Nat} {l : List Int} {many : Int} (hl : l.length ≤ 10000) : run T (k + 2) 2 [eI l, .int many] [] = .ok (.bool (roomsB l many)) [] := by
  have hs : sizeLine = 16777216 := sizeLine_eq
  rw [run_at (d := d_are_rooms) rfl rfl]
  simp only [d_are_rooms]
  simp [itR]
  rw [compR_each (e2 := D.bool) (inB many) (by simp) (by omega) (fun x hx => by
    by_cases h : 0 ≤ x <;> simp [turnC, bindT, wipeE, h, inB])]
  simp
  by_cases q : allP (inB many) l = true
  · simp [q, callP_at (st := []) (show norefs [eI l] = true by simp) (rises_I hl) rfl, roomsB]
  · simp [q, roomsB]
abbrev eSS (l : List (List PySem.Str)) : D := eL (eL D.str) l
abbrev eII (l : List (List Int)) : D := eL (eL D.int) l
structure Wd (o : List Int) (m : List (List PySem.Str)) (s : List (List Int)) : Prop where
  lo : o.length ≤ 100
  lm : m.length ≤ 100
  ls : s.length ≤ 100
  mi : ∀ r : List PySem.Str, r ∈ m → r.length ≤ 100 ∧ ∀ x : PySem.Str, x ∈ r → x.length ≤ 100 ∧ sOk x
  si : ∀ r : List Int, r ∈ s → r.length ≤ 100
/-- one room -/
def roomB (o : List Int) (m : List (List PySem.Str)) (s : List (List Int)) (i : Int) : Bool := match atI o i, atI m i, atI s i with
  | some a, some b, some c => eqOr a 0 1 && marksB b && (!decide ((c.length : Int) = 0)) && roomsB c o.length
  | _, _, _ => true
def headB (o : List Int) (m : List (List PySem.Str)) (s : List (List Int)) : Bool := decide (1 ≤ (o.length : Int) ∧ (o.length : Int) ≤ 24 ∧ (m.length : Int) = o.length ∧ (s.length : Int) = o.length)
def worldB (o : List Int) (m : List (List PySem.Str)) (s : List (List Int)) : Bool := if headB o m s = true then allP (roomB o m s) (rangeI 0 o.length) else false
theorem at_mem {α : Type} {l : List α} {i : Int} {x : α} (h : atI l i = some x) : x ∈ l := by
  unfold atI at h
  cases q : ixN l.length i with
  | none => rw [q] at h; cases h
  | some j => rw [q] at h; exact List.mem_of_getElem? h
theorem is_world_ok {k : Nat} {o : List Int} {m : List (List PySem.Str)} {s : List (List Int)} (h : Wd o m s) : run T (k + 3) 3 [eI o, eSS m, eII s] [] = .ok (.bool (worldB o m s)) [] := by
  have hs : sizeLine = 16777216 := sizeLine_eq
  have lo := h.lo
  rw [run_at (d := d_is_world) rfl rfl]
  simp only [d_is_world]
  by_cases hh : headB o m s = true
  · obtain ⟨h1, h2, h3, h4⟩ := of_decide_eq_true hh
    simp [c_MOST_ROOMS, h3, h4, show (1 : Int) ≤ o.length from h1, show (o.length : Int) ≤ 24 from h2]
    rw [if_pos (by omega)]
    simp [forR]
    rw [loopF_all (roomB o m s) (.bool false) (by simp)]
    · simp only [worldB, hh, if_true]
      show endR (sqX (if allP (roomB o m s) (rangeI 0 o.length) = true then _ else _) _) = _
      cases allP (roomB o m s) (rangeI 0 o.length) <;> simp
    · intro i hi
      have hi := mem_range hi
      obtain ⟨a, ha⟩ := at_lt (l := o) (i := i) (by omega) (by omega)
      obtain ⟨b, hb⟩ := at_lt (l := m) (i := i) (by omega) (by omega)
      obtain ⟨c, hc⟩ := at_lt (l := s) (i := i) (by omega) (by omega)
      have hb1 := h.mi b (at_mem hb)
      have hc1 := h.si c (at_mem hc)
      have e1 : ∀ st, callP (run T (k + 2)) 1 [eS b] st = .ok (.v (.bool (marksB b))) st := fun st => callP_at (by simp) (are_marks_ok (by omega) (fun x hx => by have := (hb1.2 x hx).1; omega)) rfl
      have e2 : ∀ st, callP (run T (k + 2)) 2 [eI c, .int o.length] st = .ok (.v (.bool (roomsB c o.length))) st := fun st => callP_at (by simp) (are_rooms_ok (by omega)) rfl
      simp only [roomB, ha, hb, hc]
      by_cases q1 : eqOr a 0 1 = true <;> by_cases q2 : marksB b = true <;> by_cases q3 : c = [] <;> by_cases q4 : roomsB c o.length = true <;>
        (refine ⟨fun hg => ?_, fun hg => ?_⟩ <;> simp [q1, q2, q3, q4] at hg <;> simp [hs, turnF, b_is_world_0, bindT, ix_eL ha, ix_eL hb, ix_eL hc, e1, e2, q1, q2, q3, q4, fin, wipeE])
  · have key : worldB o m s = false := by unfold worldB; rw [if_neg hh]
    rw [key]
    have hh' : ¬ (1 ≤ (o.length : Int) ∧ (o.length : Int) ≤ 24 ∧ (m.length : Int) = o.length ∧ (s.length : Int) = o.length) := fun z => hh (decide_eq_true z)
    by_cases h1 : (1 : Int) ≤ o.length <;> by_cases h2 : (o.length : Int) ≤ 24 <;> by_cases h3 : (m.length : Int) = o.length <;> by_cases h4 : (s.length : Int) = o.length <;>
      first | (simp [c_MOST_ROOMS, h1, h2, h3, h4]; done) | exact (hh' ⟨h1, h2, h3, h4⟩).elim

def cellAt (ns : List Int) (i : Int) : Int := if i < ns.length then (atI ns i).getD 0 else 0
theorem cell_at_ok {k : Nat} {ns : List Int} {i : Int} (hi : 0 ≤ i) : run T (k + 1) 4 [.scr ns, .int i] [] = .ok (.int (cellAt ns i)) [] := by
  rw [run_at (d := d__law_cell_at) rfl rfl]
  simp only [d__law_cell_at]
  by_cases h : i < ns.length
  · obtain ⟨x, hx⟩ := at_lt hi h
    simp [cellAt, h, ix_scr hx, hx]
  · simp [cellAt, h]
theorem cmul_r (i : Int) {j : Int} (h : -(2 ^ 64) < j ∧ j < 2 ^ 64) : L2.CMul i j := .inr h
theorem cmul_l {i : Int} (j : Int) (h : -(2 ^ 64) < i ∧ i < 2 ^ 64) : L2.CMul i j := .inl h
theorem fmod_rng (a : Int) {b : Int} (h : 0 < b) : 0 ≤ a.fmod b ∧ a.fmod b < b := ⟨Int.fmod_nonneg_of_pos a h, Int.fmod_lt_of_pos a h⟩
/-- the drawn number -/
def drawV (c j b : Int) : Int := if 1000000000000000000 ≤ c then ((rangeI 0 j.toNat).foldl (fun s _ => s.fdiv b) c).fmod b else
  (((((((((c.fmod 1000000007 + 1009 * j + 17) * 69621).fmod 2147483647) * (((c.fmod 1000000007 + 1009 * j + 17) * 69621).fmod 2147483647) + 40503 * j + 5).fmod 2147483629) * 48271).fmod 2147483647).fdiv 32)).fmod b
theorem drawV_rng {c j b : Int} (hb : 0 < b) : 0 ≤ drawV c j b ∧ drawV c j b < b := by
  unfold drawV
  split <;> exact fmod_rng _ hb
theorem draw_ok {k : Nat} {c j b : Int} (hj : -1000000 < j ∧ j < 1000000) (hb : 0 < b ∧ b < 1000000) : run T (k + 1) 5 [.int c, .int j, .int b] [] = .ok (.int (drawV c j b)) [] := by
  have hs : sizeLine = 16777216 := sizeLine_eq
  have b0 : b ≠ 0 := by omega
  rw [run_at (d := d__law_draw) rfl rfl]
  simp only [d__law_draw]
  by_cases h : (1000000000000000000 : Int) ≤ c
  · simp [hs, L2.CPow, h]
    rw [if_pos (by omega)]
    simp [forR]
    have key := loopF_fold (ok := fun _ => true) (trim := false) (n := 0) (tmp := [5]) (body := turnF (MP.run T k) (Tg.one 5) b__law_draw_0) (enc := D.int) (fun _ : Int => True)
      (fun s => [some (D.int c), some (D.int j), some (D.int b), none, some (D.int s), none]) (fun _ => []) (fun s _ => s.fdiv b) (fun _ => rfl) (xs := rangeI 0 j.toNat) (s := c) trivial (fun x _ s _ => ⟨trivial, by
        simp [turnF, b__law_draw_0, bindT, L2.CDivN, fin, wipeE, b0, show b.natAbs < 1073741824 by omega]⟩)
    have e : stands D.none (List.map D.int (rangeI 0 j.toNat)) = fun _ => true := rfl
    rw [e, key.1]
    simp [b0, drawV, h]
  · have r1 := fmod_rng ((c.fmod 1000000007 + 1009 * j + 17) * 69621) (b := 2147483647) (by decide)
    have c1 : L2.CMul (((c.fmod 1000000007 + 1009 * j + 17) * 69621).fmod 2147483647) (((c.fmod 1000000007 + 1009 * j + 17) * 69621).fmod 2147483647) := cmul_l _ ⟨by omega, by omega⟩
    simp [hs, L2.CPow, h, c1, cmul_r _ (show (-(2 ^ 64) < (69621 : Int) ∧ (69621 : Int) < 2 ^ 64) by decide), cmul_r _ (show (-(2 ^ 64) < (48271 : Int) ∧ (48271 : Int) < 2 ^ 64) by decide), cmul_l j (show (-(2 ^ 64) < (1009 : Int) ∧ (1009 : Int) < 2 ^ 64) by decide),
      cmul_l j (show (-(2 ^ 64) < (40503 : Int) ∧ (40503 : Int) < 2 ^ 64) by decide), L2.CDivN, b0, drawV]
abbrev St3 : Type := List Int × List (List PySem.Str) × List (List Int)
abbrev st3 (s : St3) : Sto := [.lst (s.1.map D.int), .lst (s.2.1.map (eL D.str)), .lst (s.2.2.map (eL D.int))]
def abcK (k : Int) : PySem.Str := ⟨#[97 + k.toNat]⟩
theorem abc_at {k : Int} (h : 0 ≤ k ∧ k < 3) : atI (PySem.Str.ofString "abc").cps.toList k = some (97 + k.toNat) := by
  obtain ⟨h1, h2⟩ := h
  have : k = 0 ∨ k = 1 ∨ k = 2 := by omega
  rcases this with rfl | rfl | rfl <;> decide +kernel
/-- what the drawn worlds are -/
structure Row (many : Int) (r : List Int) : Prop where
  ne : r ≠ []
  rng : ∀ x ∈ r, 0 ≤ x ∧ x < many
  asc : r.Pairwise (· < ·)
structure Drawn (many : Int) (n : Nat) (s : St3) : Prop where
  l1 : s.1.length = n
  l2 : s.2.1.length = n
  l3 : s.2.2.length = n
  o : ∀ x ∈ s.1, 0 ≤ x ∧ x < 2
  m : ∀ r ∈ s.2.1, ∃ p : Int → Bool, r = ((rangeI 0 3).filter p).map abcK
  s : ∀ r ∈ s.2.2, Row many r
theorem asc_range (a : Int) (n : Nat) : (rangeI a n).Pairwise (· < ·) := by
  unfold rangeI
  rw [List.pairwise_map]
  exact List.Pairwise.imp (fun h => by omega) List.pairwise_lt_range
theorem law_world_ok {k : Nat} {ns : List Int} {at0 lim : Int} (h0 : 0 ≤ at0 ∧ at0 < 1000) (hl : 1 ≤ lim ∧ lim ≤ 24) :
    ∃ (n : Nat) (s : St3), 1 ≤ n ∧ n ≤ lim ∧ Drawn n n s ∧ run T (k + 2) 6 [.scr ns, .int at0, .int lim] [] = .ok (.tup [.ref 0, .ref 1, .ref 2]) (st3 s) := by
  have hs : sizeLine = 16777216 := sizeLine_eq
  rw [run_at (d := d__law_world) rfl rfl]
  simp only [d__law_world]
  have e1 : ∀ {i : Int} {st}, 0 ≤ i → callP (run T (k + 1)) 4 [.scr ns, .int i] st = .ok (.v (.int (cellAt ns i))) st := fun {i st} hi => callP_at (by simp) (cell_at_ok hi) rfl
  have e2 : ∀ {c j b : Int} {st}, (-1000000 < j ∧ j < 1000000) → (0 < b ∧ b < 1000000) → callP (run T (k + 1)) 5 [.int c, .int j, .int b] st = .ok (.v (.int (drawV c j b))) st := fun {c j b st} hj hb => callP_at (by simp) (draw_ok hj hb) rfl
  have r1 := fmod_rng (cellAt ns at0) (b := lim) (by omega)
  simp [hs, e1 h0.1, show lim ≠ 0 by omega]
  generalize hm : 1 + (cellAt ns at0).fmod lim = many
  rw [if_pos (by omega)]
  simp [forR]
  have hmn : (many.toNat : Int) = many := by omega
  have key := loopF_ex (ok := stands D.none (List.map D.int (rangeI 0 many.toNat))) (trim := false) (n := 3) (tmp := [7, 8, 9]) (enc := D.int) (xs := rangeI 0 many.toNat) (fun (i : Nat) (s : St3) => Drawn many i s)
    (fun _ => [some (D.scr ns), some (D.int at0), some (D.int lim), some (D.int many), some (D.ref 0), some (D.ref 1), some (D.ref 2), none, none, none, none, none]) st3 (fun _ => rfl) (j := 0) (s := (([], [], []) : St3))
    (body := turnF (MP.run T (k + 1)) (Tg.one 7) b__law_world_0) ⟨rfl, rfl, rfl, fun _ h => (nomatch h), fun _ h => (nomatch h), fun _ h => (nomatch h)⟩ ?_
  · obtain ⟨s', e, hd⟩ := key
    have hlen : (rangeI 0 many.toNat).length = many.toNat := by simp [rangeI]
    rw [Nat.zero_add, hlen] at hd
    refine ⟨many.toNat, by omega, by omega, s'.1, s'.2.1, s'.2.2, by rw [hmn]; exact hd, ?_⟩
    simp only [st3, List.map_nil] at e
    rw [e]
    simp [hs]
  · intro i x s hx hI
    have hx2 := mem_range (List.mem_of_getElem? hx)
    rw [Nat.zero_add] at hI ⊢
    obtain ⟨i1, i2, i3, i4, i5, i6⟩ := hI
    have hxi : i < many.toNat := by
      have := (List.getElem?_eq_some_iff.mp hx).1
      simpa [rangeI] using this
    generalize hc : cellAt ns (at0 + 1 + x) = c
    have d1 := drawV_rng (c := c) (j := 0) (b := 2) (by decide)
    let p1 : Int → Bool := fun j => decide (drawV c (1 + j) 2 = 1)
    obtain ⟨bb, hbe⟩ : ∃ bb : Int, (2 + if 3 < many then (1 : Int) else 0) = bb := ⟨_, rfl⟩
    let p2 : Int → Bool := fun j => decide (drawV c (4 + j) bb = 1)
    have hbb : 0 < bb ∧ bb < 1000000 := by
      rw [← hbe]
      by_cases q : 3 < many
      · simp [q]
      · simp [q]
    have m1 : ∀ (env : MP.Env) (st : Sto), env[8]? = some (some (.int c)) → 11 < env.length →
        compR (stands D.none (List.map D.int (rangeI 0 3))) (turnC (MP.run T (k + 1)) (.ix (.lit (.str "abc")) (.var 11)) (.one 11) (.cmp .eq (.call 5 (.cons (.var 8) (.cons (.bin .add (.lit (.int (1))) (.var 11)) (.cons (.lit (.int (2))) .nil)))) (.lit (.int (1)))) env) (List.map D.int (rangeI 0 3)) st = .ok (.new ((((rangeI 0 3).filter p1).map abcK).map D.str)) st := fun env st h1 h2 =>
      compR_filter p1 abcK rfl (by simp [rangeI, hs]) fun x hx => by
        have hx := mem_range hx
        have e5 := e2 (c := c) (j := 1 + x) (b := 2) (st := st) (by omega) (by decide)
        by_cases q : drawV c (1 + x) 2 = 1
        · simp [turnC, h1, h2, e5, q, p1, ix_str (show (PySem.Str.ofString "abc").length ≤ sizeLine by rw [hs]; decide +kernel) (abc_at (k := x) (by omega)), abcK, sgn]
        · simp [turnC, h1, h2, e5, q, p1]
    have m2 : ∀ (env : MP.Env) (st : Sto), env[8]? = some (some (.int c)) → env[3]? = some (some (.int many)) → 10 < env.length →
        compR (stands D.none (List.map D.int (rangeI 0 many.toNat))) (turnC (MP.run T (k + 1)) (.var 10) (.one 10) (.cmp .eq (.call 5 (.cons (.var 8) (.cons (.bin .add (.lit (.int (4))) (.var 10)) (.cons (.bin .add (.lit (.int (2))) (.bi .toInt (.cons (.cmp .gt (.var 3) (.lit (.int (3)))) .nil))) .nil)))) (.lit (.int (1)))) env) (List.map D.int (rangeI 0 many.toNat)) st = .ok (.new ((((rangeI 0 many.toNat).filter p2).map id).map D.int)) st := fun env st h1 h2 h3 =>
      compR_filter p2 id rfl (by simp [rangeI, hs]; omega) fun x hx => by
        have hx := mem_range hx
        have e5 := e2 (c := c) (j := 4 + x) (b := bb) (st := st) (by omega) hbb
        by_cases q : drawV c (4 + x) bb = 1
        · simp [turnC, h1, h2, h3, e5, q, p2, hbe]
        · simp [turnC, h1, h2, h3, e5, q, p2, hbe]
    have hrow : ∀ r : List Int, r = (rangeI 0 many.toNat).filter p2 → r ≠ [] → Row many r := fun r hr hn => by
      subst hr
      exact ⟨hn, fun x hx => by
        have := mem_range (List.mem_filter.mp hx).1
        omega, (asc_range 0 many.toNat).sublist List.filter_sublist⟩
    generalize hr1 : (rangeI 0 many.toNat).filter p2 = r1' at *
    generalize hr2 : ((rangeI 0 3).filter p1).map abcK = r2' at *
    have l1 : s.1.length < 16777216 := by omega
    have l2 : s.2.1.length < 16777216 := by omega
    have l3 : s.2.2.length < 16777216 := by omega
    have d2 := drawV_rng (c := c) (j := 4 + many) (b := many) (by omega)
    have e6 := fun st => e2 (c := c) (j := 0) (b := 2) (st := st) (by decide) (by decide)
    have e7 := fun st => e2 (c := c) (j := 4 + many) (b := many) (st := st) (by omega) (by omega)
    have e8 := fun st => e1 (i := at0 + 1 + x) (st := st) (by omega)
    rw [hc] at e8
    have ex : ∀ row : List Int, Row many row → Drawn many (i + 1) (s.1 ++ [drawV c 0 2], s.2.1 ++ [r2'], s.2.2 ++ [row]) := fun row hrw => by
      refine ⟨by simp [i1], by simp [i2], by simp [i3], fun y hy => ?_, fun r hr => ?_, fun r hr => ?_⟩
      · rcases List.mem_append.mp hy with z | z
        · exact i4 y z
        · rw [List.mem_singleton.mp z]; exact d1
      · rcases List.mem_append.mp hr with z | z
        · exact i5 r z
        · rw [List.mem_singleton.mp z]; exact ⟨p1, hr2.symm⟩
      · rcases List.mem_append.mp hr with z | z
        · exact i6 r z
        · rw [List.mem_singleton.mp z]; exact hrw
    have b1 : many ≤ 16777216 := by omega
    have b2 : -4611686018427387904 ≤ many := by omega
    by_cases hne : r1' = []
    · refine ⟨_, [some (D.scr ns), some (D.int at0), some (D.int lim), some (D.int many), some (D.ref 0), some (D.ref 1), some (D.ref 2), some (.int x), some (.int c), some (.list [.int (drawV c (4 + many) many)]), none, none],
        st3 (s.1 ++ [drawV c 0 2], s.2.1 ++ [r2'], s.2.2 ++ [[drawV c (4 + many) many]]), ex [drawV c (4 + many) many] ⟨by simp, by simpa using d2, by simp⟩, ?_, by simp⟩
      simp [turnF, b__law_world_0, hs, e6, e7, e8, m1, m2, hne, l1, l2, l3, b1, b2]
      rfl
    · refine ⟨_, [some (D.scr ns), some (D.int at0), some (D.int lim), some (D.int many), some (D.ref 0), some (D.ref 1), some (D.ref 2), some (.int x), some (.int c), some (eL D.int r1'), none, none],
        st3 (s.1 ++ [drawV c 0 2], s.2.1 ++ [r2'], s.2.2 ++ [r1']), ex r1' (hrow r1' rfl hne), ?_, by simp⟩
      simp [turnF, b__law_world_0, hs, e6, e7, e8, m1, m2, hne, l1, l2, l3, b1, b2]

theorem mem_letters {p : Int → Bool} {x : PySem.Str} (h : x ∈ ((rangeI 0 3).filter p).map abcK) : x.length ≤ 100 ∧ sOk x := by
  obtain ⟨y, h1, rfl⟩ := List.mem_map.mp h
  have := mem_range (List.mem_filter.mp h1).1
  have : y = 0 ∨ y = 1 ∨ y = 2 := by omega
  rcases this with rfl | rfl | rfl <;> exact ⟨by decide +kernel, by unfold sOk; decide +kernel⟩
theorem asc_len {many : Int} {r : List Int} (h : Row many r) (hm : many ≤ 100) : r.length ≤ 100 := by
  have key : ∀ (r : List Int) (a : Int), r.Pairwise (· < ·) → (∀ x ∈ r, a ≤ x ∧ x < many) → (r.length : Int) ≤ many - a ∨ r = [] := by
    intro r
    induction r with
    | nil => intro _ _ _; exact .inr rfl
    | cons y r ih =>
      intro a hp hr
      rw [List.pairwise_cons] at hp
      have h1 := hr y List.mem_cons_self
      rcases ih (y + 1) hp.2 (fun x hx => ⟨by have := hp.1 x hx; omega, (hr x (List.mem_cons_of_mem _ hx)).2⟩) with z | z
      · left; rw [List.length_cons]; omega
      · left; subst z; rw [List.length_cons]; simp; omega
  rcases key r 0 h.asc h.rng with z | z
  · omega
  · exact absurd z h.ne
theorem Drawn.wd {many : Int} {n : Nat} {s : St3} (h : Drawn many n s) (hn : n ≤ 100) (hm : many ≤ 100) : Wd s.1 s.2.1 s.2.2 := by
  refine ⟨by rw [h.l1]; exact hn, by rw [h.l2]; exact hn, by rw [h.l3]; exact hn, fun r hr => ?_, fun r hr => asc_len (h.s r hr) hm⟩
  obtain ⟨p, rfl⟩ := h.m r hr
  refine ⟨?_, fun x hx => mem_letters hx⟩
  have := List.length_filter_le p (rangeI 0 3)
  simp only [List.length_map]
  have e : (rangeI 0 3).length = 3 := by simp [rangeI]
  omega
/-- the twin of a world in cells -/
theorem twin_ok {k : Nat} {s : St3} {st : Sto} {a b c : Nat} (h1 : st[a]? = some (.lst (s.1.map D.int))) (h2 : st[b]? = some (.lst (s.2.1.map (eL D.str)))) (h3 : st[c]? = some (.lst (s.2.2.map (eL D.int)))) (w : Wd s.1 s.2.1 s.2.2) :
    run T (k + 1) 7 [.tup [.ref a, .ref b, .ref c]] st = .ok (.tup [eI s.1, eSS s.2.1, eII s.2.2]) st := by
  have hs : sizeLine = 16777216 := sizeLine_eq
  rw [run_at (d := d__law_twin) rfl rfl]
  simp only [d__law_twin]
  have m1 : ∀ env : MP.Env, 1 < env.length → compR (stands (.ref b) (s.2.1.map (eL D.str))) (turnC (MP.run T k) (.bi .listOf (.cons (.var 1) .nil)) (.one 1) (.lit (.bool true)) env) (s.2.1.map (eL D.str)) st = .ok (.new ((s.2.1.map id).map (eL D.str))) st := fun env he =>
    compR_each id (stands_ref h2 fun d hd => by
      obtain ⟨r, hr, rfl⟩ := List.mem_map.mp hd
      exact (cmp_eL fun x hx => cmp_str ((w.mi r hr).2 x hx).2).lay) (by have := w.lm; omega) fun x hx => by simp [turnC, he]
  have m2 : ∀ env : MP.Env, 1 < env.length → compR (stands (.ref c) (s.2.2.map (eL D.int))) (turnC (MP.run T k) (.bi .listOf (.cons (.var 1) .nil)) (.one 1) (.lit (.bool true)) env) (s.2.2.map (eL D.int)) st = .ok (.new ((s.2.2.map id).map (eL D.int))) st := fun env he =>
    compR_each id (stands_ref h3 fun d hd => by
      obtain ⟨r, hr, rfl⟩ := List.mem_map.mp hd
      exact (cmp_eL fun x hx => cmp_int x).lay) (by have := w.ls; omega) fun x hx => by simp [turnC, he]
  have x1 : ixR (.tup [.ref a, .ref b, .ref c]) (.int 0) st = .ok (.v (.ref a)) st := rfl
  have x2 : ixR (.tup [.ref a, .ref b, .ref c]) (.int 1) st = .ok (.v (.ref b)) st := rfl
  have x3 : ixR (.tup [.ref a, .ref b, .ref c]) (.int 2) st = .ok (.v (.ref c)) st := rfl
  simp [hs, x1, x2, x3, bi_list_ref h1, itR_ref h2, itR_ref h3, m1, m2]

/-! the law's own look -/
def ris2 (ge : α → α → Bool) (l : List α) : Bool := decide ((((rangeI 1 (l.length - 1)).filter fun i => match atI l (i - 1), atI l i with
  | some a, some b => ge a b
  | _, _ => false).length : Int) = 0)
theorem rises2_ok {α : Type} {f : α → D} {ge : α → α → Bool} (hge : ∀ a b st, cmpR .ge (f a) (f b) st = .ok (.v (.bool (ge a b))) st) {k : Nat} {l : List α} (hl : l.length ≤ 10000) :
    run T (k + 1) 9 [eL f l] [] = .ok (.bool (ris2 ge l)) [] := by
  have hs : sizeLine = 16777216 := sizeLine_eq
  rw [run_at (d := d__law_rises) rfl rfl]
  simp only [d__law_rises]
  have m1 : ∀ (env : MP.Env) (st : Sto), env[0]? = some (some (eL f l)) → 1 < env.length →
      compR (stands D.none (List.map D.int (rangeI 1 (l.length - 1)))) (turnC (MP.run T k) (.var 1) (.one 1) (.cmp .ge (.ix (.var 0) (.bin .sub (.var 1) (.lit (.int 1)))) (.ix (.var 0) (.var 1))) env) (List.map D.int (rangeI 1 (l.length - 1))) st = .ok (.new ((((rangeI 1 (l.length - 1)).filter fun i => match atI l (i - 1), atI l i with
  | some a, some b => ge a b
  | _, _ => false).map id).map D.int)) st := fun env st h1 h2 =>
    compR_filter _ id rfl (by simp [rangeI, hs]; omega) fun x hx => by
      have hx := mem_range hx
      obtain ⟨a, ha⟩ := at_lt (l := l) (i := x - 1) (by omega) (by omega)
      obtain ⟨b, hb⟩ := at_lt (l := l) (i := x) (by omega) (by omega)
      by_cases q : ge a b = true
      · simp [turnC, h1, h2, ix_eL ha, ix_eL hb, ha, hb, hge, q]
      · simp [turnC, h1, h2, ix_eL ha, ix_eL hb, ha, hb, hge, q]
  simp
  rw [if_pos (by omega)]
  simp [m1, ris2]
theorem ris_eq {α : Type} (ge : α → α → Bool) (l : List α) : ris2 ge l = risB ge l := by
  unfold ris2 risB
  have hx : ∀ x ∈ rangeI 1 (l.length - 1), ∃ a b, atI l (x - 1) = some a ∧ atI l x = some b := fun x hx => by
    have hx := mem_range hx
    obtain ⟨a, ha⟩ := at_lt (l := l) (i := x - 1) (by omega) (by omega)
    obtain ⟨b, hb⟩ := at_lt (l := l) (i := x) (by omega) (by omega)
    exact ⟨a, b, ha, hb⟩
  generalize rangeI 1 (l.length - 1) = rs at hx
  induction rs with
  | nil => rfl
  | cons y r ih =>
    obtain ⟨a, b, ha, hb⟩ := hx y List.mem_cons_self
    have ih := ih fun x h => hx x (List.mem_cons_of_mem _ h)
    rw [List.filter_cons, List.all_cons]
    simp only [ha, hb]
    cases q : ge a b with
    | true => simp; omega
    | false => simpa using ih
def six : List PySem.Str := ["a", "b", "c", "d", "e", "f"]
def mark2 (m : PySem.Str) : Bool := six.any fun z => decide (z = m)
theorem mark_eq (m : PySem.Str) : markB m = mark2 m := by
  unfold markB
  by_cases h : (m.length : Int) = 1
  · obtain ⟨c, rfl⟩ : ∃ c, m = ⟨#[c]⟩ := by
      obtain ⟨cs⟩ := m
      have h' : cs.size = 1 := by
        have : ((⟨cs⟩ : PySem.Str).length : Int) = cs.size := rfl
        omega
      obtain ⟨c, hc⟩ := Array.size_eq_one_iff.mp h'
      exact ⟨c, by rw [hc]⟩
    rw [decide_eq_true h, Bool.true_and]
    unfold strIn
    rw [PySem.StrLaws.found_one "abcdef" c]
    have e : ("abcdef" : PySem.Str).cps.toList = [97, 98, 99, 100, 101, 102] := by decide +kernel
    rw [e]
    have e2 : six = [⟨#[97]⟩, ⟨#[98]⟩, ⟨#[99]⟩, ⟨#[100]⟩, ⟨#[101]⟩, ⟨#[102]⟩] := by decide +kernel
    unfold mark2
    rw [e2]
    simp [eq_comm]
  · rw [decide_eq_false h, Bool.false_and]
    unfold mark2
    symm
    rw [List.any_eq_false]
    intro z hz
    have hz2 : z.length = 1 := by
      have key : ∀ z ∈ six, z.length = 1 := by decide +kernel
      exact key z hz
    simp only [decide_eq_true_eq]
    intro e
    subst e
    rw [hz2] at h
    exact h rfl
def room2 (o : List Int) (m : List (List PySem.Str)) (s : List (List Int)) (i : Int) : Bool := match atI o i, atI m i, atI s i with
  | some a, some b, some c => (decide (a = 0) || decide (a = 1)) && (!decide (c = [])) && (allP mark2 b && ris2 geS b) && (allP (inB o.length) c && ris2 (fun a b => decide (b ≤ a)) c)
  | _, _, _ => true
def good2 (o : List Int) (m : List (List PySem.Str)) (s : List (List Int)) : Bool := if headB o m s = true then allP (room2 o m s) (rangeI 0 o.length) else false
theorem allP_congr {α : Type} {p q : α → Bool} {l : List α} (h : ∀ x ∈ l, p x = q x) : allP p l = allP q l := by
  unfold allP
  induction l with
  | nil => rfl
  | cons a r ih =>
    rw [List.all_cons, List.all_cons, h a List.mem_cons_self, ih fun x hx => h x (List.mem_cons_of_mem _ hx)]
theorem good_eq (o : List Int) (m : List (List PySem.Str)) (s : List (List Int)) : good2 o m s = worldB o m s := by
  unfold good2 worldB
  split
  · refine allP_congr fun i _ => ?_
    unfold room2 roomB
    split
    · rename_i a b c _ _ _
      rw [ris_eq, ris_eq, allP_congr (q := markB) fun x _ => (mark_eq x).symm]
      unfold marksB roomsB eqOr
      have e : decide ((c.length : Int) = 0) = decide (c = []) := by
        cases c with
        | nil => rfl
        | cons _ _ => simp; omega
      rw [e]
      cases decide (a = 0) <;> cases decide (a = 1) <;> cases decide (c = []) <;> cases allP markB b <;> cases risB geS b <;> cases allP (inB o.length) c <;> cases risB (fun a b => decide (b ≤ a)) c <;> rfl
    · rfl
  · rfl
theorem law_good_ok {k : Nat} {o : List Int} {m : List (List PySem.Str)} {s : List (List Int)} (h : Wd o m s) : run T (k + 2) 10 [eI o, eSS m, eII s] [] = .ok (.bool (good2 o m s)) [] := by
  have hs : sizeLine = 16777216 := sizeLine_eq
  have lo := h.lo
  rw [run_at (d := d__law_good) rfl rfl]
  simp only [d__law_good]
  by_cases hh : headB o m s = true
  · obtain ⟨h1, h2, h3, h4⟩ := of_decide_eq_true hh
    simp [hs, h3, h4, show ¬ ((o.length : Int) < 1) by omega, show ¬ (24 < (o.length : Int)) by omega]
    rw [if_pos (by omega)]
    simp [forR]
    rw [loopF_all (room2 o m s) (.bool false) (by simp)]
    · simp only [good2, hh, if_true]
      show endR (sqX (if allP (room2 o m s) (rangeI 0 o.length) = true then _ else _) _) = _
      cases allP (room2 o m s) (rangeI 0 o.length) <;> simp
    · intro i hi
      have hi := mem_range hi
      obtain ⟨a, ha⟩ := at_lt (l := o) (i := i) (by omega) (by omega)
      obtain ⟨b, hb⟩ := at_lt (l := m) (i := i) (by omega) (by omega)
      obtain ⟨c, hc⟩ := at_lt (l := s) (i := i) (by omega) (by omega)
      have hb1 := h.mi b (at_mem hb)
      have hc1 := h.si c (at_mem hc)
      have e1 : ∀ st, callP (run T (k + 1)) 9 [eS b] st = .ok (.v (.bool (ris2 geS b))) st := fun st => callP_at (by simp) (rises2_ok (fun a b st => by simp [geS]) (by omega)) rfl
      have e2 : ∀ st, callP (run T (k + 1)) 9 [eI c] st = .ok (.v (.bool (ris2 (fun a b => decide (b ≤ a)) c))) st := fun st => callP_at (by simp) (rises2_ok (fun a b st => by simp) (by omega)) rfl
      have m1 : ∀ (env : MP.Env) (st : Sto), 5 < env.length → compR (stands (eS b) (b.map D.str)) (turnC (MP.run T (k + 1)) (.cmp .isin (.var 5) (.list (.cons (.lit (.str "a")) (.cons (.lit (.str "b")) (.cons (.lit (.str "c")) (.cons (.lit (.str "d")) (.cons (.lit (.str "e")) (.cons (.lit (.str "f")) .nil)))))))) (.one 5) (.lit (.bool true)) env) (b.map D.str) st = .ok (.new ((b.map mark2).map D.bool)) st := fun env st he =>
        compR_each mark2 rfl (by omega) fun x hx => by
          have e6 := in_strs (st := st) (ls := six) (hb1.2 x hx).2 (by unfold sOk; decide +kernel)
          simp [turnC, he, hs]
          show ((cmpR .isin (.str x) (.list (six.map D.str)) st).bind fun y st => R.ok (some y.d) st) = _
          rw [e6]
          rfl
      have m2 : ∀ (env : MP.Env) (st : Sto), 6 < env.length → env[3]? = some (some (.int o.length)) → compR (stands (eI c) (c.map D.int)) (turnC (MP.run T (k + 1)) (.chain .le .lt (.lit (.int 0)) (.var 6) (.var 3)) (.one 6) (.lit (.bool true)) env) (c.map D.int) st = .ok (.new ((c.map (inB o.length)).map D.bool)) st := fun env st he h3 =>
        compR_each (inB o.length) rfl (by omega) fun x hx => by
          by_cases q : 0 ≤ x <;> simp [turnC, he, h3, q, inB]
      simp only [room2, ha, hb, hc]
      generalize hp1 : (decide (a = 0) || decide (a = 1)) = p1
      generalize hp2 : (allP mark2 b && ris2 geS b) = p2
      generalize hp3 : (allP (inB o.length) c && ris2 (fun a b => decide (b ≤ a)) c) = p3
      have hq1 : p1 = false → ¬ a = 0 ∧ ¬ a = 1 := fun z => by rw [z] at hp1; simpa using hp1
      have hq1' : p1 = true → a = 0 ∨ a = 1 := fun z => by rw [z] at hp1; simpa using hp1
      have s1 : p1 = false → turnF (MP.run T (k + 1)) (Tg.one 4) b__law_good_0 (D.int i) [some (eI o), some (eSS m), some (eII s), some (D.int ↑o.length), none, none, none] [] = X.rt (D.bool false) [] := fun z => by
        obtain ⟨z1, z2⟩ := hq1 z
        simp [turnF, b__law_good_0, ix_eL ha, ix_eL hb, ix_eL hc, hs, z1, z2]
      have s2 : p1 = true → c = [] → turnF (MP.run T (k + 1)) (Tg.one 4) b__law_good_0 (D.int i) [some (eI o), some (eSS m), some (eII s), some (D.int ↑o.length), none, none, none] [] = X.rt (D.bool false) [] := fun z zc => by
        rcases hq1' z with z | z
        · simp [turnF, b__law_good_0, ix_eL ha, ix_eL hb, ix_eL hc, hs, z, zc]
        · simp [turnF, b__law_good_0, ix_eL ha, ix_eL hb, ix_eL hc, hs, z, zc]
      have s3 : p1 = true → ¬ c = [] → p2 = false → turnF (MP.run T (k + 1)) (Tg.one 4) b__law_good_0 (D.int i) [some (eI o), some (eSS m), some (eII s), some (D.int ↑o.length), none, none, none] [] = X.rt (D.bool false) [] := fun z zc z2 => by
        rw [z2] at hp2
        cases w1 : allP mark2 b <;> cases w2 : ris2 geS b <;> simp [w1, w2] at hp2 <;> rcases hq1' z with z | z <;>
          simp [turnF, b__law_good_0, ix_eL ha, ix_eL hb, ix_eL hc, hs, z, zc, itR, m1, e1, w1, w2]
      have s4 : p1 = true → ¬ c = [] → p2 = true → p3 = false → turnF (MP.run T (k + 1)) (Tg.one 4) b__law_good_0 (D.int i) [some (eI o), some (eSS m), some (eII s), some (D.int ↑o.length), none, none, none] [] = X.rt (D.bool false) [] := fun z zc z2 z3 => by
        rw [z2] at hp2
        rw [z3] at hp3
        rw [Bool.and_eq_true] at hp2
        cases w1 : allP (inB o.length) c <;> cases w2 : ris2 (fun a b => decide (b ≤ a)) c <;> simp [w1, w2] at hp3 <;> rcases hq1' z with z | z <;>
          simp [turnF, b__law_good_0, ix_eL ha, ix_eL hb, ix_eL hc, hs, z, zc, itR, m1, m2, e1, e2, hp2.1, hp2.2, w1, w2]
      have s5 : p1 = true → ¬ c = [] → p2 = true → p3 = true → turnF (MP.run T (k + 1)) (Tg.one 4) b__law_good_0 (D.int i) [some (eI o), some (eSS m), some (eII s), some (D.int ↑o.length), none, none, none] [] = X.nx [some (eI o), some (eSS m), some (eII s), some (D.int ↑o.length), some (.int i), none, none] [] := fun z zc z2 z3 => by
        rw [z2] at hp2
        rw [z3] at hp3
        rw [Bool.and_eq_true] at hp2 hp3
        rcases hq1' z with z | z <;> simp [turnF, b__law_good_0, ix_eL ha, ix_eL hb, ix_eL hc, hs, z, zc, itR, m1, m2, e1, e2, hp2.1, hp2.2, hp3.1, hp3.2]
      clear hp1 hp2 hp3
      by_cases zc : c = []
      · refine ⟨fun _ => ?_, fun hg => by simp [zc] at hg⟩
        cases p1 with
        | false => exact s1 rfl
        | true => exact s2 rfl zc
      · cases p1 with
        | false => exact ⟨fun _ => s1 rfl, fun hg => by simp at hg⟩
        | true =>
          cases p2 with
          | false => exact ⟨fun _ => s3 rfl zc rfl, fun hg => by simp at hg⟩
          | true =>
            cases p3 with
            | false => exact ⟨fun _ => s4 rfl zc rfl rfl, fun hg => by simp at hg⟩
            | true => exact ⟨fun hg => by simp [zc] at hg, fun _ => ⟨_, s5 rfl zc rfl rfl, by simp⟩⟩
  · have key : good2 o m s = false := by unfold good2; rw [if_neg hh]
    rw [key]
    have hh' : ¬ (1 ≤ (o.length : Int) ∧ (o.length : Int) ≤ 24 ∧ (m.length : Int) = o.length ∧ (s.length : Int) = o.length) := fun z => hh (decide_eq_true z)
    by_cases h1 : (o.length : Int) < 1 <;> by_cases h2 : 24 < (o.length : Int) <;> by_cases h3 : (m.length : Int) = o.length <;> by_cases h4 : (s.length : Int) = o.length <;>
      first | (simp [h1, h2, h3, h4]; done) | exact (hh' ⟨by omega, by omega, h3, h4⟩).elim
structure Cells (st : Sto) (a b c : Nat) (s : St3) : Prop where
  ab : a ≠ b
  ac : a ≠ c
  bc : b ≠ c
  ca : st[a]? = some (.lst (s.1.map D.int))
  cb : st[b]? = some (.lst (s.2.1.map (eL D.str)))
  cc : st[c]? = some (.lst (s.2.2.map (eL D.int)))
structure Typed (n : Nat) (s : St3) : Prop where
  lo : s.1.length ≤ n
  lm : s.2.1.length ≤ n
  ls : s.2.2.length ≤ n
  mi : ∀ r : List PySem.Str, r ∈ s.2.1 → r.length ≤ 100 ∧ ∀ x : PySem.Str, x ∈ r → x.length ≤ 100 ∧ sOk x
  si : ∀ r : List Int, r ∈ s.2.2 → r.length ≤ 100
theorem lit8 {v : Int} (h : 0 ≤ v ∧ v < 8) : ∃ r : List PySem.Str, (r.length ≤ 100 ∧ ∀ x : PySem.Str, x ∈ r → x.length ≤ 100 ∧ sOk x) ∧
    ∀ st, ixR (.list [.list [.str "g"], .list [.str "a", .str "a"], .list [.str "b", .str "a"], .list [.str "ab"], .list [.str ""], .list [.str "A"], .list [.str "f"], .list [.str "a", .str "f"]]) (.int v) st = .ok (.v (eS r)) st := by
  obtain ⟨h1, h2⟩ := h
  have key : ∀ r : List PySem.Str, (decide (r.length ≤ 100) && r.all fun x => decide (x.length ≤ 100) && x.cps.all (· < 0x110000)) = true → (r.length ≤ 100 ∧ ∀ x : PySem.Str, x ∈ r → x.length ≤ 100 ∧ sOk x) := fun r h => by
    rw [Bool.and_eq_true] at h
    refine ⟨of_decide_eq_true h.1, fun x hx => ?_⟩
    have := List.all_eq_true.mp h.2 x hx
    rw [Bool.and_eq_true] at this
    exact ⟨of_decide_eq_true this.1, this.2⟩
  have : v = 0 ∨ v = 1 ∨ v = 2 ∨ v = 3 ∨ v = 4 ∨ v = 5 ∨ v = 6 ∨ v = 7 := by omega
  rcases this with rfl | rfl | rfl | rfl | rfl | rfl | rfl | rfl
  · exact ⟨["g"], key _ (by decide +kernel), fun st => rfl⟩
  · exact ⟨["a", "a"], key _ (by decide +kernel), fun st => rfl⟩
  · exact ⟨["b", "a"], key _ (by decide +kernel), fun st => rfl⟩
  · exact ⟨["ab"], key _ (by decide +kernel), fun st => rfl⟩
  · exact ⟨[""], key _ (by decide +kernel), fun st => rfl⟩
  · exact ⟨["A"], key _ (by decide +kernel), fun st => rfl⟩
  · exact ⟨["f"], key _ (by decide +kernel), fun st => rfl⟩
  · exact ⟨["a", "f"], key _ (by decide +kernel), fun st => rfl⟩
theorem lit7 {v n far : Int} (h : 0 ≤ v ∧ v < 7) : ∃ r : List Int, r.length ≤ 100 ∧
    ∀ st, ixR (.list [.list [], .list [.int n], .list [.int (-1)], .list [.int 0, .int 0], .list [.int (n - 1), .int 0], .list [.int far], .list [.int (-1 - far), .int 0]]) (.int v) st = .ok (.v (eI r)) st := by
  obtain ⟨h1, h2⟩ := h
  have : v = 0 ∨ v = 1 ∨ v = 2 ∨ v = 3 ∨ v = 4 ∨ v = 5 ∨ v = 6 := by omega
  rcases this with rfl | rfl | rfl | rfl | rfl | rfl | rfl
  · exact ⟨[], by decide, fun st => rfl⟩
  · exact ⟨[n], by simp, fun st => rfl⟩
  · exact ⟨[-1], by decide, fun st => rfl⟩
  · exact ⟨[0, 0], by decide, fun st => rfl⟩
  · exact ⟨[n - 1, 0], by simp, fun st => rfl⟩
  · exact ⟨[far], by simp, fun st => rfl⟩
  · exact ⟨[-1 - far, 0], by simp, fun st => rfl⟩
theorem put_at {env : MP.Env} {st : Sto} {n : Nat} {xs : List D} {i : Int} {v : D} (h : st[n]? = some (.lst xs)) (h1 : 0 ≤ i) (h2 : i < xs.length) : putR env (.ref n) (.int i) v st = .nx env (st.set n (.lst (xs.set i.toNat v))) := by
  have e : putV (.ref n) (.int i) v st = some (st.set n (.lst (xs.set i.toNat v))) := by
    show (match st[n]? with
      | some (.lst xs) => (match L2.ixN xs.length i with
        | some j => some (st.set n (.lst (xs.set j v)))
        | Option.none => Option.none)
      | _ => Option.none) = _
    rw [h]
    dsimp only
    unfold L2.ixN
    rw [if_pos h1, if_pos h2]
  unfold putR
  rw [e]
theorem spoilt_ok {k : Nat} {st : Sto} {a b c n : Nat} {s : St3} {cell : Int} (h : Cells st a b c s) (ht : Typed n s) (hn : n ≤ 90) :
    ∃ a' b' c' s' st', run T (k + 1) 8 [.tup [.ref a, .ref b, .ref c], .int cell] st = .ok (.tup [.ref a', .ref b', .ref c']) st' ∧ Cells st' a' b' c' s' ∧ Typed (n + 1) s' := by
  have hs : sizeLine = 16777216 := sizeLine_eq
  obtain ⟨ab, ac, bc, ca, cb, cc⟩ := h
  rw [run_at (d := d__law_spoilt) rfl rfl]
  simp only [d__law_spoilt]
  have r1 := fmod_rng cell (b := 12) (by decide)
  generalize hw : cell.fmod 12 = way at r1
  obtain ⟨M, hM⟩ : ∃ M : Int, (if 1 < (s.1.length : Int) then (s.1.length : Int) else 1) = M := ⟨_, rfl⟩
  have hM1 : 1 ≤ M ∧ (1 ≤ (s.1.length : Int) → M = s.1.length) := by
    rw [← hM]
    by_cases q : 1 < (s.1.length : Int)
    · rw [if_pos q]; omega
    · rw [if_neg q]; omega
  have hM0 : M ≠ 0 := by omega
  have ra := fmod_rng (cell.fdiv 12) (b := M) (by omega)
  generalize hat : (cell.fdiv 12).fmod M = at0 at ra
  generalize hfar : (cell.fdiv 1000).fmod 100000000000000000000000000000000000000000000000000 = far
  have la := len_ref ca
  have lb := len_ref cb
  have lc := len_ref cc
  simp only [List.length_map] at la lb lc
  obtain ⟨tlo, tlm, tls, tmi, tsi⟩ := ht
  have r8 := fmod_rng (cell.fdiv 144) (b := 8) (by decide)
  have r7 := fmod_rng (cell.fdiv 144) (b := 7) (by decide)
  generalize h8 : (cell.fdiv 144).fmod 8 = v8 at r8
  generalize h7 : (cell.fdiv 144).fmod 7 = v7 at r7
  have na : a < st.length := (List.getElem?_eq_some_iff.mp ca).1
  have nb : b < st.length := (List.getElem?_eq_some_iff.mp cb).1
  have nc : c < st.length := (List.getElem?_eq_some_iff.mp cc).1
  have same : Cells st a b c s ∧ Typed (n + 1) s := ⟨⟨ab, ac, bc, ca, cb, cc⟩, ⟨by omega, by omega, by omega, tmi, tsi⟩⟩
  have : way = 0 ∨ way = 1 ∨ way = 2 ∨ way = 3 ∨ way = 4 ∨ way = 5 ∨ way = 6 ∨ way = 7 ∨ way = 8 ∨ way = 9 ∨ way = 10 ∨ way = 11 := by omega
  rcases this with rfl | rfl | rfl | rfl | rfl | rfl | rfl | rfl | rfl | rfl | rfl | rfl
  · by_cases q : 0 < s.1.length
    · have xi : ixR (.list [.int 2, .int (-1), .int (2 + far)]) (.int 0) st = .ok (.v (.int 2)) st := rfl
      refine ⟨a, b, c, (s.1.set at0.toNat 2, s.2.1, s.2.2), st.set a (.lst ((s.1.map D.int).set at0.toNat (.int 2))), ?_, ⟨ab, ac, bc, ?_, ?_, ?_⟩, ⟨by simp; omega, by simp; omega, by simp; omega, tmi, tsi⟩⟩
      · simp [hs, unR, bindT, bindT.bindAll, hw, hM, hM0, hat, hfar, h8, h7, L2.CDivN, L2.CPow, la, lb, lc, q, xi, put_at ca ra.1 (show at0 < ((s.1.map D.int).length : Int) by simp; omega)]
      · simp [na, List.map_set]
      · simp [ab, Ne.symm ab, cb]
      · simp [ac, Ne.symm ac, cc]
    · refine ⟨a, b, c, s, st, ?_, same.1, same.2⟩
      simp [hs, unR, bindT, bindT.bindAll, hw, hM, hM0, hat, hfar, h8, h7, L2.CDivN, L2.CPow, la, lb, lc, q]
  · by_cases q : 0 < s.1.length
    · have xi : ixR (.list [.int 2, .int (-1), .int (2 + far)]) (.int 1) st = .ok (.v (.int (-1))) st := rfl
      refine ⟨a, b, c, (s.1.set at0.toNat (-1), s.2.1, s.2.2), st.set a (.lst ((s.1.map D.int).set at0.toNat (.int (-1)))), ?_, ⟨ab, ac, bc, ?_, ?_, ?_⟩, ⟨by simp; omega, by simp; omega, by simp; omega, tmi, tsi⟩⟩
      · simp [hs, unR, bindT, bindT.bindAll, hw, hM, hM0, hat, hfar, h8, h7, L2.CDivN, L2.CPow, la, lb, lc, q, xi, put_at ca ra.1 (show at0 < ((s.1.map D.int).length : Int) by simp; omega)]
      · simp [na, List.map_set]
      · simp [ab, Ne.symm ab, cb]
      · simp [ac, Ne.symm ac, cc]
    · refine ⟨a, b, c, s, st, ?_, same.1, same.2⟩
      simp [hs, unR, bindT, bindT.bindAll, hw, hM, hM0, hat, hfar, h8, h7, L2.CDivN, L2.CPow, la, lb, lc, q]
  · by_cases q : 0 < s.1.length
    · have xi : ixR (.list [.int 2, .int (-1), .int (2 + far)]) (.int 2) st = .ok (.v (.int (2 + far))) st := rfl
      refine ⟨a, b, c, (s.1.set at0.toNat (2 + far), s.2.1, s.2.2), st.set a (.lst ((s.1.map D.int).set at0.toNat (.int (2 + far)))), ?_, ⟨ab, ac, bc, ?_, ?_, ?_⟩, ⟨by simp; omega, by simp; omega, by simp; omega, tmi, tsi⟩⟩
      · simp [hs, unR, bindT, bindT.bindAll, hw, hM, hM0, hat, hfar, h8, h7, L2.CDivN, L2.CPow, la, lb, lc, q, xi, put_at ca ra.1 (show at0 < ((s.1.map D.int).length : Int) by simp; omega)]
      · simp [na, List.map_set]
      · simp [ab, Ne.symm ab, cb]
      · simp [ac, Ne.symm ac, cc]
    · refine ⟨a, b, c, s, st, ?_, same.1, same.2⟩
      simp [hs, unR, bindT, bindT.bindAll, hw, hM, hM0, hat, hfar, h8, h7, L2.CDivN, L2.CPow, la, lb, lc, q]
  · obtain ⟨r, hr, xi⟩ := lit8 r8
    by_cases q : at0 < s.2.1.length
    · refine ⟨a, b, c, (s.1, s.2.1.set at0.toNat r, s.2.2), st.set b (.lst ((s.2.1.map (eL D.str)).set at0.toNat (eS r))), ?_, ⟨ab, ac, bc, ?_, ?_, ?_⟩, ⟨by simp; omega, by simp; omega, by simp; omega, ?_, tsi⟩⟩
      · simp [hs, unR, bindT, bindT.bindAll, hw, hM, hM0, hat, hfar, h8, h7, L2.CDivN, L2.CPow, la, lb, lc, q, xi, put_at cb ra.1 (show at0 < ((s.2.1.map (eL D.str)).length : Int) by simp; omega)]
      · simp [Ne.symm ab, ab, ca]
      · simp [nb, List.map_set]
      · simp [bc, Ne.symm bc, cc]
      · intro x hx
        rcases List.mem_or_eq_of_mem_set hx with z | z
        · exact tmi x z
        · rw [z]; exact hr
    · refine ⟨a, b, c, s, st, ?_, same.1, same.2⟩
      simp [hs, unR, bindT, bindT.bindAll, hw, hM, hM0, hat, hfar, h8, h7, L2.CDivN, L2.CPow, la, lb, lc, q]
  · obtain ⟨r, hr, xi⟩ := lit8 r8
    by_cases q : at0 < s.2.1.length
    · refine ⟨a, b, c, (s.1, s.2.1.set at0.toNat r, s.2.2), st.set b (.lst ((s.2.1.map (eL D.str)).set at0.toNat (eS r))), ?_, ⟨ab, ac, bc, ?_, ?_, ?_⟩, ⟨by simp; omega, by simp; omega, by simp; omega, ?_, tsi⟩⟩
      · simp [hs, unR, bindT, bindT.bindAll, hw, hM, hM0, hat, hfar, h8, h7, L2.CDivN, L2.CPow, la, lb, lc, q, xi, put_at cb ra.1 (show at0 < ((s.2.1.map (eL D.str)).length : Int) by simp; omega)]
      · simp [Ne.symm ab, ab, ca]
      · simp [nb, List.map_set]
      · simp [bc, Ne.symm bc, cc]
      · intro x hx
        rcases List.mem_or_eq_of_mem_set hx with z | z
        · exact tmi x z
        · rw [z]; exact hr
    · refine ⟨a, b, c, s, st, ?_, same.1, same.2⟩
      simp [hs, unR, bindT, bindT.bindAll, hw, hM, hM0, hat, hfar, h8, h7, L2.CDivN, L2.CPow, la, lb, lc, q]
  · obtain ⟨r, hr, xi⟩ := lit8 r8
    by_cases q : at0 < s.2.1.length
    · refine ⟨a, b, c, (s.1, s.2.1.set at0.toNat r, s.2.2), st.set b (.lst ((s.2.1.map (eL D.str)).set at0.toNat (eS r))), ?_, ⟨ab, ac, bc, ?_, ?_, ?_⟩, ⟨by simp; omega, by simp; omega, by simp; omega, ?_, tsi⟩⟩
      · simp [hs, unR, bindT, bindT.bindAll, hw, hM, hM0, hat, hfar, h8, h7, L2.CDivN, L2.CPow, la, lb, lc, q, xi, put_at cb ra.1 (show at0 < ((s.2.1.map (eL D.str)).length : Int) by simp; omega)]
      · simp [Ne.symm ab, ab, ca]
      · simp [nb, List.map_set]
      · simp [bc, Ne.symm bc, cc]
      · intro x hx
        rcases List.mem_or_eq_of_mem_set hx with z | z
        · exact tmi x z
        · rw [z]; exact hr
    · refine ⟨a, b, c, s, st, ?_, same.1, same.2⟩
      simp [hs, unR, bindT, bindT.bindAll, hw, hM, hM0, hat, hfar, h8, h7, L2.CDivN, L2.CPow, la, lb, lc, q]
  · obtain ⟨r, hr, xi⟩ := lit7 (n := s.1.length) (far := far) r7
    by_cases q : at0 < s.2.2.length
    · refine ⟨a, b, c, (s.1, s.2.1, s.2.2.set at0.toNat r), st.set c (.lst ((s.2.2.map (eL D.int)).set at0.toNat (eI r))), ?_, ⟨ab, ac, bc, ?_, ?_, ?_⟩, ⟨by simp; omega, by simp; omega, by simp; omega, tmi, ?_⟩⟩
      · simp [hs, unR, bindT, bindT.bindAll, hw, hM, hM0, hat, hfar, h8, h7, L2.CDivN, L2.CPow, la, lb, lc, q, xi, put_at cc ra.1 (show at0 < ((s.2.2.map (eL D.int)).length : Int) by simp; omega)]
      · simp [Ne.symm ac, ac, ca]
      · simp [Ne.symm bc, bc, cb]
      · simp [nc, List.map_set]
      · intro x hx
        rcases List.mem_or_eq_of_mem_set hx with z | z
        · exact tsi x z
        · rw [z]; exact hr
    · refine ⟨a, b, c, s, st, ?_, same.1, same.2⟩
      simp [hs, unR, bindT, bindT.bindAll, hw, hM, hM0, hat, hfar, h8, h7, L2.CDivN, L2.CPow, la, lb, lc, q]
  · obtain ⟨r, hr, xi⟩ := lit7 (n := s.1.length) (far := far) r7
    by_cases q : at0 < s.2.2.length
    · refine ⟨a, b, c, (s.1, s.2.1, s.2.2.set at0.toNat r), st.set c (.lst ((s.2.2.map (eL D.int)).set at0.toNat (eI r))), ?_, ⟨ab, ac, bc, ?_, ?_, ?_⟩, ⟨by simp; omega, by simp; omega, by simp; omega, tmi, ?_⟩⟩
      · simp [hs, unR, bindT, bindT.bindAll, hw, hM, hM0, hat, hfar, h8, h7, L2.CDivN, L2.CPow, la, lb, lc, q, xi, put_at cc ra.1 (show at0 < ((s.2.2.map (eL D.int)).length : Int) by simp; omega)]
      · simp [Ne.symm ac, ac, ca]
      · simp [Ne.symm bc, bc, cb]
      · simp [nc, List.map_set]
      · intro x hx
        rcases List.mem_or_eq_of_mem_set hx with z | z
        · exact tsi x z
        · rw [z]; exact hr
    · refine ⟨a, b, c, s, st, ?_, same.1, same.2⟩
      simp [hs, unR, bindT, bindT.bindAll, hw, hM, hM0, hat, hfar, h8, h7, L2.CDivN, L2.CPow, la, lb, lc, q]
  · refine ⟨a, b, c, (s.1 ++ [0], s.2.1, s.2.2), st.set a (.lst (s.1.map D.int ++ [.int 0])), ?_, ⟨ab, ac, bc, ?_, ?_, ?_⟩, ⟨by simp; omega, by simp; omega, by simp; omega, tmi, tsi⟩⟩
    · simp [hs, unR, bindT, bindT.bindAll, hw, hM, hM0, hat, hfar, h8, h7, L2.CDivN, L2.CPow, la, lb, lc, ca, show s.1.length < 16777216 by omega]
    · simp [na]
    · simp [ab, Ne.symm ab, cb]
    · simp [ac, Ne.symm ac, cc]
  · by_cases q : 0 < s.2.1.length
    · refine ⟨a, b, c, (s.1, s.2.1.dropLast, s.2.2), st.set b (.lst ((s.2.1.map (eL D.str)).dropLast)), ?_, ⟨ab, ac, bc, ?_, ?_, ?_⟩, ⟨by simp; omega, by simp; omega, by simp; omega, fun x hx => tmi x ((List.dropLast_sublist _).subset hx), tsi⟩⟩
      · have xl : s.2.1[s.2.1.length - 1]? = some (s.2.1[s.2.1.length - 1]) := List.getElem?_eq_getElem (by omega)
        simp [hs, unR, bindT, bindT.bindAll, hw, hM, hM0, hat, hfar, h8, h7, L2.CDivN, L2.CPow, la, lb, lc, q, cb, popV, xl]
      · simp [Ne.symm ab, ab, ca]
      · simp [nb, List.map_dropLast]
      · simp [bc, Ne.symm bc, cc]
    · refine ⟨a, b, c, s, st, ?_, same.1, same.2⟩
      simp [hs, unR, bindT, bindT.bindAll, hw, hM, hM0, hat, hfar, h8, h7, L2.CDivN, L2.CPow, la, lb, lc, q]
  · refine ⟨a, b, c, (s.1, s.2.1, s.2.2 ++ [[0]]), st.set c (.lst (s.2.2.map (eL D.int) ++ [.list [.int 0]])), ?_, ⟨ab, ac, bc, ?_, ?_, ?_⟩, ⟨by simp; omega, by simp; omega, by simp; omega, tmi, ?_⟩⟩
    · simp [hs, unR, bindT, bindT.bindAll, hw, hM, hM0, hat, hfar, h8, h7, L2.CDivN, L2.CPow, la, lb, lc, cc, show s.2.2.length < 16777216 by omega]
    · simp [Ne.symm ac, ac, ca]
    · simp [Ne.symm bc, bc, cb]
    · simp [nc]
      rfl
    · intro x hx
      rcases List.mem_append.mp hx with z | z
      · exact tsi x z
      · rw [List.mem_singleton.mp z]; decide
  · by_cases q : (cell.fdiv 144).fmod 3 = 0
    · refine ⟨st.length, st.length + 1, st.length + 2, ([], [], []), st ++ [.lst []] ++ [.lst []] ++ [.lst []], ?_, ⟨by omega, by omega, by omega, ?_, ?_, ?_⟩, ⟨by simp, by simp, by simp, fun x hx => (nomatch hx), fun x hx => (nomatch hx)⟩⟩
      · simp [hs, unR, bindT, bindT.bindAll, hw, hM, hM0, hat, hfar, h8, h7, L2.CDivN, L2.CPow, la, lb, lc, q]
      · simp
      · simp
      · simp
    · refine ⟨a, b, c, s, st, ?_, same.1, same.2⟩
      simp [hs, unR, bindT, bindT.bindAll, hw, hM, hM0, hat, hfar, h8, h7, L2.CDivN, L2.CPow, la, lb, lc, q]

theorem Typed.up {n m : Nat} {s : St3} (h : Typed n s) (hm : n ≤ m) : Typed m s := ⟨by have := h.lo; omega, by have := h.lm; omega, by have := h.ls; omega, h.mi, h.si⟩
theorem Typed.wd {n : Nat} {s : St3} (h : Typed n s) (hm : n ≤ 100) : Wd s.1 s.2.1 s.2.2 := ⟨by have := h.lo; omega, by have := h.lm; omega, by have := h.ls; omega, h.mi, h.si⟩
abbrev World5 : Type := Nat × Nat × Nat × St3 × Sto
abbrev w5 (x : World5) : D := .tup [.ref x.1, .ref x.2.1, .ref x.2.2.1]
theorem law_end {k : Nat} {ns : List Int} {c : Int} {mo ro : Option D} {x : World5} {n : Nat} (h : Cells x.2.2.2.2 x.1 x.2.1 x.2.2.1 x.2.2.2.1) (ht : Typed n x.2.2.2.1) (hn : n ≤ 80) :
    ∃ st', exL (run T (k + 4)) (d_law.body.drop 4) [some (.scr ns), some (w5 x), some (.int c), none, none, none, mo, ro] x.2.2.2.2 = .rt (.bool true) st' := by
  obtain ⟨a, b, cc, s, st⟩ := x
  dsimp only at h ht ⊢
  have hs : sizeLine = 16777216 := sizeLine_eq
  have w := ht.wd (by omega)
  have e1 := callS_at (twin_ok (k := k + 3) h.ca h.cb h.cc w)
  have e2 : callP (run T (k + 4)) 3 [eI s.1, eSS s.2.1, eII s.2.2] st = .ok (.v (.bool (worldB s.1 s.2.1 s.2.2))) st := callP_at (by simp) (is_world_ok (k := k + 1) w) rfl
  have f1 := frz_ref h.ca (norefs_I _)
  have f2 := frz_ref h.cb (norefs_SS _)
  have f3 := frz_ref h.cc (norefs_II _)
  have f4 : frzs st [.ref a, .ref b, .ref cc] = some [eI s.1, eSS s.2.1, eII s.2.2] := frzs_cons f1 (frzs_cons f2 (frzs_cons f3 frzs_nil))
  have e3 : callP (run T (k + 4)) 10 [.ref a, .ref b, .ref cc] st = .ok (.v (.bool (good2 s.1 s.2.1 s.2.2))) st := callP_fz f4 (law_good_ok (k := k + 2) w) rfl rfl
  have x1 : ixR (.tup [.ref a, .ref b, .ref cc]) (.int 0) st = .ok (.v (.ref a)) st := rfl
  have x2 : ixR (.tup [.ref a, .ref b, .ref cc]) (.int 1) st = .ok (.v (.ref b)) st := rfl
  have x3 : ixR (.tup [.ref a, .ref b, .ref cc]) (.int 2) st = .ok (.v (.ref cc)) st := rfl
  have y1 : ixR (.tup [eI s.1, eSS s.2.1, eII s.2.2]) (.int 0) st = .ok (.v (eI s.1)) st := rfl
  have y2 : ixR (.tup [eI s.1, eSS s.2.1, eII s.2.2]) (.int 1) st = .ok (.v (eSS s.2.1)) st := rfl
  have y3 : ixR (.tup [eI s.1, eSS s.2.1, eII s.2.2]) (.int 2) st = .ok (.v (eII s.2.2)) st := rfl
  have c1 : Cmp (eI s.1) 1 := cmp_eL fun x _ => cmp_int x
  have c2 : Cmp (eSS s.2.1) 2 := cmp_eL fun x hx => cmp_eL fun y hy => cmp_str ((w.mi x hx).2 y hy).2
  have c3 : Cmp (eII s.2.2) 2 := cmp_eL fun x _ => cmp_eL fun y _ => cmp_int y
  have q1 : eqD (eI s.1) (eI s.1) = true := by rw [eq_eL fun x _ y _ => eq_int x y]; simp
  have q2 : eqD (eSS s.2.1) (eSS s.2.1) = true := by rw [eq_eL fun x _ y _ => eq_eL fun x _ y _ => eq_str x y]; simp
  have q3 : eqD (eII s.2.2) (eII s.2.2) = true := by rw [eq_eL fun x _ y _ => eq_eL fun x _ y _ => eq_int x y]; simp
  have e4 : cmpR .eq (.tup [eI s.1, eSS s.2.1, eII s.2.2]) (.tup [.ref a, .ref b, .ref cc]) st = .ok (.v (.bool true)) st := by
    have g1 : frz st (.tup [eI s.1, eSS s.2.1, eII s.2.2]) = some (.tup [eI s.1, eSS s.2.1, eII s.2.2]) := frz_of (by simp)
    have g2 : frz st (.tup [.ref a, .ref b, .ref cc]) = some (.tup [eI s.1, eSS s.2.1, eII s.2.2]) := frz_tup f4
    have g3 : (D.tup [eI s.1, eSS s.2.1, eII s.2.2]).shp = true := by
      show (PyData.canLay0 (.tuple [_, _, _]) && decide (PyData.depth (.tuple [_, _, _]) ≤ 64)) = true
      simp only [PyData.canLay0, PyData.canLayAll0, PyData.depth, PyData.depthAll, c1.lay, c2.lay, c3.lay]
      have := c1.dep
      have := c2.dep
      have := c3.dep
      simp
      omega
    have g4 : eqD (.tup [eI s.1, eSS s.2.1, eII s.2.2]) (.tup [eI s.1, eSS s.2.1, eII s.2.2]) = true := by
      show PyData.eqv (.tuple [_, _, _]) (.tuple [_, _, _]) = true
      unfold eqD at q1 q2 q3
      simp only [PyData.eqv, PyData.eqvAll, q1, q2, q3, Bool.and_self]
    unfold cmpR cmpV
    dsimp only
    rw [g1, g2]
    dsimp only
    rw [g3, g4]
    rfl
  have i1 : ∀ z : Bool, biV (.isinst "bool") [.bool z] st = .ok (.v (.bool true)) st := fun z => rfl
  have z1 : ∀ z : Bool, cmpR .eq (.bool z) (.bool z) st = .ok (.v (.bool true)) st := fun z => by
    rw [cmp_eq (cmp_bool z) (cmp_bool z) (by decide) (by decide)]
    cases z <;> rfl
  refine ⟨st, ?_⟩
  have eb : d_law.body.drop 4 = [_, _, _] := rfl
  rw [eb]
  show exL _ _ [some (.scr ns), some (.tup [.ref a, .ref b, .ref cc]), some (.int c), none, none, none, mo, ro] st = _
  simp [hs, e1, e2, e3, e4, x1, x2, x3, y1, y2, y3, good_eq, i1, z1]
theorem law_loop {k : Nat} {ns : List Int} {c : Int} {mo ro : Option D} {x : World5} (h : Cells x.2.2.2.2 x.1 x.2.1 x.2.2.1 x.2.2.2.1) (ht : Typed 25 x.2.2.2.1) :
    ∃ st', exL (run T (k + 4)) (d_law.body.drop 3) [some (.scr ns), some (w5 x), some (.int c), none, none, none, mo, ro] x.2.2.2.2 = .rt (.bool true) st' := by
  have hs : sizeLine = 16777216 := sizeLine_eq
  have r4 := fmod_rng c (b := 4) (by decide)
  generalize h4 : c.fmod 4 = v at r4
  obtain ⟨m, hm, xi⟩ : ∃ m : Int, (0 ≤ m ∧ m ≤ 2) ∧ ∀ st, ixR (.list [.int 0, .int 1, .int 1, .int 2]) (.int v) st = .ok (.v (.int m)) st := by
    have : v = 0 ∨ v = 1 ∨ v = 2 ∨ v = 3 := by omega
    rcases this with rfl | rfl | rfl | rfl
    · exact ⟨0, by decide, fun _ => rfl⟩
    · exact ⟨1, by decide, fun _ => rfl⟩
    · exact ⟨1, by decide, fun _ => rfl⟩
    · exact ⟨2, by decide, fun _ => rfl⟩
  have hmm : m.toNat ≤ 2 := by omega
  obtain ⟨x', e, hI⟩ := loopF_ex (ok := stands D.none (List.map D.int (rangeI 0 m.toNat))) (trim := false) (n := x.2.2.2.2.length) (tmp := [3]) (enc := D.int) (xs := rangeI 0 m.toNat)
    (fun (i : Nat) (x : World5) => Cells x.2.2.2.2 x.1 x.2.1 x.2.2.1 x.2.2.2.1 ∧ Typed (25 + i) x.2.2.2.1)
    (fun x => [some (.scr ns), some (w5 x), some (.int c), none, none, none, mo, ro]) (fun x => x.2.2.2.2) (fun _ => rfl) (j := 0) (s := x) (body := turnF (run T (k + 4)) (.one 3) b_law_0) ⟨h, ht⟩ fun i t y hi hy => by
      obtain ⟨a, b, cc, s, st⟩ := y
      rw [Nat.zero_add] at hy ⊢
      obtain ⟨hc, hy⟩ := hy
      have ht := mem_range (List.mem_of_getElem? hi)
      have hi2 : i < 2 := by
        have := (List.getElem?_eq_some_iff.mp hi).1
        have e : (rangeI 0 m.toNat).length = m.toNat := by simp [rangeI]
        omega
      have e1 : callP (run T (k + 4)) 4 [.scr ns, .int (1 + t)] st = .ok (.v (.int (cellAt ns (1 + t)))) st := callP_at (by simp) (cell_at_ok (by omega)) rfl
      obtain ⟨a', b', c', s', st', e2, hc', ht'⟩ := spoilt_ok (k := k + 3) (cell := cellAt ns (1 + t)) hc hy (by omega)
      have e3 := callS_at e2
      refine ⟨(a', b', c', s', st'), [some (.scr ns), some (.tup [.ref a', .ref b', .ref c']), some (.int c), some (.int t), none, none, mo, ro], st', ⟨hc', ht'.up (by omega)⟩, ?_, by simp⟩
      show turnF _ _ _ _ [some (.scr ns), some (.tup [.ref a, .ref b, .ref cc]), some (.int c), none, none, none, mo, ro] st = _
      simp [turnF, b_law_0, e1, e3]
  have eb : d_law.body.drop 3 = d_law.body[3] :: d_law.body.drop 4 := rfl
  obtain ⟨st', e5⟩ := law_end (k := k) (ns := ns) (c := c) (mo := mo) (ro := ro) hI.1 hI.2 (by simp [rangeI]; omega)
  refine ⟨st', ?_⟩
  rw [eb, exL_cons]
  have e6 : exS (run T (k + 4)) d_law.body[3] [some (.scr ns), some (w5 x), some (.int c), none, none, none, mo, ro] x.2.2.2.2 = .nx [some (.scr ns), some (w5 x'), some (.int c), none, none, none, mo, ro] x'.2.2.2.2 := by
    have eq3 : d_law.body[3] = .for_ (.one 3) (.range1 (.ix (.list (.cons (.lit (.int 0)) (.cons (.lit (.int 1)) (.cons (.lit (.int 1)) (.cons (.lit (.int 2)) .nil))))) (.bin .mod (.var 2) (.lit (.int 4))))) b_law_0 [3] false := rfl
    rw [eq3]
    simp [hs, h4, xi]
    rw [if_pos (by omega)]
    simp [forR]
    exact e
  rw [e6, sqX_nx]
  exact e5
theorem law_true : ∀ ns : List Int, ns.length ≤ 63 → ∃ st, run T 20 11 [.scr ns] [] = .ok (.bool true) st := fun ns _ => by
  have hs : sizeLine = 16777216 := sizeLine_eq
  obtain ⟨n, s, n1, n2, hd, e⟩ := law_world_ok (k := 17) (ns := ns) (at0 := 3) (lim := 6) (by decide) (by decide)
  have wd := hd.wd (by omega) (by omega)
  have e1 := callC_at (st := []) (by simp) e
  have e0 : callP (run T 19) 4 [.scr ns, .int 0] (st3 s) = .ok (.v (.int (cellAt ns 0))) (st3 s) := callP_at (by simp) (cell_at_ok (by decide)) rfl
  have c0 : Cells (st3 s) 0 1 2 s := ⟨by decide, by decide, by decide, rfl, rfl, rfl⟩
  have t0 : Typed 25 s := ⟨by have := hd.l1; omega, by have := hd.l2; omega, by have := hd.l3; omega, wd.mi, wd.si⟩
  have sh : (st3 s).map (Cell.shift 0) = st3 s := by
    show [Cell.shift 0 (.lst _), Cell.shift 0 (.lst _), Cell.shift 0 (.lst _)] = _
    rw [cell_shift_nr (norefs_I _), cell_shift_nr (norefs_SS _), cell_shift_nr (norefs_II _)]
  have e1' : callC (run T 19) 6 [.scr ns, .int 3, .int 6] [] = .ok (.v (.tup [.ref 0, .ref 1, .ref 2])) (st3 s) := by
    rw [e1]
    show R.ok (Val.v (D.tup [.ref 0, .ref 1, .ref 2])) ([] ++ (st3 s).map (Cell.shift 0)) = _
    rw [sh, List.nil_append]
  rw [run_at (d := d_law) rfl rfl]
  have eb : d_law.body = d_law.body[0] :: d_law.body[1] :: d_law.body[2] :: d_law.body.drop 3 := rfl
  have env0 : (List.map some [D.scr ns] ++ List.replicate (d_law.locs.length - List.length [D.scr ns]) Option.none) = [some (.scr ns), none, none, none, none, none, none, none] := rfl
  rw [eb, env0]
  generalize hrest : d_law.body.drop 3 = rest
  by_cases q : ((cellAt ns 0).fdiv 4).fmod 8 = 1
  · have rm := fmod_rng ((cellAt ns 0).fdiv 32) (b := 2) (by decide)
    obtain ⟨many, hmany⟩ : ∃ many : Int, 24 + ((cellAt ns 0).fdiv 32).fmod 2 = many := ⟨_, rfl⟩
    have hm1 : 24 ≤ many ∧ many ≤ 25 := by omega
    have hmul : ∀ st, binV .mul (.list [.int 0]) (.int many) st = .ok (.new ((List.replicate many.toNat (0 : Int)).map D.int)) st := fun st => by
      show (if -(2 ^ 63) ≤ many ∧ many < 2 ^ 63 ∧ [D.int 0].length * many.toNat ≤ sizeLine then R.ok (Val.new (List.replicate many.toNat [D.int 0]).flatten) st else R.stuck) = _
      rw [if_pos ⟨by omega, by omega, by rw [hs]; simp; omega⟩]
      congr 2
      generalize many.toNat = j
      induction j with
      | zero => rfl
      | succ j ih => rw [List.replicate_succ, List.flatten_cons, ih, List.replicate_succ, List.map_cons]; rfl
    have m1 : ∀ (env : MP.Env) (st : Sto), 7 < env.length → compR (stands D.none (List.map D.int (rangeI 0 many.toNat))) (turnC (run T 19) (.list (.cons (.lit (.str "f")) .nil)) (.one 7) (.lit (.bool true)) env) (List.map D.int (rangeI 0 many.toNat)) st = .ok (.new (((rangeI 0 many.toNat).map fun _ => (["f"] : List PySem.Str)).map (eL D.str))) st := fun env st he =>
      compR_each _ rfl (by simp [rangeI, hs]; omega) fun x hx => by
        simp [turnC, he, hs]
        rfl
    have m2 : ∀ (env : MP.Env) (st : Sto), 7 < env.length → env[6]? = some (some (.int many)) → compR (stands D.none (List.map D.int (rangeI 0 many.toNat))) (turnC (run T 19) (.list (.cons (.lit (.int 0)) (.cons (.bin .sub (.var 6) (.lit (.int 1))) .nil))) (.one 7) (.lit (.bool true)) env) (List.map D.int (rangeI 0 many.toNat)) st = .ok (.new (((rangeI 0 many.toNat).map fun _ => ([0, many - 1] : List Int)).map (eL D.int))) st := fun env st he h6 =>
      compR_each _ rfl (by simp [rangeI, hs]; omega) fun x hx => by
        simp [turnC, he, h6, hs]
        rfl
    have hlen : (rangeI 0 many.toNat).length = many.toNat := by simp [rangeI]
    generalize hr1 : List.replicate many.toNat (0 : Int) = o1 at *
    generalize hr2 : ((rangeI 0 many.toNat).map fun _ => (["f"] : List PySem.Str)) = o2 at *
    generalize hr3 : ((rangeI 0 many.toNat).map fun _ => ([0, many - 1] : List Int)) = o3 at *
    have c1 : Cells (st3 s ++ [.lst (o1.map D.int)] ++ [.lst (o2.map (eL D.str))] ++ [.lst (o3.map (eL D.int))]) 3 4 5 (o1, o2, o3) := ⟨by decide, by decide, by decide, rfl, rfl, rfl⟩
    have t1 : Typed 25 (o1, o2, o3) := by
      refine ⟨by rw [← hr1]; simp; omega, by rw [← hr2]; simp [hlen]; omega, by rw [← hr3]; simp [hlen]; omega, fun r hr => ?_, fun r hr => ?_⟩
      · rw [← hr2] at hr
        obtain ⟨y, _, rfl⟩ := List.mem_map.mp hr
        refine ⟨by decide, fun x hx => ?_⟩
        rw [List.mem_singleton.mp hx]
        exact ⟨by decide +kernel, by unfold sOk; decide +kernel⟩
      · rw [← hr3] at hr
        obtain ⟨y, _, rfl⟩ := List.mem_map.mp hr
        simp
    obtain ⟨st', e5⟩ := law_loop (k := 15) (ns := ns) (c := cellAt ns 0) (mo := some (.int many)) (ro := none) (x := (3, 4, 5, (o1, o2, o3), _)) c1 t1
    rw [hrest] at e5
    refine ⟨st', ?_⟩
    have b1 : many ≤ 16777216 := by omega
    have b2 : -4611686018427387904 ≤ many := by omega
    simp [d_law, e1', e0, q, L2.CDivN, hmany, hs, hmul, b1, b2, m1, m2]
    have e6 := congrArg endR e5
    simpa using e6
  · obtain ⟨st', e5⟩ := law_loop (k := 15) (ns := ns) (c := cellAt ns 0) (mo := none) (ro := none) (x := (0, 1, 2, s, st3 s)) c0 t0
    rw [hrest] at e5
    refine ⟨st', ?_⟩
    simp [d_law, e1', e0, q, L2.CDivN]
    exact congrArg endR e5

def top (i : Nat) : Stmt := PySem.Challenge.pw_foreseehall_k01_what_is_a_world.main.body.getD i (.Pass ⟨0, 0, 0, 0⟩)
def mkD (x : PySem.Str) (i : Nat) : He.DefD := ⟨(x, none), x, x, defArgs (top i), defBody (top i), defScope (top i), [], []⟩
def exc : List PySem.Str := []
theorem p_rises : DefP T G exc d_rises (mkD "rises" 3) := ⟨rfl, rfl, rfl, C8.fnScope_by (by decide +kernel), chkB_cls (by decide +kernel), fun _ _ _ _ _ _ us hl => match us, hl with | [_], _ => rfl⟩
theorem p_are_marks : DefP T G exc d_are_marks (mkD "are_marks" 4) := ⟨rfl, rfl, rfl, C8.fnScope_by (by decide +kernel), chkB_cls (by decide +kernel), fun _ _ _ _ _ _ us hl => match us, hl with | [_], _ => rfl⟩
theorem p_are_rooms : DefP T G exc d_are_rooms (mkD "are_rooms" 5) := ⟨rfl, rfl, rfl, C8.fnScope_by (by decide +kernel), chkB_cls (by decide +kernel), fun _ _ _ _ _ _ us hl => match us, hl with | [_, _], _ => rfl⟩
theorem p_is_world : DefP T G exc d_is_world (mkD "is_world" 6) := ⟨rfl, rfl, rfl, C8.fnScope_by (by decide +kernel), chkB_cls (by decide +kernel), fun _ _ _ _ _ _ us hl => match us, hl with | [_, _, _], _ => rfl⟩
theorem p__law_cell_at : DefP T G exc d__law_cell_at (mkD "_law_cell_at" 8) := ⟨rfl, rfl, rfl, C8.fnScope_by (by decide +kernel), chkB_cls (by decide +kernel), fun _ _ _ _ _ _ us hl => match us, hl with | [_, _], _ => rfl⟩
theorem p__law_draw : DefP T G exc d__law_draw (mkD "_law_draw" 9) := ⟨rfl, rfl, rfl, C8.fnScope_by (by decide +kernel), chkB_cls (by decide +kernel), fun _ _ _ _ _ _ us hl => match us, hl with | [_, _, _], _ => rfl⟩
theorem p__law_world : DefP T G exc d__law_world (mkD "_law_world" 10) := ⟨rfl, rfl, rfl, C8.fnScope_by (by decide +kernel), chkB_cls (by decide +kernel), fun _ _ _ _ _ _ us hl => match us, hl with | [_, _, _], _ => rfl⟩
theorem p__law_twin : DefP T G exc d__law_twin (mkD "_law_twin" 11) := ⟨rfl, rfl, rfl, C8.fnScope_by (by decide +kernel), chkB_cls (by decide +kernel), fun _ _ _ _ _ _ us hl => match us, hl with | [_], _ => rfl⟩
theorem p__law_spoilt : DefP T G exc d__law_spoilt (mkD "_law_spoilt" 12) := ⟨rfl, rfl, rfl, C8.fnScope_by (by decide +kernel), chkB_cls (by decide +kernel), fun _ _ _ _ _ _ us hl => match us, hl with | [_, _], _ => rfl⟩
theorem p__law_rises : DefP T G exc d__law_rises (mkD "_law_rises" 13) := ⟨rfl, rfl, rfl, C8.fnScope_by (by decide +kernel), chkB_cls (by decide +kernel), fun _ _ _ _ _ _ us hl => match us, hl with | [_], _ => rfl⟩
theorem p__law_good : DefP T G exc d__law_good (mkD "_law_good" 14) := ⟨rfl, rfl, rfl, C8.fnScope_by (by decide +kernel), chkB_cls (by decide +kernel), fun _ _ _ _ _ _ us hl => match us, hl with | [_, _, _], _ => rfl⟩
theorem p_law : DefP T G exc d_law (mkD "law" 15) := ⟨rfl, rfl, rfl, C8.fnScope_by (by decide +kernel), chkB_cls (by decide +kernel), fun _ _ _ _ _ _ us hl => match us, hl with | [_], _ => rfl⟩
def fn : List He.DefD := [mkD "rises" 3, mkD "are_marks" 4, mkD "are_rooms" 5, mkD "is_world" 6, mkD "_law_cell_at" 8, mkD "_law_draw" 9, mkD "_law_world" 10, mkD "_law_twin" 11, mkD "_law_spoilt" 12, mkD "_law_rises" 13, mkD "_law_good" 14, mkD "law" 15]
def fa : List He.Fa := [.glo "rises", .glo "are_marks", .glo "are_rooms", .glo "is_world", .glo "_law_cell_at", .glo "_law_draw", .glo "_law_world", .glo "_law_twin", .glo "_law_spoilt", .glo "_law_rises", .glo "_law_good", .glo "law", .free "len", .free "range", .free "list", .free "tuple", .free "sorted", .free "sum", .free "any", .free "all", .free "max", .free "min", .free "int", .free "isinstance", .free "zip", .free "str", .free "bool", .free "repr", .free "dict", .free "set", .str "LETTERS" "abcdef", .int "MOST_ROOMS" 24]
abbrev R : PySem.W.OpenRow := PySem.W.OpenLaw.row PySem.Challenge.rw_foreseehall_k01_what_is_a_world
abbrev hk : PySem.W.Hook := He.hookD 4 fa fn
def ob (s : PySem.W.SharedT) : He.AlD := He.obsDG 4 fa fn (HandSHeadRun.getT s)
theorem ob_eq (s : PySem.W.SharedT) : ob s = hk.obs s.abs := He.obsDG_eq (HandSHeadRun.getT_eq s)
theorem head_run (w : World) : HandSHeadRun.RunEq R (PySem.W.view R.prog [15]) hk ob 2000 ((["MOST_ROOMS", "LETTERS", "rises", "are_marks", "are_rooms", "is_world", "_law_cell_at", "_law_draw", "_law_world", "_law_twin", "_law_spoilt", "_law_rises", "_law_good"] : List PySem.Str)) w := by
  intro os
  kernel_rfl
theorem tells {K : PySem.W.Frag} {h : Heap} {mg : PySem.Str → Option Value} (X : K.In h) (Gm : h.Ns mainGlobals mg) (c : He.SaysD fa fn K) : Told K mg T G exc (fun _ => Option.none) where
  defs := fun f d h => by
    match f, h with
    | 0, h =>
      obtain ⟨fd, F⟩ := c.def_ 0 (d := mkD "rises" 3) rfl
      cases h
      exact ⟨_, _, fd, p_rises, F, He.glo_ok X Gm (c.fact 0 (f := .glo "rises") rfl)⟩
    | 1, h =>
      obtain ⟨fd, F⟩ := c.def_ 1 (d := mkD "are_marks" 4) rfl
      cases h
      exact ⟨_, _, fd, p_are_marks, F, He.glo_ok X Gm (c.fact 1 (f := .glo "are_marks") rfl)⟩
    | 2, h =>
      obtain ⟨fd, F⟩ := c.def_ 2 (d := mkD "are_rooms" 5) rfl
      cases h
      exact ⟨_, _, fd, p_are_rooms, F, He.glo_ok X Gm (c.fact 2 (f := .glo "are_rooms") rfl)⟩
    | 3, h =>
      obtain ⟨fd, F⟩ := c.def_ 3 (d := mkD "is_world" 6) rfl
      cases h
      exact ⟨_, _, fd, p_is_world, F, He.glo_ok X Gm (c.fact 3 (f := .glo "is_world") rfl)⟩
    | 4, h =>
      obtain ⟨fd, F⟩ := c.def_ 4 (d := mkD "_law_cell_at" 8) rfl
      cases h
      exact ⟨_, _, fd, p__law_cell_at, F, He.glo_ok X Gm (c.fact 4 (f := .glo "_law_cell_at") rfl)⟩
    | 5, h =>
      obtain ⟨fd, F⟩ := c.def_ 5 (d := mkD "_law_draw" 9) rfl
      cases h
      exact ⟨_, _, fd, p__law_draw, F, He.glo_ok X Gm (c.fact 5 (f := .glo "_law_draw") rfl)⟩
    | 6, h =>
      obtain ⟨fd, F⟩ := c.def_ 6 (d := mkD "_law_world" 10) rfl
      cases h
      exact ⟨_, _, fd, p__law_world, F, He.glo_ok X Gm (c.fact 6 (f := .glo "_law_world") rfl)⟩
    | 7, h =>
      obtain ⟨fd, F⟩ := c.def_ 7 (d := mkD "_law_twin" 11) rfl
      cases h
      exact ⟨_, _, fd, p__law_twin, F, He.glo_ok X Gm (c.fact 7 (f := .glo "_law_twin") rfl)⟩
    | 8, h =>
      obtain ⟨fd, F⟩ := c.def_ 8 (d := mkD "_law_spoilt" 12) rfl
      cases h
      exact ⟨_, _, fd, p__law_spoilt, F, He.glo_ok X Gm (c.fact 8 (f := .glo "_law_spoilt") rfl)⟩
    | 9, h =>
      obtain ⟨fd, F⟩ := c.def_ 9 (d := mkD "_law_rises" 13) rfl
      cases h
      exact ⟨_, _, fd, p__law_rises, F, He.glo_ok X Gm (c.fact 9 (f := .glo "_law_rises") rfl)⟩
    | 10, h =>
      obtain ⟨fd, F⟩ := c.def_ 10 (d := mkD "_law_good" 14) rfl
      cases h
      exact ⟨_, _, fd, p__law_good, F, He.glo_ok X Gm (c.fact 10 (f := .glo "_law_good") rfl)⟩
    | 11, h =>
      obtain ⟨fd, F⟩ := c.def_ 11 (d := mkD "law" 15) rfl
      cases h
      exact ⟨_, _, fd, p_law, F, He.glo_ok X Gm (c.fact 11 (f := .glo "law") rfl)⟩
    | f + 12, h => exact absurd h (by simp [T, ds])
  glo := fun x d h => by
    unfold G at h
    split at h
    · rename_i e
      subst e
      cases h
      obtain ⟨t, e⟩ := He.str_ok X Gm (c.fact 30 (f := .str "LETTERS" "abcdef") rfl)
      exact ⟨_, .str _, e, ⟨t, rfl⟩, fun _ _ => .str _⟩
    split at h
    · rename_i e
      subst e
      cases h
      obtain ⟨t, e⟩ := He.int_ok X Gm (c.fact 31 (f := .int "MOST_ROOMS" 24) rfl)
      exact ⟨_, .int _, e, ⟨t, rfl⟩, fun _ _ => .int _⟩
    cases h
  blt := fun x hx => by
    simp only [bnames, List.mem_cons, List.not_mem_nil, or_false] at hx
    rcases hx with rfl | rfl | rfl | rfl | rfl | rfl | rfl | rfl | rfl | rfl | rfl | rfl | rfl | rfl | rfl | rfl | rfl | rfl
    · exact He.free_ok X Gm (c.fact 12 (f := .free "len") rfl)
    · exact He.free_ok X Gm (c.fact 13 (f := .free "range") rfl)
    · exact He.free_ok X Gm (c.fact 14 (f := .free "list") rfl)
    · exact He.free_ok X Gm (c.fact 15 (f := .free "tuple") rfl)
    · exact He.free_ok X Gm (c.fact 16 (f := .free "sorted") rfl)
    · exact He.free_ok X Gm (c.fact 17 (f := .free "sum") rfl)
    · exact He.free_ok X Gm (c.fact 18 (f := .free "any") rfl)
    · exact He.free_ok X Gm (c.fact 19 (f := .free "all") rfl)
    · exact He.free_ok X Gm (c.fact 20 (f := .free "max") rfl)
    · exact He.free_ok X Gm (c.fact 21 (f := .free "min") rfl)
    · exact He.free_ok X Gm (c.fact 22 (f := .free "int") rfl)
    · exact He.free_ok X Gm (c.fact 23 (f := .free "isinstance") rfl)
    · exact He.free_ok X Gm (c.fact 24 (f := .free "zip") rfl)
    · exact He.free_ok X Gm (c.fact 25 (f := .free "str") rfl)
    · exact He.free_ok X Gm (c.fact 26 (f := .free "bool") rfl)
    · exact He.free_ok X Gm (c.fact 27 (f := .free "repr") rfl)
    · exact He.free_ok X Gm (c.fact 28 (f := .free "dict") rfl)
    · exact He.free_ok X Gm (c.fact 29 (f := .free "set") rfl)
  exo := fun _ _ h => by cases h
  all := fun _ h => by cases h
theorem facts {P : Program} {w : World} {K : PySem.W.Frag} {h : Heap} {mg : PySem.Str → Option Value} {f : Addr} (X : K.In h) (Gm : h.Ns mainGlobals mg) (hfa : mg ("law" : PySem.Str) = some (.ref f)) (c : He.SaysD fa fn K) :
    ∃ fd : FuncData, (∀ (s : Shared) (v : Value), BindsTo s fd ⟨[v], []⟩ [("script", v)]) ∧ ∀ base : Heap, K.In base → base.Ns mainGlobals mg → FnOk P w K mg base (CXa P) 20 f fd ["script"] (spF ⟨T, fun _ => Option.none, G, 20⟩ K 20 11) := by
  obtain ⟨a, fd, h1, h2, h3, h4, h5⟩ := fns_all (tells X Gm c) 20 11 d_law rfl
  have e := hfa.symm.trans h2
  cases e
  exact ⟨fd, fun s v => h5 s [v] rfl, fun base _ _ => FnOk_any (h1 P w base)⟩
end Law
open PySem PySem.W PySem.Calls PyProof.Rows
theorem PySem.Challenge.cw_foreseehall_k01_what_is_a_world_holds : PySem.Challenge.rw_foreseehall_k01_what_is_a_world.Holds := by
  w_on; o_law
  refine HandSHeadRun.head_any (r := OpenLaw.row PySem.Challenge.rw_foreseehall_k01_what_is_a_world) (q := view (OpenLaw.row PySem.Challenge.rw_foreseehall_k01_what_is_a_world).prog [15]) (H := Law.hk) (ob := Law.ob) (M := 2000) (loose := (["MOST_ROOMS", "LETTERS", "rises", "are_marks", "are_rooms", "is_world", "_law_cell_at", "_law_draw", "_law_world", "_law_twin", "_law_spoilt", "_law_rises", "_law_good"] : List PySem.Str)) (d := HandSHeadRun.topDef (OpenLaw.row PySem.Challenge.rw_foreseehall_k01_what_is_a_world).prog 15) (kwd := []) Law.ob_eq
    (by kernel_rfl) (fun s => by kernel_rfl) Law.head_run (by kernel_rfl) (by kernel_rfl) (by kernel_rfl) (by rfl) (by first | assumption | decide +kernel) (by decide +kernel) ⟨rfl, rfl, rfl, rfl, rfl, by decide +kernel⟩ ?hw ?hc
  case hw => w_witness2
  case hc =>
    refine L2.walk_ofE (l := PySem.Challenge.rw_foreseehall_k01_what_is_a_world) (n := 63) (k := 20) (x := "script") (CX := MP.CXa (PySem.Challenge.rw_foreseehall_k01_what_is_a_world).prog) rfl (by decide) (by kernel_rfl) ⟨rfl, by decide, by decide⟩ ?F (fun _ _ _ _ z => MP.cxa_no z)
    intro w mg fa h Y G hmg0
    obtain ⟨K, KX, c⟩ := Y
    have hmg : mg ("law" : PySem.Str) = some (.ref fa) := by
      have e : (HandSHeadRun.topDef (OpenLaw.row PySem.Challenge.rw_foreseehall_k01_what_is_a_world).prog 15).name = ("law" : PySem.Str) := by kernel_rfl
      rw [← e]
      exact hmg0
    obtain ⟨fd, hb, hF⟩ := Law.facts (P := (PySem.Challenge.rw_foreseehall_k01_what_is_a_world).prog) (w := w) KX G hmg c
    exact ⟨K, fd, _, KX, hb, fun H a ns hl _ hS => MP.law_sp (n := 63) Law.law_true H a ns hl hS, hF⟩
