import PyProof.Rows.All
import Wide.All
import OpenK.AllK
import Wide.FinOn
import KE.KStateDown
import HandS.More
import HandS.Words
import HandS.WordsExc
import HandS.Defaults
import HandS.List
import HandS.SortKw
import HandS.ForMost
import HandS.Conv
import HandS.Exc
import HandS.ExcOwn
import HandS.Deep
import HandS.HeadHook3
import HandS.HeadHook4
import HandS.IsInst
import HandS.Sort
import HandS.Zip
import HandS.Replace
import HandS.Style
import HandS.Codes
import HandS.Head0
import HandS.Head1
import HandS.Head2
import HandS.HeadEnd
import HandS.HeadHook1
import HandS.HeadHook2
import PySem.Challenge.RW_foreseehall_k86_whole_worlds_of_plans_ju
set_option linter.all false
set_option Elab.async false
set_option maxRecDepth 100000
set_option maxHeartbeats 0
/-! max(xs, default = d). -/
namespace MP
open PySem PySem.Spec PyProof.Rows L2
theorem maxd_loop {prog : Program} {w : World} {A : Around} {R : Result → Shared → Prop} {I : Addr} {fp wr : List Addr} {n : Nat} {P : Nat → Value → Prop} {St : Nat → Heap → Prop}
    (W : Walks prog w A.in1 I fp wr n P St) (bt : Nat → Nat → Bool) (hcmp : CmpOf prog w A.in1 CmpOp.Gt P bt) (S : Addr) (hSf : ¬S ∈ fp) (d : Value) :
    ∀ (k j : Nat) (s : Shared) (vb : Value) (c : Nat), n - (j + 1) = k → j + 1 ≤ n → St (j + 1) s.heap → P (argBest bt j) vb →
      s.heap.get? S = some { cls := Value.type "list", data := Data.seq #[vb, vb] c } →
      (∀ (v : Value) (h' : Heap) (tk : Nat), P (argBest bt (n - 1)) v → (∀ (b : Addr) (o : Obj), ¬b ∈ wr → b ≠ S → s.heap.get? b = some o → h'.get? b = some o) →
        R (Except.ok (Flow.ret v)) { heap := h', gens := s.gens, drawn := s.drawn, toks := tk, os := s.os }) →
      codeAny (model prog w) A (Code.builtin "max.loop" { pos := [Value.ref I, Value.none, Value.ref S], kw := [("default", d)] }) R s := by
  have hSw : ¬ S ∈ wr := fun h => hSf (W.sub S h)
  intro k
  induction k with
  | zero =>
    intro j s vb c hk hj hst hPb hS hR
    refine codeAny_builtin F.entry_max_loop ?_
    rw [Around.under_plainId F.plain_max_loop]
    refine wpAny_bind (wpAny_seqItems hS rfl ?_)
    have hn : n = j + 1 := by omega
    refine wpAny_bind (wpAny_tryCatch (W.done s _ _ (by rw [hn]; exact hst) fun h' tk hk' => ?_))
    have hS' := hk' S _ hSw hS
    refine wpAny_bind (wpAny_updateSeq hS' rfl ?_ (by simp [sizeLine_eq]) (by simp [sizeLine_eq]))
    refine wpAny_bind (wpAny_letGo ?_)
    refine wpAny_pure ?_
    refine hR vb _ _ (by rw [hn]; exact hPb) fun b o hb hbS e => ?_
    rw [Heap.get?_update_other _ _ (Ne.symm hbS)]
    exact hk' b o hb e
  | succ k ih =>
    intro j s vb c hk hj hst hPb hS hR
    refine codeAny_builtin F.entry_max_loop ?_
    rw [Around.under_plainId F.plain_max_loop]
    refine wpAny_bind (wpAny_seqItems hS rfl ?_)
    refine wpAny_bind (wpAny_tryCatch (W.item (j + 1) s _ _ (by omega) hst fun v h' tk hPv hst' hk' => ?_))
    have hS' := hk' S _ hSw hS
    refine wpAny_bind (wpAny_pure ?_)
    refine wpAny_bind (wpAny_tryCatch (wpAny_holding ?_))
    refine wpAny_bind (hcmp (j + 1) (argBest bt j) _ _ _ _ _ hPv hPb ?_)
    refine wpAny_bind (wpAny_holding (wpAny_truthy_bool ?_))
    refine wpAny_bind (wpAny_letGo ?_)
    refine wpAny_pure ?_
    have fr : ∀ (b : Addr), b ∈ fp → b ≠ S := fun b hb e => hSf (e ▸ hb)
    by_cases hbw : bt (j + 1) (argBest bt j) = true
    · have e1 : argBest bt (j + 1) = j + 1 := by show (if _ then _ else _) = _; rw [if_pos hbw]
      rw [if_pos hbw]
      refine wpAny_bind (wpAny_updateSeq hS' rfl ?_ (by simp [sizeLine_eq]) (by simp [sizeLine_eq]))
      refine wpAny_bind (wpAny_letGo ?_)
      refine wpAny_pure ⟨plainId_quiet F.plain_max_loop _, ?_⟩
      refine ih (j + 1) _ v _ (by omega) (by omega) (W.frame _ _ _ hst' fun b hb o e => ?_) (by rw [e1]; exact hPv) (Heap.get?_update_self _ hS' rfl) fun v' h'' tk' hP' hk'' => ?_
      · exact (Heap.get?_update_other _ _ (Ne.symm (fr b hb))).trans e
      · refine hR v' h'' tk' hP' fun b o hb hbS e => hk'' b o hb hbS ?_
        exact (Heap.get?_update_other _ _ (Ne.symm hbS)).trans (hk' b o hb e)
    · have e1 : argBest bt (j + 1) = argBest bt j := by show (if _ then _ else _) = _; rw [if_neg hbw]
      rw [if_neg hbw]
      refine wpAny_bind (wpAny_letGo ?_)
      refine wpAny_pure ⟨plainId_quiet F.plain_max_loop _, ?_⟩
      refine ih (j + 1) _ vb c (by omega) (by omega) hst' (by rw [e1]; exact hPb) hS' fun v' h'' tk' hP' hk'' => ?_
      exact hR v' h'' tk' hP' fun b o hb hbS e => hk'' b o hb hbS (hk' b o hb e)
theorem maxd_first {prog : Program} {w : World} {A : Around} {R : Result → Shared → Prop} {I : Addr} {fp wr : List Addr} {n : Nat} {P : Nat → Value → Prop} {St : Nat → Heap → Prop}
    (W : Walks prog w A.in1 I fp wr n P St) (bt : Nat → Nat → Bool) (hcmp : CmpOf prog w A.in1 CmpOp.Gt P bt) (S : Addr) (hSf : ¬S ∈ fp) (d : Value) {s : Shared} {c : Nat} (hst : St 0 s.heap)
    (hS : s.heap.get? S = some { cls := Value.type "list", data := Data.seq #[] c })
    (hR : ∀ (v : Value) (h' : Heap) (tk : Nat), (if n = 0 then v = d else P (argBest bt (n - 1)) v) → (∀ (b : Addr) (o : Obj), ¬b ∈ wr → b ≠ S → s.heap.get? b = some o → h'.get? b = some o) →
        R (Except.ok (Flow.ret v)) { heap := h', gens := s.gens, drawn := s.drawn, toks := tk, os := s.os }) :
      codeAny (model prog w) A (Code.builtin "max.loop" { pos := [Value.ref I, Value.none, Value.ref S], kw := [("default", d)] }) R s := by
  have hSw : ¬ S ∈ wr := fun h => hSf (W.sub S h)
  refine codeAny_builtin F.entry_max_loop ?_
  rw [Around.under_plainId F.plain_max_loop]
  refine wpAny_bind (wpAny_seqItems hS rfl ?_)
  by_cases hn : n = 0
  · refine wpAny_bind (wpAny_tryCatch (W.done s _ _ (by rw [hn]; exact hst) fun h' tk hk' => ?_))
    refine wpAny_bind (wpAny_rule ?_)
    refine wpAny_pure ?_
    exact hR d _ _ (by rw [if_pos hn]) fun b o hb _ e => hk' b o hb e
  · refine wpAny_bind (wpAny_tryCatch (W.item 0 s _ _ (by omega) hst fun v h' tk hPv hst' hk' => ?_))
    have hS' := hk' S _ hSw hS
    refine wpAny_bind (wpAny_pure ?_)
    refine wpAny_bind (wpAny_updateSeq hS' rfl ?_ (by simp [sizeLine_eq]) (by simp [sizeLine_eq]))
    refine wpAny_pure ⟨plainId_quiet F.plain_max_loop _, ?_⟩
    refine maxd_loop W bt hcmp S hSf d (n - 1) 0 _ v _ rfl (by omega) (W.frame _ _ _ hst' fun b hb o e => ?_) hPv (Heap.get?_update_self _ hS' rfl) fun v' h'' tk' hP' hk'' => ?_
    · exact (Heap.get?_update_other _ _ (fun (e : S = b) => hSf (by rw [e]; exact hb))).trans e
    · refine hR v' h'' tk' (by rw [if_neg hn]; exact hP') fun b o hb hbS e => hk'' b o hb hbS ?_
      exact (Heap.get?_update_other _ _ (Ne.symm hbS)).trans (hk' b o hb e)
theorem maxd_raw {prog : Program} {w : World} {A : Around} {E : Value → Shared → Prop} {s : Shared} {l : Addr} {xs : Array (Int × Tok)} {d : Value} {Q : Value → Shared → Prop} (hh : A.handled = none) (hl : s.heap.IsList l (intItems xs))
    (h : ∀ (v : Value) (h' : Heap) (tk : Nat), (if xs.size = 0 then v = d else (intItems xs)[argBest (fun i j => decide (numAt xs i > numAt xs j)) (xs.size - 1)]? = some v) →
      (∀ (b : Addr) (o : Obj), s.heap.get? b = some o → h'.get? b = some o) → Q v { heap := h', gens := s.gens, drawn := s.drawn, toks := tk, os := s.os }) :
    wpAny (model prog w) A (call (Value.builtin "max") [Value.ref l] [("default", d)]) Q E s := by
  have hname : ("max" : String) ++ ".loop" = "max.loop" := by decide
  refine wpAny_call (codeAny_call_builtin F.plain_max F.entry_max (wpAny_of_eq (show checkBuiltinCall "max" { pos := [Value.ref l], kw := [("default", d)] } = pure () from rfl) ?_))
  refine wpAny_bind (wpAny_of_eq (show _ = pure _ from rfl) ?_)
  refine wpAny_bind (wpAny_pure ?_)
  refine wpAny_bind (iter_intList hl fun s₂ e st hfp hlI => ?_)
  refine wpAny_bind (wpAny_newObj_type ?_)
  refine wpAny_pure ⟨plainId_quiet F.plain_max_loop _, ?_⟩
  subst e
  refine maxd_first (Walks.list (by exact hh) s.heap.objs.size l hlI (intItems xs)) (fun i j => decide (numAt xs i > numAt xs j)) (CmpOf.ints_gt (numAt xs) fun i v h => intItems_at h) _ (fun hm => Nat.lt_irrefl _ (hfp _ hm)) d (c := 0) ?_ (Heap.get?_push_size _ rfl) fun v h' tk hv hk => ?_
  · exact (Walks.list (prog := prog) (w := w) (A := A) hh s.heap.objs.size l hlI (intItems xs)).frame 0 _ _ st fun b _ o e => Heap.get?_push_of_some _ e
  · have hz : (intItems xs).size = xs.size := by simp [intItems]
    rw [hz] at hv
    refine h v h' tk hv fun b o e => ?_
    have hb : b < s.heap.objs.size := by
      by_cases q : b < s.heap.objs.size
      · exact q
      · rw [Heap.get?_none_of_le (Nat.le_of_not_lt q)] at e; cases e
    refine hk b o (fun z => Nat.lt_irrefl b (by have := List.mem_singleton.mp z; rw [this] at hb ⊢; exact hb)) (fun z => Nat.lt_irrefl b (Nat.lt_of_lt_of_le hb (by rw [z]; simp [Heap.push]))) (Heap.get?_push_of_some _ (Heap.get?_push_of_some _ e))
end MP

/-! The small language: values, trees, terms, and what they compute. -/
namespace MP
open PySem

/-- a value: a tree; ref n is the n-th mutable cell of the running frame -/
inductive D where
  | none | bool (b : Bool) | int (i : Int) | str (s : Str)
  | list (xs : List D) | tup (xs : List D)
  | dk (ks : List L2.Key) (vs : List D)
  | dt (ks : List (List L2.Key)) (vs : List D)
  | ref (n : Nat)
  | scr (ns : List Int)
  deriving Inhabited

/-- a mutable cell -/
inductive Cell where
  | lst (xs : List D)
  | dk (ks : List L2.Key) (vs : List D)
  | dt (ks : List (List L2.Key)) (vs : List D)
  | dead
  deriving Inhabited

abbrev Env := List (Option D)
abbrev Sto := List Cell

inductive R (α : Type) where
  | ok (a : α) (st : Sto)
  | err (c : Str) (st : Sto)
  | stuck

def R.bind {α β : Type} (r : R α) (f : α → Sto → R β) : R β := match r with
  | .ok a st => f a st
  | .err c st => .err c st
  | .stuck => .stuck
@[simp] theorem R.bind_ok {α β : Type} (a : α) (st : Sto) (f : α → Sto → R β) : (R.ok a st).bind f = f a st := rfl
@[simp] theorem R.bind_err {α β : Type} (c : Str) (st : Sto) (f : α → Sto → R β) : (R.err c st : R α).bind f = .err c st := rfl
@[simp] theorem R.bind_stuck {α β : Type} (f : α → Sto → R β) : (R.stuck : R α).bind f = .stuck := rfl

/-- what an expression hands on: a value, or a list that was made just now -/
inductive Val where
  | v (d : D)
  | new (ds : List D)
@[simp] def Val.d : Val → D
  | .v d => d
  | .new ds => .list ds

/-- what a statement comes to -/
inductive X where
  | nx (env : Env) (st : Sto)
  | rt (d : D) (st : Sto)
  | err (c : Str) (env : Env) (st : Sto)
  | stuck

/-! ### trees without cells -/
mutual
def D.noref : D → Bool
  | .ref _ => false
  | .list xs => norefs xs
  | .tup xs => norefs xs
  | .dk _ vs => norefs vs
  | .dt _ vs => norefs vs
  | _ => true
def norefs : List D → Bool
  | [] => true
  | x :: xs => x.noref && norefs xs
end
/-! no list, no dict that is a tree -/
mutual
def D.nolist : D → Bool
  | .list _ => false
  | .scr _ => false
  | .dk _ _ => false
  | .dt _ _ => false
  | .tup xs => nolists xs
  | _ => true
def nolists : List D → Bool
  | [] => true
  | x :: xs => x.nolist && nolists xs
end
def Cell.nolist : Cell → Bool
  | .lst xs => nolists xs
  | .dk _ vs => nolists vs
  | .dt _ vs => nolists vs
  | .dead => true
/-! all cells that are named stand below n -/
mutual
def D.low (n : Nat) : D → Bool
  | .ref m => decide (m < n)
  | .list xs => lows n xs
  | .tup xs => lows n xs
  | .dk _ vs => lows n vs
  | .dt _ vs => lows n vs
  | _ => true
def lows (n : Nat) : List D → Bool
  | [] => true
  | x :: xs => x.low n && lows n xs
end
def Cell.low (n : Nat) : Cell → Bool
  | .lst xs => lows n xs
  | .dk _ vs => lows n vs
  | .dt _ vs => lows n vs
  | .dead => true
/-! cells renumbered -/
mutual
def D.shift (k : Nat) : D → D
  | .ref m => .ref (m + k)
  | .list xs => .list (shifts k xs)
  | .tup xs => .tup (shifts k xs)
  | .dk ks vs => .dk ks (shifts k vs)
  | .dt ks vs => .dt ks (shifts k vs)
  | .none => .none
  | .bool b => .bool b
  | .int i => .int i
  | .str s => .str s
  | .scr ns => .scr ns
def shifts (k : Nat) : List D → List D
  | [] => []
  | x :: xs => x.shift k :: shifts k xs
end
def Cell.shift (k : Nat) : Cell → Cell
  | .lst xs => .lst (shifts k xs)
  | .dk ks vs => .dk ks (shifts k vs)
  | .dt ks vs => .dt ks (shifts k vs)
  | .dead => .dead
/-! cells read as trees -/
mutual
def D.mapRef (g : Nat → Option D) : D → Option D
  | .ref n => g n
  | .list xs => match mapRefs g xs with
    | some ys => some (.list ys)
    | Option.none => Option.none
  | .tup xs => match mapRefs g xs with
    | some ys => some (.tup ys)
    | Option.none => Option.none
  | .dk ks vs => match mapRefs g vs with
    | some ys => some (.dk ks ys)
    | Option.none => Option.none
  | .dt ks vs => match mapRefs g vs with
    | some ys => some (.dt ks ys)
    | Option.none => Option.none
  | .none => some .none
  | .bool b => some (.bool b)
  | .int i => some (.int i)
  | .str s => some (.str s)
  | .scr ns => some (.scr ns)
def mapRefs (g : Nat → Option D) : List D → Option (List D)
  | [] => some []
  | x :: xs => match x.mapRef g, mapRefs g xs with
    | some y, some ys => some (y :: ys)
    | _, _ => Option.none
end
def readN : Nat → Sto → Nat → Option D
  | 0, _, _ => Option.none
  | k + 1, st, n => match st[n]? with
    | some (.lst xs) => (match mapRefs (readN k st) xs with
      | some ys => some (.list ys)
      | Option.none => Option.none)
    | _ => Option.none
/-- a value as a tree -/
def frz (st : Sto) (d : D) : Option D := d.mapRef (readN st.length st)
def frzs (st : Sto) (ds : List D) : Option (List D) := mapRefs (readN st.length st) ds

/-! ### trees compared -/
mutual
def D.py : D → PyData
  | .none => .none
  | .bool b => .bool b
  | .int i => .int i
  | .str s => .str s
  | .list xs => .list (pys xs)
  | .tup xs => .tuple (pys xs)
  | .dk _ _ => .dict []
  | .dt _ _ => .dict []
  | .ref _ => .dict []
  | .scr _ => .dict []
def pys : List D → List PyData
  | [] => []
  | x :: xs => x.py :: pys xs
end
/-- == may be asked -/
def D.shp (d : D) : Bool := SeqAt.shaped d.py
def eqD (a b : D) : Bool := PyData.eqv a.py b.py
/-! the same tree (for a list that is walked: it must stand) -/
mutual
def D.same : D → D → Bool
  | .none, .none => true
  | .bool a, .bool b => a == b
  | .int a, .int b => a == b
  | .str a, .str b => decide (a = b)
  | .list xs, .list ys => sames xs ys
  | .tup xs, .tup ys => sames xs ys
  | .ref a, .ref b => a == b
  | _, _ => false
def sames : List D → List D → Bool
  | [], [] => true
  | x :: xs, y :: ys => x.same y && sames xs ys
  | _, _ => false
end

/-! ### terms -/
inductive BOp where
  | add | sub | mul | fdiv | mod | pow
  deriving DecidableEq
inductive COp where
  | eq | ne | lt | le | gt | ge | isin | notin | is | isnot
  deriving DecidableEq
/-- built-in functions -/
inductive BI where
  | len | range1 | range2 | listOf | tupleOf | sorted | sortedSet | sum | any | all | max2 | maxL | minL | maxD0 | minT
  | toInt | toStr | isinst (T : String) | dictOf | reprOf
  | tabIn (neg : Bool) (g : Str) (ks : List Str) (vs : List Int) | tabGet (g : Str) (ks : List Str) (vs : List Int)
  deriving DecidableEq
/-- methods -/
inductive MT where
  | append | extend | pop0 | popAt | insert | remove | reverse | clear | index | count
  | split | join | find | rfind3 | countS | endswith | islower | get | sindex
  deriving DecidableEq

mutual
inductive E where
  | var (i : Nat)
  | lit (d : D)
  | glob (x : Str) (d : D)
  | bin (o : BOp) (a b : E)
  | cmp (o : COp) (a b : E)
  | chain (o p : COp) (a b c : E)
  | land (a b : E)
  | lor (a b : E)
  | lnot (a : E)
  | ite (c a b : E)
  | tup (es : Es)
  | list (es : Es)
  | ix (a b : E)
  | sl (a lo hi : E)
  | call (f : Nat) (es : Es)
  | callC (f : Nat) (es : Es)
  | callS (f : Nat) (es : Es)
  | bi (f : BI) (es : Es)
  | mt (m : MT) (o : E) (es : Es)
  | comp (elt : E) (tg : Tg) (it : It) (cond : E) (own : List Nat)
  | cell (e : E)
  | dnew (tuples : Bool)
inductive Es where
  | nil
  | cons (e : E) (es : Es)
inductive It where
  | seq (e : E)
  | range1 (a : E)
  | range2 (a b : E)
  | zip (a b : E)
inductive Tg where
  | one (i : Nat)
  | many (is : List Nat)
end

/-- a slice's part -/
def isNoneLit : E → Bool
  | .lit .none => true
  | _ => false
def partOf (e : E) (d : D) : Option (Option Int) := if isNoneLit e then some Option.none else match d with
  | .int i => some (some i)
  | _ => Option.none

inductive S where
  | set (i : Nat) (e : E)
  | unpack (is : List Nat) (e : E)
  | par2 (i j : Nat) (a b : E)
  | par3 (i j k : Nat) (a b c : E)
  | put (o i v : E)
  | expr (e : E)
  | ret (e : E)
  | retN
  | ife (c : E) (a b : List S)
  | for_ (tg : Tg) (it : It) (body : List S) (tmp : List Nat) (trim : Bool)
  | while_ (c : E) (body : List S) (tmp : List Nat) (trim : Bool)
  | raise (c : Str)
  | fz (i : Nat)

structure Def where
  name : Str
  pars : List Str
  locs : List Str
  body : List S

/-! ### what the operations come to -/
/-- the items of a list, a tuple, a list's cell -/
def seqOf (st : Sto) : D → Option (List D)
  | .list xs => some xs
  | .scr ns => some (ns.map D.int)
  | .tup xs => some xs
  | .ref n => match st[n]? with
    | some (.lst xs) => some xs
    | _ => Option.none
  | _ => Option.none
def listOf (st : Sto) : D → Option (List D)
  | .list xs => some xs
  | .ref n => match st[n]? with
    | some (.lst xs) => some xs
    | _ => Option.none
  | _ => Option.none
def sgn (c : Nat) : D := .str ⟨#[c]⟩
def signs (s : Str) : List D := s.cps.toList.map sgn

instance (i j : Int) : Decidable (L2.CMul i j) := by unfold L2.CMul; infer_instance
instance (i j : Int) : Decidable (L2.CDivN i j) := by unfold L2.CDivN; infer_instance
instance (i j : Int) : Decidable (L2.CPow i j) := by unfold L2.CPow; infer_instance

def addV (x y : D) (st : Sto) : R Val := match x, y with
  | .int i, .int j => .ok (.v (.int (i + j))) st
  | .str a, .str b => if a.length + b.length ≤ sizeLine then .ok (.v (.str (a ++ b))) st else .stuck
  | .tup xs, .tup ys => if xs.length ≠ 0 ∧ xs.length + ys.length ≤ sizeLine then .ok (.v (.tup (xs ++ ys))) st else .stuck
  | x, y => match listOf st x, listOf st y with
    | some xs, some ys => if xs.length + ys.length ≤ sizeLine then .ok (.new (xs ++ ys)) st else .stuck
    | _, _ => .stuck
def mulV (x y : D) (st : Sto) : R Val := match x, y with
  | .int i, .int j => if L2.CMul i j then .ok (.v (.int (i * j))) st else .stuck
  | x, .int k => match listOf st x with
    | some xs => if -(2 ^ 63) ≤ k ∧ k < 2 ^ 63 ∧ xs.length * k.toNat ≤ sizeLine then .ok (.new (List.replicate k.toNat xs).flatten) st else .stuck
    | _ => .stuck
  | _, _ => .stuck
def intV (x y : D) (f : Int → Int → R Val) : R Val := match x, y with
  | .int i, .int j => f i j
  | _, _ => .stuck
def binV (o : BOp) (x y : D) (st : Sto) : R Val := match o with
  | .add => addV x y st
  | .sub => intV x y fun i j => .ok (.v (.int (i - j))) st
  | .mul => mulV x y st
  | .fdiv => intV x y fun i j => if L2.CDivN i j then .ok (.v (.int (i.fdiv j))) st else .stuck
  | .mod => intV x y fun i j => if j ≠ 0 then .ok (.v (.int (i.fmod j))) st else .stuck
  | .pow => intV x y fun i j => if L2.CPow i j then .ok (.v (.int (i ^ j.toNat))) st else .stuck

/-- the one text within the other -/
def strIn (i j : Str) : Bool := !(Builtin.Str.occurrences j i 0 j.length 1).isEmpty
def flatD : D → Bool
  | .none => true
  | .bool _ => true
  | .int _ => true
  | .str _ => true
  | _ => false
/-- x among items: of a list; of a tuple -/
def inD (st : Sto) (x y : D) : Option Bool := match y with
  | .str b => (match x with
    | .str a => some (strIn a b)
    | _ => Option.none)
  | .tup ys => if flatD x && ys.all flatD then some (ys.any fun z => eqD z x) else (match frz st x, frzs st ys with
    | some d, some ds => if d.shp && (D.tup ds).shp then some (ds.any fun z => eqD z d) else Option.none
    | _, _ => Option.none)
  | .ref n => (match st[n]?, x with
    | some (.lst _), _ => (match frz st x, frz st y with
      | some d, some (.list ds) => if d.shp && (D.list ds).shp then some (ds.any fun z => eqD z d) else Option.none
      | _, _ => Option.none)
    | _, _ => Option.none)
  | .list _ => (match frz st x, frz st y with
    | some d, some (.list ds) => if d.shp && (D.list ds).shp then some (ds.any fun z => eqD z d) else Option.none
    | _, _ => Option.none)
  | _ => Option.none
def isD (x y : D) : Option Bool := match y with
  | .none => some (match x with
    | .none => true
    | _ => false)
  | .bool c => some (match x with
    | .bool b => b == c
    | _ => false)
  | _ => Option.none
def cmpV (o : COp) (st : Sto) (x y : D) : Option Bool := match o with
  | .lt => (match x, y with
    | .int i, .int j => some (decide (i < j))
    | .str a, .str b => some (decide (a.cps.toList < b.cps.toList))
    | _, _ => Option.none)
  | .le => (match x, y with
    | .int i, .int j => some (decide (i ≤ j))
    | _, _ => Option.none)
  | .gt => (match x, y with
    | .int i, .int j => some (decide (j < i))
    | _, _ => Option.none)
  | .ge => (match x, y with
    | .int i, .int j => some (decide (j ≤ i))
    | .str a, .str b => some (!decide (a.cps.toList < b.cps.toList))
    | _, _ => Option.none)
  | .eq => (match frz st x, frz st y with
    | some a, some b => if a.shp && b.shp then some (eqD a b) else Option.none
    | _, _ => Option.none)
  | .ne => (match frz st x, frz st y with
    | some a, some b => if a.shp && b.shp then some (!eqD a b) else Option.none
    | _, _ => Option.none)
  | .isin => inD st x y
  | .notin => (inD st x y).map (!·)
  | .is => isD x y
  | .isnot => (isD x y).map (!·)
def cutA {α : Type} (xs : List α) (lo hi : Option Int) : List α := (xs.drop (HT.sIx xs.length 0 lo)).take (HT.sIx xs.length xs.length hi - HT.sIx xs.length 0 lo)
def cutS (z : Str) (lo hi : Option Int) : Str := ⟨((z.cps.toList.drop (HT.sIx z.length 0 lo)).take (HT.sIx z.length z.length hi - HT.sIx z.length 0 lo)).toArray⟩
def look {κ : Type} [BEq κ] (k : κ) : List κ → List D → Option D
  | a :: ks, v :: vs => if a == k then some v else look k ks vs
  | _, _ => Option.none
def ixV (st : Sto) (x y : D) : Option D := match y with
  | .int i => (match x with
    | .str z => if z.length ≤ sizeLine then (L2.atI z.cps.toList i).map sgn else Option.none
    | _ => (match seqOf st x with
      | some xs => L2.atI xs i
      | Option.none => Option.none))
  | _ => Option.none
def slV (x : D) (lo hi : Option Int) (st : Sto) : R Val := match x with
  | .str z => if z.length ≤ sizeLine then .ok (.v (.str (cutS z lo hi))) st else .stuck
  | .tup xs => if HT.sIx xs.length 0 lo = 0 ∧ HT.sIx xs.length xs.length hi = xs.length then .stuck else .ok (.v (.tup (cutA xs lo hi))) st
  | x => (match listOf st x with
    | some xs => .ok (.new (cutA xs lo hi)) st
    | Option.none => .stuck)

def intsOf : List D → Option (List Int)
  | [] => some []
  | .int i :: r => (intsOf r).map (i :: ·)
  | _ :: _ => Option.none
def strsOf : List D → Option (List Str)
  | [] => some []
  | .str i :: r => (strsOf r).map (i :: ·)
  | _ :: _ => Option.none
def boolsOf : List D → Option (List Bool)
  | [] => some []
  | .bool i :: r => (boolsOf r).map (i :: ·)
  | _ :: _ => Option.none
def leS (a b : Str) : Bool := decide (a.cps.toList ≤ b.cps.toList)
def sortI (l : List Int) : List Int := l.mergeSort (fun a b => decide (a ≤ b))
def sortS (l : List Str) : List Str := l.mergeSort leS
def rangeI (a : Int) (n : Nat) : List Int := (List.range n).map fun (k : Nat) => a + (k : Int)
def maxI : List Int → Int
  | [] => 0
  | x :: r => r.foldl (fun m y => if y > m then y else m) x
def minI : List Int → Int
  | [] => 0
  | x :: r => r.foldl (fun m y => if y < m then y else m) x
/-- the builtin type's name of a value -/
def tyOf (st : Sto) : D → Option String
  | .none => some "NoneType"
  | .bool _ => some "bool"
  | .int _ => some "int"
  | .str _ => some "str"
  | .list _ => some "list"
  | .scr _ => Option.none
  | .tup _ => some "tuple"
  | .dk _ _ => Option.none
  | .dt _ _ => Option.none
  | .ref n => match st[n]? with
    | some (.lst _) => some "list"
    | _ => Option.none
def isinstT (T t : String) : Bool := T == t || (T == "int" && t == "bool")
def one (ds : List D) (f : D → R Val) : R Val := match ds with
  | [x] => f x
  | _ => .stuck
def two (ds : List D) (f : D → D → R Val) : R Val := match ds with
  | [x, y] => f x y
  | _ => .stuck
def lenV (x : D) (st : Sto) : R Val := match x with
  | .str z => if z.length ≤ sizeLine then .ok (.v (.int z.length)) st else .stuck
  | _ => (match seqOf st x with
    | some xs => .ok (.v (.int xs.length)) st
    | Option.none => .stuck)
def listV (x : D) (st : Sto) : R Val := match x with
  | .str z => if z.length ≤ sizeLine then .ok (.new (signs z)) st else .stuck
  | _ => (match seqOf st x with
    | some xs => .ok (.new xs) st
    | Option.none => .stuck)
def tupV (x : D) (st : Sto) : R Val := match x with
  | .tup xs => .ok (.v (.tup xs)) st
  | _ => (match listOf st x with
    | some xs => .ok (.v (.tup xs)) st
    | Option.none => .stuck)
def onInts (x : D) (st : Sto) (f : List Int → R Val) : R Val := match listOf st x with
  | some xs => (match intsOf xs with
    | some ns => f ns
    | Option.none => .stuck)
  | Option.none => .stuck
def onBools (x : D) (st : Sto) (f : List Bool → R Val) : R Val := match listOf st x with
  | some xs => (match boolsOf xs with
    | some ns => f ns
    | Option.none => .stuck)
  | Option.none => .stuck
def toIntV (x : D) (st : Sto) : R Val := match x with
  | .int i => .ok (.v (.int i)) st
  | .bool b => .ok (.v (.int (if b then 1 else 0))) st
  | _ => .stuck
def isinstV (T : String) (x : D) (st : Sto) : R Val := match tyOf st x with
  | some t => .ok (.v (.bool (isinstT T t))) st
  | Option.none => .stuck
def range1V (x : D) (st : Sto) : R Val := match x with
  | .int n => if n ≤ sizeLine ∧ -(2 ^ 62) ≤ n then .ok (.new ((rangeI 0 n.toNat).map D.int)) st else .stuck
  | _ => .stuck
/-- a written table's entry -/
def lookS (z : Str) : List Str → List Int → Option Int
  | k :: ks, v :: vs => if (k == z) = true then some v else lookS z ks vs
  | _, _ => Option.none
def tabInV (neg : Bool) (ks : List Str) (vs : List Int) (x : D) (st : Sto) : R Val := match x with
  | .str z => .ok (.v (.bool (neg != (lookS z ks vs).isSome))) st
  | _ => .stuck
def tabGetV (ks : List Str) (vs : List Int) (x : D) (st : Sto) : R Val := match x with
  | .str z => (match lookS z ks vs with
    | some i => .ok (.v (.int i)) st
    | Option.none => .stuck)
  | _ => .stuck
def biV (f : BI) (ds : List D) (st : Sto) : R Val := match f with
  | .len => one ds fun x => lenV x st
  | .range1 => one ds fun x => range1V x st
  | .range2 => two ds fun x y => intV x y fun a b => if (b - a) ≤ sizeLine ∧ -(2 ^ 62) ≤ a ∧ a < 2 ^ 62 ∧ -(2 ^ 62) ≤ b ∧ b < 2 ^ 62 then .ok (.new ((rangeI a (b - a).toNat).map D.int)) st else .stuck
  | .listOf => one ds fun x => listV x st
  | .tupleOf => one ds fun x => tupV x st
  | .sorted => one ds fun x => onInts x st fun ns => if ns.length < 64 then .ok (.new ((sortI ns).map D.int)) st else .stuck
  | .sum => one ds fun x => onInts x st fun ns => .ok (.v (.int ns.sum)) st
  | .any => one ds fun x => onBools x st fun bs => .ok (.v (.bool (bs.any id))) st
  | .all => one ds fun x => onBools x st fun bs => .ok (.v (.bool (bs.all id))) st
  | .max2 => two ds fun x y => intV x y fun i j => .ok (.v (.int (if j > i then j else i))) st
  | .maxL => one ds fun x => onInts x st fun ns => if 0 < ns.length then .ok (.v (.int (maxI ns))) st else .stuck
  | .minL => one ds fun x => onInts x st fun ns => if 0 < ns.length then .ok (.v (.int (minI ns))) st else .stuck
  | .toInt => one ds fun x => toIntV x st
  | .isinst T => one ds fun x => isinstV T x st
  | .maxD0 => one ds fun x => onInts x st fun ns => .ok (.v (.int (maxI ns))) st
  | .tabIn neg _ ks vs => one ds fun x => tabInV neg ks vs x st
  | .tabGet _ ks vs => one ds fun x => tabGetV ks vs x st
  | _ => .stuck

def putKey {κ : Type} [BEq κ] (k : κ) (v : D) : List κ → List D → List κ × List D
  | a :: ks, x :: vs => if a == k then (a :: ks, v :: vs) else let r := putKey k v ks vs; (a :: r.1, x :: r.2)
  | _, _ => ([k], [v])
def onCell (x : D) (st : Sto) (f : Nat → List D → R Val) : R Val := match x with
  | .ref n => (match st[n]? with
    | some (.lst xs) => f n xs
    | _ => .stuck)
  | _ => .stuck
def zero (ds : List D) (r : R Val) : R Val := match ds with
  | [] => r
  | _ => .stuck
def popV (xs : List D) (f : D → R Val) : R Val := match xs[xs.length - 1]? with
  | some y => f y
  | Option.none => .stuck
def popAtV (xs : List D) (y : D) (f : D → Nat → R Val) : R Val := match y with
  | .int i => if -(2 ^ 63) ≤ i ∧ i < 2 ^ 63 then (match L2.ixN xs.length i with
    | some k => (match xs[k]? with
      | some y => f y k
      | Option.none => .stuck)
    | Option.none => .stuck) else .stuck
  | _ => .stuck
def indexV (x y : D) (st : Sto) : R Val := match frz st x, frz st y with
  | some (.list ds), some d => if d.shp && (D.list ds).shp then (match ds.findIdx? (fun z => eqD z d) with
    | some j => .ok (.v (.int j)) st
    | Option.none => .stuck) else .stuck
  | _, _ => .stuck
/-- text.index(piece), where it is there -/
def sindexV (x y : D) (st : Sto) : R Val := match x, y with
  | .str a, .str b => (match Builtin.Str.occurrences a b 0 a.length 1 with
    | i :: _ => .ok (.v (.int (i : Nat))) st
    | [] => .stuck)
  | _, _ => .stuck
def mtV (m : MT) (x : D) (ds : List D) (st : Sto) : R Val := match m with
  | .append => one ds fun y => onCell x st fun n xs => if xs.length < sizeLine then .ok (.v .none) (st.set n (.lst (xs ++ [y]))) else .stuck
  | .extend => one ds fun y => onCell x st fun n xs => (match listOf st y with
    | some ys => if xs.length + ys.length ≤ sizeLine then .ok (.v .none) (st.set n (.lst (xs ++ ys))) else .stuck
    | Option.none => .stuck)
  | .pop0 => zero ds (onCell x st fun n xs => popV xs fun y => .ok (.v y) (st.set n (.lst xs.dropLast)))
  | .popAt => one ds fun y => onCell x st fun n xs => popAtV xs y fun y k => .ok (.v y) (st.set n (.lst (xs.eraseIdx k)))
  | .insert => two ds fun i y => onCell x st fun n xs => (match i with
    | .int i => if xs.length < sizeLine ∧ 0 ≤ i ∧ i < 2 ^ 63 then .ok (.v .none) (st.set n (.lst (xs.take i.toNat ++ [y] ++ xs.drop i.toNat))) else .stuck
    | _ => .stuck)
  | .reverse => zero ds (onCell x st fun n xs => .ok (.v .none) (st.set n (.lst xs.reverse)))
  | .clear => zero ds (onCell x st fun n xs => .ok (.v .none) (st.set n (.lst [])))
  | .index => one ds fun y => indexV x y st
  | .sindex => one ds fun y => sindexV x y st
  | _ => .stuck
/-- the receiver has the method -/
def mtIs (m : MT) (x : D) (st : Sto) : Bool := match m with
  | .append | .extend | .pop0 | .popAt | .insert | .remove | .reverse | .clear | .index | .count => (listOf st x).isSome
  | .get => false
  | _ => (match x with
    | .str _ => true
    | _ => false)
def putV (o i v : D) (st : Sto) : Option Sto := match o, i with
  | .ref n, .int k => (match st[n]? with
    | some (.lst xs) => (match L2.ixN xs.length k with
      | some j => some (st.set n (.lst (xs.set j v)))
      | Option.none => Option.none)
    | _ => Option.none)
  | _, _ => Option.none

/-! ### the frame's names -/
def bindT (env : Env) : Tg → D → Option Env
  | .one i, d => some (env.set i (some d))
  | .many is, .tup ds => if is.length = ds.length then some (bindAll env is ds) else Option.none
  | .many _, _ => Option.none
where bindAll (env : Env) : List Nat → List D → Env
  | i :: is, d :: ds => bindAll (env.set i (some d)) is ds
  | _, _ => env
def wipeE (env : Env) : List Nat → Env
  | [] => env
  | v :: vs => (wipeE env vs).set v Option.none
/-- cells made in a turn are dropped -/
def envBelow (n : Nat) : Env → Bool
  | [] => true
  | some d :: r => d.low n && envBelow n r
  | Option.none :: r => envBelow n r
def fin (trim : Bool) (n : Nat) (tmp : List Nat) (env : Env) (st : Sto) : Option (Env × Sto) :=
  if trim then
    if envBelow n (wipeE env tmp) && (st.take n).all (Cell.low n) then some (wipeE env tmp, st.take n) else Option.none
  else some (wipeE env tmp, st)

/-! ### loops -/
def items (st : Sto) : D → Option (List D)
  | .str z => some (signs z)
  | d => seqOf st d
/-- what is walked stands -/
def stands (src : D) (ds : List D) (st : Sto) : Bool := match src with
  | .ref n => (match st[n]? with
    | some (.lst xs) => sames xs ds
    | _ => false)
  | _ => true
def loopF (ok : Sto → Bool) (trim : Bool) (n : Nat) (tmp : List Nat) (body : D → Env → Sto → X) : List D → Env → Sto → X
  | [], env, st => .nx env st
  | d :: ds, env, st => match body d env st with
    | .nx env' st' => (match fin trim n tmp env' st' with
      | some (env'', st'') => if ok st'' then loopF ok trim n tmp body ds env'' st'' else .stuck
      | Option.none => .stuck)
    | r => r
def loopC (ok : Sto → Bool) (f : D → Sto → R (Option D)) : List D → Sto → R (List D)
  | [], st => .ok [] st
  | d :: ds, st => match f d st with
    | .ok r st' => if ok st' then (match loopC ok f ds st' with
        | .ok ys st'' => .ok (match r with
          | some y => y :: ys
          | Option.none => ys) st''
        | _ => .stuck) else .stuck
    | _ => .stuck
def loopW (trim : Bool) (n : Nat) (tmp : List Nat) (c : Env → Sto → R Bool) (body : Env → Sto → X) : Nat → Env → Sto → X
  | 0, _, _ => .stuck
  | k + 1, env, st => match c env st with
    | .ok true st' => (match body env st' with
      | .nx env' st'' => (match fin trim n tmp env' st'' with
        | some (env3, st3) => loopW trim n tmp c body k env3 st3
        | Option.none => .stuck)
      | r => r)
    | .ok false st' => .nx env st'
    | .err e st' => .err e env st'
    | .stuck => .stuck
/-- the turns of a while that are let by -/
theorem wm_ex : ∃ n : Nat, n = 1000000 := ⟨_, rfl⟩
noncomputable def wmost : Nat := Classical.choose wm_ex
theorem wmost_eq : wmost = 1000000 := Classical.choose_spec wm_ex

abbrev CF := Nat → List D → Sto → R D
/-- a call in a frame of its own: what is handed in is read as trees, what is handed back too -/
def callP (cf : CF) (f : Nat) (ds : List D) (st : Sto) : R Val := match frzs st ds with
  | some ts => (match cf f ts [] with
    | .ok d st' => if norefs ds || flatD d || (d.nolist && st'.all Cell.nolist) then (match frz st' d with
        | some t => .ok (.v t) st
        | Option.none => .stuck) else .stuck
    | .err c _ => .err c st
    | .stuck => .stuck)
  | Option.none => .stuck
/-- the cells that a thing handed back leads to, in order; the others fall away -/
def refsOf : D → List Nat
  | .ref i => [i]
  | .tup ds => ds.filterMap fun d => match d with
    | .ref i => some i
    | _ => Option.none
  | _ => []
def keepC (st : Sto) : List Nat → Option Sto
  | [] => some []
  | j :: js => match st[j]? with
    | some (.lst ds) => if norefs ds then (match keepC st js with
      | some r => some (.lst ds :: r)
      | Option.none => Option.none) else Option.none
    | _ => Option.none
def ren (js : List Nat) (i : Nat) : Option D := if js.contains i then some (.ref (js.idxOf i)) else Option.none
def relay (d : D) (st : Sto) : Option (D × Sto) := if (refsOf d).Nodup then (match keepC st (refsOf d), d.mapRef (ren (refsOf d)) with
  | some st2, some d2 => some (d2, st2)
  | _, _ => Option.none) else Option.none
/-- .. the cells that it hands back are taken over -/
def callC (cf : CF) (f : Nat) (ds : List D) (st : Sto) : R Val := match frzs st ds with
  | some ts => (match cf f ts [] with
    | .ok d st' => (match relay d st' with
      | some (d2, st2) => if norefs ds || (d2.nolist && st2.all Cell.nolist) then .ok (.v (d2.shift st.length)) (st ++ st2.map (Cell.shift st.length)) else .stuck
      | Option.none => .stuck)
    | .err c _ => .err c st
    | .stuck => .stuck)
  | Option.none => .stuck
/-- .. over the caller's own cells -/
def callS (cf : CF) (f : Nat) (ds : List D) (st : Sto) : R Val := match cf f ds st with
  | .ok d st' => .ok (.v d) st'
  | .err c st' => .err c st'
  | .stuck => .stuck

mutual
def evX (cf : CF) : E → Env → Sto → R Val
  | .var i, env, st => (match env[i]? with
    | some (some d) => .ok (.v d) st
    | _ => .stuck)
  | .lit d, _, st => .ok (.v d) st
  | .glob _ d, _, st => .ok (.v d) st
  | .bin o a b, env, st => (evX cf a env st).bind fun x st => (evX cf b env st).bind fun y st => binV o x.d y.d st
  | .cmp o a b, env, st => (evX cf a env st).bind fun x st => (evX cf b env st).bind fun y st => (match cmpV o st x.d y.d with
    | some c => .ok (.v (.bool c)) st
    | Option.none => .stuck)
  | .chain o p a b c, env, st => (evX cf a env st).bind fun x st => (evX cf b env st).bind fun y st => (match cmpV o st x.d y.d with
    | some true => (evX cf c env st).bind fun z st => (match cmpV p st y.d z.d with
      | some k => .ok (.v (.bool k)) st
      | Option.none => .stuck)
    | some false => .ok (.v (.bool false)) st
    | Option.none => .stuck)
  | .land a b, env, st => (evX cf a env st).bind fun x st => (match x with
    | .v (.bool true) => evX cf b env st
    | .v (.bool false) => .ok (.v (.bool false)) st
    | _ => .stuck)
  | .lor a b, env, st => (evX cf a env st).bind fun x st => (match x with
    | .v (.bool false) => evX cf b env st
    | .v (.bool true) => .ok (.v (.bool true)) st
    | _ => .stuck)
  | .lnot a, env, st => (evX cf a env st).bind fun x st => (match x with
    | .v (.bool c) => .ok (.v (.bool (!c))) st
    | _ => .stuck)
  | .ite c a b, env, st => (evX cf c env st).bind fun x st => (match x with
    | .v (.bool true) => evX cf a env st
    | .v (.bool false) => evX cf b env st
    | _ => .stuck)
  | .tup es, env, st => (evXs cf es env st).bind fun ds st => if ds.length ≤ sizeLine then .ok (.v (.tup ds)) st else .stuck
  | .list es, env, st => (evXs cf es env st).bind fun ds st => if ds.length ≤ sizeLine then .ok (.new ds) st else .stuck
  | .ix a b, env, st => (evX cf a env st).bind fun x st => (evX cf b env st).bind fun y st => (match ixV st x.d y.d with
    | some d => .ok (.v d) st
    | Option.none => .stuck)
  | .sl a lo hi, env, st => (evX cf a env st).bind fun x st => (evX cf lo env st).bind fun l st => (match partOf lo l.d with
    | some l => (evX cf hi env st).bind fun u st => (match partOf hi u.d with
      | some u => slV x.d l u st
      | Option.none => .stuck)
    | Option.none => .stuck)
  | .call f es, env, st => (evXs cf es env st).bind fun ds st => callP cf f ds st
  | .callC f es, env, st => (evXs cf es env st).bind fun ds st => callC cf f ds st
  | .callS f es, env, st => (evXs cf es env st).bind fun ds st => callS cf f ds st
  | .bi f es, env, st => (evXs cf es env st).bind fun ds st => biV f ds st
  | .mt m o es, env, st => (evX cf o env st).bind fun x st => if mtIs m x.d st then (evXs cf es env st).bind fun ds st => mtV m x.d ds st else .stuck
  | .comp elt tg it cond own, env, st => (evI cf it env st).bind fun (src, ds) st =>
      if !stands src ds st then .stuck else (match loopC (stands src ds) (fun d st => match bindT (wipeE env own) tg d with
        | some env' => (evX cf cond env' st).bind fun c st => (match c with
          | .v (.bool true) => (evX cf elt env' st).bind fun y st => .ok (some y.d) st
          | .v (.bool false) => .ok Option.none st
          | _ => .stuck)
        | Option.none => .stuck) ds st with
      | .ok ys st => if ys.length ≤ sizeLine then .ok (.new ys) st else .stuck
      | _ => .stuck)
  | .cell e, env, st => (evX cf e env st).bind fun x st => (match x with
    | .new ds => .ok (.v (.ref st.length)) (st ++ [.lst ds])
    | _ => .stuck)
  | .dnew _, _, _ => .stuck
def evXs (cf : CF) : Es → Env → Sto → R (List D)
  | .nil, _, st => .ok [] st
  | .cons e es, env, st => (evX cf e env st).bind fun x st => (evXs cf es env st).bind fun xs st => .ok (x.d :: xs) st
def evI (cf : CF) : It → Env → Sto → R (D × List D)
  | .seq e, env, st => (evX cf e env st).bind fun x st => (match items st x.d with
    | some ds => .ok (x.d, ds) st
    | Option.none => .stuck)
  | .range1 a, env, st => (evX cf a env st).bind fun x st => (match x with
    | .v (.int n) => if n ≤ sizeLine ∧ -(2 ^ 62) ≤ n then .ok (.none, (rangeI 0 n.toNat).map D.int) st else .stuck
    | _ => .stuck)
  | .range2 a b, env, st => (evX cf a env st).bind fun x st => (evX cf b env st).bind fun y st => (match x, y with
    | .v (.int i), .v (.int j) => if j - i ≤ sizeLine ∧ -(2 ^ 62) ≤ i ∧ i < 2 ^ 62 ∧ -(2 ^ 62) ≤ j ∧ j < 2 ^ 62 then .ok (.none, (rangeI i (j - i).toNat).map D.int) st else .stuck
    | _, _ => .stuck)
  | .zip a b, env, st => (evX cf a env st).bind fun x st => (evX cf b env st).bind fun y st => (match x.d, y.d with
    | .list xs, .list ys => .ok (.none, List.zipWith (fun x y => D.tup [x, y]) xs ys) st
    | _, _ => .stuck)
end
/-- an expression's value as a tree or a cell -/
def evE (cf : CF) (e : E) (env : Env) (st : Sto) : R D := (evX cf e env st).bind fun x st => .ok x.d st

def R.toX {α : Type} (r : R α) (env : Env) (f : α → Sto → X) : X := match r with
  | .ok a st => f a st
  | .err c st => .err c env st
  | .stuck => .stuck
@[simp] theorem R.toX_ok {α : Type} (a : α) (st : Sto) (env : Env) (f : α → Sto → X) : (R.ok a st).toX env f = f a st := rfl
@[simp] theorem R.toX_err {α : Type} (c : Str) (st : Sto) (env : Env) (f : α → Sto → X) : (R.err c st : R α).toX env f = .err c env st := rfl
@[simp] theorem R.toX_stuck {α : Type} (env : Env) (f : α → Sto → X) : (R.stuck : R α).toX env f = .stuck := rfl
/-- a test's bool -/
def boolR (d : D) (st : Sto) : R Bool := match d with
  | .bool b => .ok b st
  | _ => .stuck
def isFz : S → Bool
  | .fz _ => true
  | _ => false
/-- a cell that is changed no more is a tree from then on -/
def fzX (i : Nat) (env : Env) (st : Sto) : X := match env[i]? with
  | some (some (.ref n)) => (match st[n]? with
    | some (.lst xs) => .nx (env.set i (some (.list xs))) (st.set n .dead)
    | _ => .stuck)
  | _ => .stuck
noncomputable section
mutual
def exS (cf : CF) : S → Env → Sto → X
  | .set i e, env, st => (evE cf e env st).toX env fun d st => .nx (env.set i (some d)) st
  | .unpack is e, env, st => (evE cf e env st).toX env fun d st => (match bindT env (.many is) d with
      | some env' => .nx env' st
      | Option.none => .stuck)
  | .par2 i j a b, env, st => (evE cf a env st).toX env fun x st => (evE cf b env st).toX env fun y st => .nx ((env.set i (some x)).set j (some y)) st
  | .par3 i j k a b c, env, st => (evE cf a env st).toX env fun x st => (evE cf b env st).toX env fun y st => (evE cf c env st).toX env fun z st => .nx (((env.set i (some x)).set j (some y)).set k (some z)) st
  | .put o i v, env, st => (evE cf v env st).toX env fun z st => (evE cf o env st).toX env fun x st => (evE cf i env st).toX env fun y st => (match putV x y z st with
      | some st' => .nx env st'
      | Option.none => .stuck)
  | .expr e, env, st => (evE cf e env st).toX env fun _ st => .nx env st
  | .ret e, env, st => (evE cf e env st).toX env fun d st => .rt d st
  | .retN, _, st => .rt .none st
  | .ife c a b, env, st => (evE cf c env st).toX env fun d st => (match d with
      | .bool true => exL cf a env st
      | .bool false => exL cf b env st
      | _ => .stuck)
  | .for_ tg it body tmp trim, env, st => (evI cf it env st).toX env fun p st => if !stands p.1 p.2 st then .stuck else
      loopF (stands p.1 p.2) trim st.length tmp (fun d env st => match bindT env tg d with
        | some env' => exL cf body env' st
        | Option.none => .stuck) p.2 env st
  | .while_ c body tmp trim, env, st => loopW trim st.length tmp (fun env st => (evE cf c env st).bind boolR) (fun env st => exL cf body env st) wmost env st
  | .raise c, env, st => .err c env st
  | .fz i, env, st => fzX i env st
def exL (cf : CF) : List S → Env → Sto → X
  | [], env, st => .nx env st
  | s :: r, env, st => match exS cf s env st with
    | .nx env st => exL cf r env st
    | x => x
end
/-- a def's body -/
def runD (cf : CF) (d : Def) (args : List D) (st : Sto) : R D :=
  if args.length = d.pars.length then
    match exL cf d.body (args.map some ++ List.replicate (d.locs.length - args.length) Option.none) st with
    | .nx _ st => .ok .none st
    | .rt x st => .ok x st
    | .err c _ st => .err c st
    | .stuck => .stuck
  else .stuck
/-- the defs, to a depth of calls -/
def run (T : Nat → Option Def) : Nat → CF
  | 0 => fun _ _ _ => .stuck
  | k + 1 => fun f args st => match T f with
    | some d => runD (run T k) d args st
    | Option.none => .stuck
end
end MP

/-! What the small language's values are in the machine. -/
namespace MP
open PySem PySem.Spec PyProof.Rows L2

mutual
inductive Rep (K : PySem.W.Frag) (F : Hp) (ad : List Addr) : V → D → Prop
  | none : Rep K F ad .non .none
  | bool (b : Bool) : Rep K F ad (.bl b) (.bool b)
  | int (i : Int) : Rep K F ad (.int i) (.int i)
  | str (x : Str) : Rep K F ad (.str x) (.str x)
  | scr {a : Addr} {ns : List Int} : SqL K F a (ns.map V.int) → Rep K F ad (.ref a) (.scr ns)
  | list {a : Addr} {vs : List V} {ds : List D} : F a = some (.lst vs) → Reps K F ad vs ds → Rep K F ad (.ref a) (.list ds)
  | tup {a : Addr} {vs : List V} {ds : List D} : SqT K F a vs → Reps K F ad vs ds → Rep K F ad (.ref a) (.tup ds)
  | ref {a : Addr} {n : Nat} : ad[n]? = some a → Rep K F ad (.ref a) (.ref n)
inductive Reps (K : PySem.W.Frag) (F : Hp) (ad : List Addr) : List V → List D → Prop
  | nil : Reps K F ad [] []
  | cons {v : V} {vs : List V} {d : D} {ds : List D} : Rep K F ad v d → Reps K F ad vs ds → Reps K F ad (v :: vs) (d :: ds)
end

theorem sqlUp {K : PySem.W.Frag} {F F' : Hp} {a : Addr} {vs : List V} (le : ∀ a o, F a = some o → F' a = some o) (h : SqL K F a vs) : SqL K F' a vs := by
  rcases h with (h | ⟨o, h⟩) | h
  · exact .inl (.inl (le _ _ h))
  · exact .inl (.inr ⟨o, le _ _ h⟩)
  · exact .inr h
theorem sqtUp {K : PySem.W.Frag} {F F' : Hp} {a : Addr} {vs : List V} (le : ∀ a o, F a = some o → F' a = some o) (h : SqT K F a vs) : SqT K F' a vs := by
  rcases h with (h | ⟨o, h⟩) | h
  · exact .inl (.inl (le _ _ h))
  · exact .inl (.inr ⟨o, le _ _ h⟩)
  · exact .inr h

section
variable {K : PySem.W.Frag} {F F' : Hp} {ad ad' : List Addr}
mutual
theorem Rep.up (le : ∀ a o, F a = some o → F' a = some o) (pa : ∀ (n : Nat) (a : Addr), ad[n]? = some a → ad'[n]? = some a) : ∀ {v : V} {d : D}, Rep K F ad v d → Rep K F' ad' v d
  | _, _, .none => .none
  | _, _, .bool b => .bool b
  | _, _, .int i => .int i
  | _, _, .str x => .str x
  | _, _, .scr h => .scr (sqlUp le h)
  | _, _, .list h r => .list (le _ _ h) (Reps.up le pa r)
  | _, _, .tup h r => .tup (sqtUp le h) (Reps.up le pa r)
  | _, _, .ref h => .ref (pa _ _ h)
theorem Reps.up (le : ∀ a o, F a = some o → F' a = some o) (pa : ∀ (n : Nat) (a : Addr), ad[n]? = some a → ad'[n]? = some a) : ∀ {vs : List V} {ds : List D}, Reps K F ad vs ds → Reps K F' ad' vs ds
  | _, _, .nil => .nil
  | _, _, .cons h r => .cons (Rep.up le pa h) (Reps.up le pa r)
end
theorem Reps.length : ∀ {vs : List V} {ds : List D}, Reps K F ad vs ds → vs.length = ds.length
  | _, _, .nil => rfl
  | _, _, .cons _ r => by simp [Reps.length r]
theorem Reps.get : ∀ {vs : List V} {ds : List D} {i : Nat} {d : D}, Reps K F ad vs ds → ds[i]? = some d → ∃ v, vs[i]? = some v ∧ Rep K F ad v d
  | _, _, _, _, .nil, e => by simp at e
  | _, _, 0, _, .cons h _, e => by simp at e; subst e; exact ⟨_, rfl, h⟩
  | _, _, i + 1, d, .cons _ r, e => by
    obtain ⟨v, h1, h2⟩ := Reps.get (i := i) (d := d) r (by simpa using e)
    exact ⟨v, by simpa using h1, h2⟩
theorem Reps.getV : ∀ {vs : List V} {ds : List D} {i : Nat} {v : V}, Reps K F ad vs ds → vs[i]? = some v → ∃ d, ds[i]? = some d ∧ Rep K F ad v d
  | _, _, _, _, .nil, e => by simp at e
  | _, _, 0, _, .cons h _, e => by simp at e; subst e; exact ⟨_, rfl, h⟩
  | _, _, i + 1, d, .cons _ r, e => by
    obtain ⟨v, h1, h2⟩ := Reps.getV (i := i) (v := d) r (by simpa using e)
    exact ⟨v, by simpa using h1, h2⟩
theorem Reps.append : ∀ {vs ws : List V} {ds es : List D}, Reps K F ad vs ds → Reps K F ad ws es → Reps K F ad (vs ++ ws) (ds ++ es)
  | _, _, _, _, .nil, s => s
  | _, _, _, _, .cons h r, s => .cons h (Reps.append r s)
theorem Reps.one {v : V} {d : D} (h : Rep K F ad v d) : Reps K F ad [v] [d] := .cons h .nil
theorem Reps.take : ∀ {vs : List V} {ds : List D} (n : Nat), Reps K F ad vs ds → Reps K F ad (vs.take n) (ds.take n)
  | _, _, 0, _ => .nil
  | _, _, _ + 1, .nil => .nil
  | _, _, n + 1, .cons h r => .cons h (Reps.take n r)
theorem Reps.drop : ∀ {vs : List V} {ds : List D} (n : Nat), Reps K F ad vs ds → Reps K F ad (vs.drop n) (ds.drop n)
  | _, _, 0, r => r
  | _, _, _ + 1, .nil => .nil
  | _, _, n + 1, .cons _ r => Reps.drop n r
theorem Reps.set : ∀ {vs : List V} {ds : List D} (n : Nat) {v : V} {d : D}, Reps K F ad vs ds → Rep K F ad v d → Reps K F ad (vs.set n v) (ds.set n d)
  | _, _, _, _, _, .nil, _ => .nil
  | _, _, 0, _, _, .cons _ r, h => .cons h r
  | _, _, n + 1, _, _, .cons h r, h' => .cons h (Reps.set n r h')
theorem Reps.eraseIdx : ∀ {vs : List V} {ds : List D} (n : Nat), Reps K F ad vs ds → Reps K F ad (vs.eraseIdx n) (ds.eraseIdx n)
  | _, _, _, .nil => .nil
  | _, _, 0, .cons _ r => r
  | _, _, n + 1, .cons h r => .cons h (Reps.eraseIdx n r)
theorem Reps.dropLast {vs : List V} {ds : List D} (h : Reps K F ad vs ds) : Reps K F ad vs.dropLast ds.dropLast := by
  rw [List.dropLast_eq_take, List.dropLast_eq_take, h.length]
  exact h.take _
theorem Reps.reverse : ∀ {vs : List V} {ds : List D}, Reps K F ad vs ds → Reps K F ad vs.reverse ds.reverse
  | _, _, .nil => .nil
  | _, _, .cons h r => by
    rw [List.reverse_cons, List.reverse_cons]
    exact (Reps.reverse r).append (Reps.one h)
theorem Reps.flat {vs : List V} {ds : List D} (h : Reps K F ad vs ds) : ∀ k : Nat, Reps K F ad (List.replicate k vs).flatten (List.replicate k ds).flatten
  | 0 => .nil
  | k + 1 => by
    rw [List.replicate_succ, List.replicate_succ, List.flatten_cons, List.flatten_cons]
    exact h.append (Reps.flat h k)
theorem Reps.ints : ∀ {vs : List V} {ns : List Int}, Reps K F ad vs (ns.map D.int) → vs = ns.map V.int
  | _, [], .nil => rfl
  | _, _ :: ns, .cons (.int _) r => by rw [Reps.ints (ns := ns) r]; rfl
theorem reps_ints : ∀ ns : List Int, Reps K F ad (ns.map V.int) (ns.map D.int)
  | [] => .nil
  | n :: ns => .cons (.int n) (reps_ints ns)
theorem Reps.strs : ∀ {vs : List V} {ns : List Str}, Reps K F ad vs (ns.map D.str) → vs = ns.map V.str
  | _, [], .nil => rfl
  | _, _ :: ns, .cons (.str _) r => by rw [Reps.strs (ns := ns) r]; rfl
theorem reps_strs : ∀ ns : List Str, Reps K F ad (ns.map V.str) (ns.map D.str)
  | [] => .nil
  | n :: ns => .cons (.str n) (reps_strs ns)
theorem Reps.bools : ∀ {vs : List V} {ns : List Bool}, Reps K F ad vs (ns.map D.bool) → vs = ns.map V.bl
  | _, [], .nil => rfl
  | _, _ :: ns, .cons (.bool _) r => by rw [Reps.bools (ns := ns) r]; rfl
theorem intsOf_eq : ∀ {ds : List D} {ns : List Int}, intsOf ds = some ns → ds = ns.map D.int
  | [], ns, h => by cases h; rfl
  | .int i :: r, ns, h => by
    unfold intsOf at h
    cases e : intsOf r with
    | none => rw [e] at h; cases h
    | some ms => rw [e] at h; cases h; rw [intsOf_eq e]; rfl
  | .none :: r, ns, h => by cases h
  | .bool _ :: r, ns, h => by cases h
  | .str _ :: r, ns, h => by cases h
  | .list _ :: r, ns, h => by cases h
  | .tup _ :: r, ns, h => by cases h
  | .dk _ _ :: r, ns, h => by cases h
  | .dt _ _ :: r, ns, h => by cases h
  | .scr _ :: r, ns, h => by cases h
  | .ref _ :: r, ns, h => by cases h
theorem strsOf_eq : ∀ {ds : List D} {ns : List Str}, strsOf ds = some ns → ds = ns.map D.str
  | [], ns, h => by cases h; rfl
  | .str i :: r, ns, h => by
    unfold strsOf at h
    cases e : strsOf r with
    | none => rw [e] at h; cases h
    | some ms => rw [e] at h; cases h; rw [strsOf_eq e]; rfl
  | .none :: r, ns, h => by cases h
  | .bool _ :: r, ns, h => by cases h
  | .int _ :: r, ns, h => by cases h
  | .list _ :: r, ns, h => by cases h
  | .tup _ :: r, ns, h => by cases h
  | .dk _ _ :: r, ns, h => by cases h
  | .dt _ _ :: r, ns, h => by cases h
  | .scr _ :: r, ns, h => by cases h
  | .ref _ :: r, ns, h => by cases h
theorem boolsOf_eq : ∀ {ds : List D} {ns : List Bool}, boolsOf ds = some ns → ds = ns.map D.bool
  | [], ns, h => by cases h; rfl
  | .bool i :: r, ns, h => by
    unfold boolsOf at h
    cases e : boolsOf r with
    | none => rw [e] at h; cases h
    | some ms => rw [e] at h; cases h; rw [boolsOf_eq e]; rfl
  | .none :: r, ns, h => by cases h
  | .int _ :: r, ns, h => by cases h
  | .str _ :: r, ns, h => by cases h
  | .list _ :: r, ns, h => by cases h
  | .tup _ :: r, ns, h => by cases h
  | .dk _ _ :: r, ns, h => by cases h
  | .dt _ _ :: r, ns, h => by cases h
  | .scr _ :: r, ns, h => by cases h
  | .ref _ :: r, ns, h => by cases h
end

/-- a cell in the machine -/
def CellAt (K : PySem.W.Frag) (F : Hp) (ad : List Addr) (H : Hp) (a : Addr) : Cell → Prop
  | .lst ds => ∃ vs, H a = some (.lst vs) ∧ Reps K F ad vs ds
  | .dk ks ds => ∃ vs, H a = some (.dK (ks.zip vs)) ∧ ks.length = vs.length ∧ Reps K F ad vs ds
  | .dt ks ds => ∃ vs, H a = some (.dT (ks.zip vs)) ∧ ks.length = vs.length ∧ Reps K F ad vs ds
  | .dead => ∃ vs, F a = some (.lst vs) ∧ H a = some (.lst vs)
/-- F: what is never changed; ad: where the frame's cells stand -/
structure RelS (K : PySem.W.Frag) (F : Hp) (ad : List Addr) (st : Sto) (H : Hp) : Prop where
  sub : ∀ a o, F a = some o → H a = some o
  nd : ad.Nodup
  out : ∀ (n : Nat) (a : Addr), ad[n]? = some a → st[n]? ≠ some .dead → F a = none
  len : ad.length = st.length
  live : ∀ a ∈ ad, H a ≠ none
  cell : ∀ (n : Nat) (c : Cell) (a : Addr), st[n]? = some c → ad[n]? = some a → CellAt K F ad H a c
/-- from one state to a later one -/
structure Step (F : Hp) (ad : List Addr) (H : Hp) (F' : Hp) (ad' : List Addr) (H' : Hp) : Prop where
  le : ∀ a o, F a = some o → F' a = some o
  pre : ∃ more, ad' = ad ++ more
  newF : ∀ a, F a = none → F' a ≠ none → H a = none ∨ a ∈ ad
  newA : ∀ a ∈ ad', a ∉ ad → H a = none
  keep : ∀ a o, a ∉ ad → H a = some o → H' a = some o
  dom : ∀ a, H' a = none → H a = none
section
variable {K : PySem.W.Frag} {F F1 F2 : Hp} {ad ad1 ad2 : List Addr} {H H1 H2 : Hp} {st : Sto}
theorem Step.refl (F : Hp) (ad : List Addr) (H : Hp) : Step F ad H F ad H :=
  ⟨fun _ _ h => h, ⟨[], by simp⟩, fun a h1 h2 => absurd h1 h2, fun a h1 h2 => absurd h1 h2, fun _ _ _ h => h, fun _ h => h⟩
theorem Step.pa (s : Step F ad H F1 ad1 H1) : ∀ (n : Nat) (a : Addr), ad[n]? = some a → ad1[n]? = some a := by
  obtain ⟨m, e⟩ := s.pre
  intro n a h
  subst e
  have hn : n < ad.length := (List.getElem?_eq_some_iff.mp h).1
  rw [List.getElem?_append_left hn]; exact h
theorem Step.mem (s : Step F ad H F1 ad1 H1) {a : Addr} (h : a ∈ ad) : a ∈ ad1 := by
  obtain ⟨m, e⟩ := s.pre
  subst e
  exact List.mem_append_left _ h
theorem Step.trans (a : Step F ad H F1 ad1 H1) (b : Step F1 ad1 H1 F2 ad2 H2) : Step F ad H F2 ad2 H2 where
  le := fun x o h => b.le x o (a.le x o h)
  pre := by
    obtain ⟨m, e⟩ := a.pre
    obtain ⟨m', e'⟩ := b.pre
    exact ⟨m ++ m', by rw [e', e, List.append_assoc]⟩
  newF := fun x h1 h2 => by
    by_cases q : F1 x = none
    · rcases b.newF x q h2 with z | z
      · exact .inl (a.dom x z)
      · by_cases q2 : x ∈ ad
        · exact .inr q2
        · exact .inl (a.newA x z q2)
    · exact a.newF x h1 q
  newA := fun x h1 h2 => by
    by_cases q : x ∈ ad1
    · exact a.newA x q h2
    · exact a.dom x (b.newA x h1 q)
  keep := fun x o h1 h2 => by
    have q : x ∉ ad1 := fun hm => by
      have := a.newA x hm h1
      rw [this] at h2; cases h2
    exact b.keep x o q (a.keep x o h1 h2)
  dom := fun x h => a.dom x (b.dom x h)
theorem Rep.step (s : Step F ad H F1 ad1 H1) {v : V} {d : D} (h : Rep K F ad v d) : Rep K F1 ad1 v d := Rep.up s.le s.pa h
theorem Reps.step (s : Step F ad H F1 ad1 H1) {v : List V} {d : List D} (h : Reps K F ad v d) : Reps K F1 ad1 v d := Reps.up s.le s.pa h
theorem CellAt.up {F' : Hp} {ad' : List Addr} {a : Addr} (le : ∀ a o, F a = some o → F' a = some o) (pa : ∀ (n : Nat) (a : Addr), ad[n]? = some a → ad'[n]? = some a) (hH : ∀ o, H a = some o → H1 a = some o) : ∀ {c : Cell}, CellAt K F ad H a c → CellAt K F' ad' H1 a c
  | .lst _, ⟨vs, h, r⟩ => ⟨vs, hH _ h, r.up le pa⟩
  | .dk _ _, ⟨vs, h, l, r⟩ => ⟨vs, hH _ h, l, r.up le pa⟩
  | .dt _ _, ⟨vs, h, l, r⟩ => ⟨vs, hH _ h, l, r.up le pa⟩
  | .dead, ⟨vs, h, h2⟩ => ⟨vs, le _ _ h, hH _ h2⟩
/-- an object laid beside all that is known -/
theorem RelS.beside {p : Addr} {o : HO} (r : RelS K F ad st H) (hp : H p = none) : RelS K F ad st (upd H p o) where
  sub := fun a u h => by rw [upd_ne (ne_of_none (r.sub a u h) hp)]; exact r.sub a u h
  nd := r.nd
  out := r.out
  len := r.len
  live := fun a h => by
    have h' := r.live a h
    by_cases e : a = p
    · rw [e, upd_same]; simp
    · rw [upd_ne e]; exact h'
  cell := fun n c a h1 h2 => (r.cell n c a h1 h2).up (fun _ _ h => h) (fun _ _ h => h) fun u hu => by rw [upd_ne (ne_of_none hu hp)]; exact hu
theorem Step.beside {p : Addr} {o : HO} (hp : H p = none) : Step F ad H F ad (upd H p o) :=
  ⟨fun _ _ h => h, ⟨[], by simp⟩, fun a h1 h2 => absurd h1 h2, fun a h1 h2 => absurd h1 h2, fun a u _ h => by rw [upd_ne (ne_of_none h hp)]; exact h,
    fun a h => by
      by_cases e : a = p
      · rw [e]; exact hp
      · rw [upd_ne e] at h; exact h⟩
/-- .. and never changed from then on; H0: the state at the start -/
theorem RelS.frozen {p : Addr} {o : HO} (r : RelS K F ad st H) (hp : H p = some o) (hf : F p = none) (ha : p ∉ ad) : RelS K (upd F p o) ad st H where
  sub := fun a u h => by
    by_cases e : a = p
    · rw [e, upd_same] at h; cases h; rw [e]; exact hp
    · rw [upd_ne e] at h; exact r.sub a u h
  nd := r.nd
  out := fun n a h hd => by
    have q : a ≠ p := fun e => ha (by rw [← e]; exact List.mem_of_getElem? h)
    rw [upd_ne q]; exact r.out n a h hd
  len := r.len
  live := r.live
  cell := fun n c a h1 h2 => (r.cell n c a h1 h2).up (fun x u h => by rw [upd_ne (ne_of_none h hf)]; exact h) (fun _ _ h => h) fun _ h => h
theorem up_frozen {p : Addr} {o : HO} (hf : F p = none) : ∀ a u, F a = some u → upd F p o a = some u := fun a u h => by rw [upd_ne (ne_of_none h hf)]; exact h
theorem Step.frozen {H0 : Hp} {F0 : Hp} {ad0 : List Addr} {p : Addr} {o : HO} (s : Step F0 ad0 H0 F ad H) (hf : F p = none) (h0 : H0 p = none) : Step F0 ad0 H0 (upd F p o) ad H where
  le := fun a u h => up_frozen hf a u (s.le a u h)
  pre := s.pre
  newF := fun a h1 h2 => by
    by_cases e : a = p
    · rw [e]; exact .inl h0
    · rw [upd_ne e] at h2; exact s.newF a h1 h2
  newA := s.newA
  keep := s.keep
  dom := s.dom
theorem app_get {α : Type} {l : List α} {x y : α} {n : Nat} (h : (l ++ [x])[n]? = some y) : l[n]? = some y ∨ (n = l.length ∧ y = x) := by
  by_cases hn : n < l.length
  · rw [List.getElem?_append_left hn] at h; exact .inl h
  · rw [List.getElem?_append_right (by omega)] at h
    have : n - l.length = 0 := by
      by_cases z : n - l.length = 0
      · exact z
      · rw [List.getElem?_singleton, if_neg z] at h; cases h
    rw [this] at h
    exact .inr ⟨by omega, by simpa using h.symm⟩
theorem pa_app {ad : List Addr} {p : Addr} : ∀ (n : Nat) (a : Addr), ad[n]? = some a → (ad ++ [p])[n]? = some a := fun n a h => by
  rw [List.getElem?_append_left (List.getElem?_eq_some_iff.mp h).1]; exact h
/-- .. or a cell from then on -/
theorem RelS.celled {p : Addr} {c : Cell} (r : RelS K F ad st H) (hl : H p ≠ none) (hf : F p = none) (ha : p ∉ ad) (hc : CellAt K F (ad ++ [p]) H p c) : RelS K F (ad ++ [p]) (st ++ [c]) H where
  sub := r.sub
  nd := by
    rw [List.nodup_append]
    exact ⟨r.nd, by simp, fun a ha' b hb e => by
      have : b = p := by simpa using hb
      subst this; subst e; exact ha ha'⟩
  out := fun n a h hd => by
    rcases app_get h with h | ⟨_, e⟩
    · refine r.out n a h fun e => hd ?_
      rw [List.getElem?_append_left (List.getElem?_eq_some_iff.mp e).1]; exact e
    · rw [e]; exact hf
  len := by simp [r.len]
  live := fun a h => by
    rcases List.mem_append.mp h with h | h
    · exact r.live a h
    · have : a = p := by simpa using h
      rw [this]; exact hl
  cell := fun n c' a h1 h2 => by
    rcases app_get h1 with h1 | ⟨e1, e2⟩
    · rcases app_get h2 with h2 | ⟨e3, _⟩
      · exact (r.cell n c' a h1 h2).up (fun _ _ h => h) pa_app fun _ h => h
      · have := (List.getElem?_eq_some_iff.mp h1).1
        have := r.len
        omega
    · rcases app_get h2 with h2 | ⟨e3, e4⟩
      · have := (List.getElem?_eq_some_iff.mp h2).1
        have := r.len
        omega
      · subst e2; subst e4; exact hc
theorem Step.celled {H0 : Hp} {F0 : Hp} {ad0 : List Addr} {p : Addr} (s : Step F0 ad0 H0 F ad H) (h0 : H0 p = none) : Step F0 ad0 H0 F (ad ++ [p]) H where
  le := s.le
  pre := by
    obtain ⟨m, e⟩ := s.pre
    exact ⟨m ++ [p], by rw [e, List.append_assoc]⟩
  newF := s.newF
  newA := fun a h1 h2 => by
    rcases List.mem_append.mp h1 with h | h
    · exact s.newA a h h2
    · have : a = p := by simpa using h
      rw [this]; exact h0
  keep := s.keep
  dom := s.dom
/-- a cell is written -/
theorem RelS.write {n : Nat} {a : Addr} {o : HO} {c : Cell} (r : RelS K F ad st H) (hb : ad[n]? = some a ∧ st[n]? ≠ some .dead) (hc : CellAt K F ad (upd H a o) a c) : RelS K F ad (st.set n c) (upd H a o) where
  sub := fun x u h => by
    have : x ≠ a := fun e => by
      subst e
      rw [r.out n x hb.1 hb.2] at h; cases h
    rw [upd_ne this]; exact r.sub x u h
  nd := r.nd
  out := fun m x h hd => by
    by_cases e : m = n
    · subst e
      rw [hb.1] at h
      cases h
      exact r.out m _ hb.1 hb.2
    · exact r.out m x h (by rw [List.getElem?_set_ne (Ne.symm e)] at hd; exact hd)
  len := by simp [r.len]
  live := fun x h => by
    by_cases e : x = a
    · rw [e, upd_same]; simp
    · rw [upd_ne e]; exact r.live x h
  cell := fun m c' x h1 h2 => by
    have ha := hb.1
    by_cases e : m = n
    · subst e
      rw [ha] at h2; cases h2
      have hm : m < st.length := by
        have := (List.getElem?_eq_some_iff.mp ha).1
        have := r.len
        omega
      rw [List.getElem?_set_self hm] at h1
      cases h1; exact hc
    · rw [List.getElem?_set_ne (Ne.symm e)] at h1
      have hx : x ≠ a := fun z => by
        subst z
        obtain ⟨l1, e1⟩ := List.getElem?_eq_some_iff.mp h2
        obtain ⟨l2, e2⟩ := List.getElem?_eq_some_iff.mp ha
        exact e ((List.getElem_inj r.nd).mp (e1.trans e2.symm))
      exact (r.cell m c' x h1 h2).up (fun _ _ h => h) (fun _ _ h => h) fun u hu => by rw [upd_ne hx]; exact hu
theorem Step.write {n : Nat} {a : Addr} {o : HO} (ha : ad[n]? = some a) : Step F ad H F ad (upd H a o) :=
  ⟨fun _ _ h => h, ⟨[], by simp⟩, fun a h1 h2 => absurd h1 h2, fun a h1 h2 => absurd h1 h2, fun x u hx h => by
    have : x ≠ a := fun e => hx (e ▸ List.mem_of_getElem? ha)
    rw [upd_ne this]; exact h, fun x h => by
    by_cases e : x = a
    · rw [e, upd_same] at h; cases h
    · rw [upd_ne e] at h; exact h⟩
theorem RelS.at (r : RelS K F ad st H) {n : Nat} {c : Cell} (h : st[n]? = some c) : ∃ a, ad[n]? = some a ∧ CellAt K F ad H a c := by
  have hn : n < ad.length := by
    have := (List.getElem?_eq_some_iff.mp h).1
    have := r.len
    omega
  exact ⟨ad[n], by simp [hn], r.cell n c _ h (by simp [hn])⟩
end

/-- the frame's names -/
structure EnvRel (K : PySem.W.Frag) (F : Hp) (ad : List Addr) (env : Env) (σ : L2.St) : Prop where
  len : env.length = σ.length
  at_ : ∀ (i : Nat) (d : D), env[i]? = some (some d) → ∃ v, σ[i]? = some (some v) ∧ Rep K F ad v d
section
variable {K : PySem.W.Frag} {F F1 : Hp} {ad ad1 : List Addr} {H H1 : Hp} {env : Env} {σ : L2.St}
theorem EnvRel.step (s : Step F ad H F1 ad1 H1) (e : EnvRel K F ad env σ) : EnvRel K F1 ad1 env σ :=
  ⟨e.len, fun i d h => let ⟨v, h1, h2⟩ := e.at_ i d h; ⟨v, h1, h2.step s⟩⟩
theorem EnvRel.set (e : EnvRel K F ad env σ) (i : Nat) {v : V} {d : D} (h : Rep K F ad v d) : EnvRel K F ad (env.set i (some d)) (σ.set i (some v)) := by
  refine ⟨by simp [e.len], fun j d' hj => ?_⟩
  by_cases q : i = j
  · subst q
    have hi : i < env.length := by
      have := (List.getElem?_eq_some_iff.mp hj).1
      simpa using this
    rw [List.getElem?_set_self hi] at hj
    cases hj
    exact ⟨v, by rw [List.getElem?_set_self (by rw [← e.len]; exact hi)], h⟩
  · rw [List.getElem?_set_ne q] at hj
    obtain ⟨v', h1, h2⟩ := e.at_ j d' hj
    exact ⟨v', by rw [List.getElem?_set_ne q]; exact h1, h2⟩
theorem wipeE_len (env : Env) : ∀ vs : List Nat, (wipeE env vs).length = env.length
  | [] => rfl
  | v :: vs => by unfold wipeE; rw [List.length_set, wipeE_len env vs]
theorem wipeE_some {env : Env} {i : Nat} {d : D} : ∀ {vs : List Nat}, (wipeE env vs)[i]? = some (some d) → env[i]? = some (some d) ∧ i ∉ vs
  | [], h => ⟨h, by simp⟩
  | v :: vs, h => by
    unfold wipeE at h
    by_cases hi : v = i
    · subst hi
      by_cases hv : v < (wipeE env vs).length
      · rw [List.getElem?_set_self hv] at h; cases h
      · rw [List.getElem?_eq_none (by simpa using hv)] at h; cases h
    · rw [List.getElem?_set_ne hi] at h
      obtain ⟨h1, h2⟩ := wipeE_some h
      exact ⟨h1, by simp only [List.mem_cons, not_or]; exact ⟨fun e => hi e.symm, h2⟩⟩
theorem wipe_keeps {σ : L2.St} {i : Nat} : ∀ {vs : List Nat}, i ∉ vs → (wipe σ vs)[i]? = σ[i]?
  | [], _ => rfl
  | v :: vs, h => by
    unfold wipe
    rw [List.getElem?_set_ne (fun e => h (by simp [e])), wipe_keeps (fun e => h (List.mem_cons_of_mem _ e))]
/-- names forgotten -/
theorem EnvRel.wipeL (e : EnvRel K F ad env σ) (vs : List Nat) : EnvRel K F ad (wipeE env vs) σ :=
  ⟨by rw [wipeE_len]; exact e.len, fun i d h => e.at_ i d (wipeE_some h).1⟩
theorem EnvRel.wipe2 (e : EnvRel K F ad env σ) (vs : List Nat) : EnvRel K F ad (wipeE env vs) (wipe σ vs) :=
  ⟨by rw [wipeE_len, wipe_length]; exact e.len, fun i d h => by
    obtain ⟨h1, h2⟩ := wipeE_some h
    obtain ⟨v, h3, h4⟩ := e.at_ i d h1
    exact ⟨v, by rw [wipe_keeps h2]; exact h3, h4⟩⟩
end

/-! ### trees read by the machine -/
section
variable {K : PySem.W.Frag} {F : Hp} {ad : List Addr} {st : Sto} {H : Hp}
mutual
theorem Rep.dp (g : Nat → Option D) (hg : ∀ (n : Nat) (t : D) (a : Addr), g n = some t → ad[n]? = some a → t.py.canLay0 = true → Dp K H (.ref a) t.py) (sub : ∀ a o, F a = some o → H a = some o) : ∀ {d : D} {v : V} {t : D}, Rep K F ad v d → d.mapRef g = some t → t.py.canLay0 = true → Dp K H v t.py
  | _, _, _, .none, h, _ => by simp only [D.mapRef, Option.some.injEq] at h; subst h; exact .non
  | _, _, _, .bool b, h, _ => by simp only [D.mapRef, Option.some.injEq] at h; subst h; exact .bl b
  | _, _, _, .int b, h, _ => by simp only [D.mapRef, Option.some.injEq] at h; subst h; exact .int b
  | _, _, _, .str b, h, _ => by simp only [D.mapRef, Option.some.injEq] at h; subst h; exact .str b
  | .list ds, _, t, .list hs r, h, l => by
    simp only [D.mapRef] at h
    cases e : mapRefs g ds with
    | none => rw [e] at h; cases h
    | some ys =>
      rw [e] at h
      simp only [Option.some.injEq] at h
      subst h
      exact .lst (SqL.of (sub _ _ hs)) (Reps.dp g hg sub r e (by simpa only [D.py, PyData.canLay0] using l))
  | .tup ds, _, t, .tup hs r, h, l => by
    simp only [D.mapRef] at h
    cases e : mapRefs g ds with
    | none => rw [e] at h; cases h
    | some ys =>
      rw [e] at h
      simp only [Option.some.injEq] at h
      subst h
      exact .tup (sqtUp sub hs) (Reps.dp g hg sub r e (by simpa only [D.py, PyData.canLay0] using l))
  | _, _, _, .scr _, h, l => by
    simp only [D.mapRef, Option.some.injEq] at h
    subst h
    simp only [D.py, PyData.canLay0] at l
    cases l
  | _, _, _, .ref ha, h, l => hg _ _ _ (by simpa only [D.mapRef] using h) ha l
theorem Reps.dp (g : Nat → Option D) (hg : ∀ (n : Nat) (t : D) (a : Addr), g n = some t → ad[n]? = some a → t.py.canLay0 = true → Dp K H (.ref a) t.py) (sub : ∀ a o, F a = some o → H a = some o) : ∀ {ds : List D} {vs : List V} {ts : List D}, Reps K F ad vs ds → mapRefs g ds = some ts → PyData.canLayAll0 (pys ts) = true → DpAll K H vs (pys ts)
  | [], _, _, .nil, h, _ => by simp only [mapRefs, Option.some.injEq] at h; subst h; exact .nil
  | d :: ds, _, ts, .cons h1 h2, h, l => by
    simp only [mapRefs] at h
    cases e1 : d.mapRef g with
    | none => rw [e1] at h; cases h
    | some y =>
      cases e2 : mapRefs g ds with
      | none => rw [e1, e2] at h; cases h
      | some ys =>
        rw [e1, e2] at h
        simp only [Option.some.injEq] at h
        subst h
        have l' : y.py.canLay0 = true ∧ PyData.canLayAll0 (pys ys) = true := by simpa only [pys, PyData.canLayAll0, Bool.and_eq_true] using l
        exact .cons (Rep.dp g hg sub h1 e1 l'.1) (Reps.dp g hg sub h2 e2 l'.2)
end
theorem readN_dp (r : RelS K F ad st H) : ∀ (k n : Nat) (t : D) (a : Addr), readN k st n = some t → ad[n]? = some a → t.py.canLay0 = true → Dp K H (.ref a) t.py := by
  intro k
  induction k with
  | zero => intro n t a h; cases h
  | succ k ih =>
    intro n t a h ha hd
    simp only [readN] at h
    cases e : st[n]? with
    | none => rw [e] at h; cases h
    | some c =>
      rw [e] at h
      have hc := r.cell n c a e ha
      cases c with
      | lst xs =>
        simp only at h
        cases e2 : mapRefs (readN k st) xs with
        | none => rw [e2] at h; cases h
        | some ys =>
          rw [e2] at h
          simp only [Option.some.injEq] at h
          subst h
          obtain ⟨vs, h1, h2⟩ := hc
          exact .lst (SqL.of h1) (Reps.dp _ ih r.sub h2 e2 (by simpa only [D.py, PyData.canLay0] using hd))
      | dk ks vs => cases h
      | dt ks vs => cases h
      | dead => cases h
theorem frz_dp (r : RelS K F ad st H) {v : V} {d t : D} (h : Rep K F ad v d) (e : frz st d = some t) (s : t.shp = true) : Dp K H v t.py :=
  Rep.dp _ (readN_dp r st.length) r.sub h e (SeqAt.canLay_of_shaped s)
/-- a list or a tuple read at a value -/
theorem seqOf_rep (r : RelS K F ad st H) {v : V} {d : D} {ds : List D} (h : Rep K F ad v d) (e : seqOf st d = some ds) : ∃ a vs, v = .ref a ∧ (SqL K H a vs ∨ SqT K H a vs) ∧ Reps K F ad vs ds := by
  cases h with
  | list hs hr => simp only [seqOf, Option.some.injEq] at e; subst e; exact ⟨_, _, rfl, .inl (SqL.of (r.sub _ _ hs)), hr⟩
  | scr hs => simp only [seqOf, Option.some.injEq] at e; subst e; exact ⟨_, _, rfl, .inl (sqlUp r.sub hs), reps_ints _⟩
  | tup hs hr => simp only [seqOf, Option.some.injEq] at e; subst e; exact ⟨_, _, rfl, .inr (sqtUp r.sub hs), hr⟩
  | ref ha =>
    simp only [seqOf] at e
    split at e
    · rename_i xs hx
      cases e
      obtain ⟨vs, h1, h2⟩ := r.cell _ _ _ hx ha
      exact ⟨_, _, rfl, .inl (SqL.of h1), h2⟩
    · cases e
  | _ => simp only [seqOf] at e; cases e
theorem listOf_rep (r : RelS K F ad st H) {v : V} {d : D} {ds : List D} (h : Rep K F ad v d) (e : listOf st d = some ds) : ∃ a vs, v = .ref a ∧ H a = some (.lst vs) ∧ Reps K F ad vs ds := by
  cases h with
  | list hs hr => simp only [listOf, Option.some.injEq] at e; subst e; exact ⟨_, _, rfl, r.sub _ _ hs, hr⟩
  | ref ha =>
    simp only [listOf] at e
    split at e
    · rename_i xs hx
      cases e
      obtain ⟨vs, h1, h2⟩ := r.cell _ _ _ hx ha
      exact ⟨_, _, rfl, h1, h2⟩
    · cases e
  | _ => simp only [listOf] at e; cases e
end
end MP

/-! The operations by values. -/
namespace MP
open PySem PySem.Spec PyProof.Rows L2

def RepX (K : PySem.W.Frag) (H0 F : Hp) (ad : List Addr) (H : Hp) (v : V) : Val → Prop
  | .v d => Rep K F ad v d
  | .new ds => ∃ p vs, v = .ref p ∧ H0 p = none ∧ H p = some (.lst vs) ∧ F p = none ∧ p ∉ ad ∧ Reps K F ad vs ds
/-- what is wanted behind an expression; cls: where the classes of errors stand; ew: what is wanted of an error -/
def OkV (K : PySem.W.Frag) (cls : Str → Option Addr) (ew : XK) (F : Hp) (ad : List Addr) (H : Hp) (r : R Val) (Q : VK) : Prop := match r with
  | .ok x st' => ∀ F' ad' H' v, Step F ad H F' ad' H' → RelS K F' ad' st' H' → RepX K H F' ad' H' v x → Q v H'
  | .err c st' => ∀ F' ad' H' a, Step F ad H F' ad' H' → RelS K F' ad' st' H' → cls c = some a → ew (.ref a) none H'
  | .stuck => False
section
variable {K : PySem.W.Frag} {cls : Str → Option Addr} {ew : XK} {F F1 : Hp} {ad ad1 : List Addr} {H H1 : Hp} {st st1 : Sto} {Q : VK}
theorem RepX.back {H0 : Hp} (dom : ∀ a, H a = none → H0 a = none) {v : V} {x : Val} {H' : Hp} (h : RepX K H F ad H' v x) : RepX K H0 F ad H' v x := by
  cases x with
  | v d => exact h
  | new ds =>
    obtain ⟨p, vs, h1, h2, h3⟩ := h
    exact ⟨p, vs, h1, dom _ h2, h3⟩
theorem OkV.step (s : Step F ad H F1 ad1 H1) {r : R Val} (h : OkV K cls ew F ad H r Q) : OkV K cls ew F1 ad1 H1 r Q := by
  cases r with
  | ok x st' => exact fun F' ad' H' v s' r' x' => h F' ad' H' v (s.trans s') r' (x'.back s.dom)
  | err c st' => exact fun F' ad' H' a s' r' e => h F' ad' H' a (s.trans s') r' e
  | stuck => exact h
/-- a list that was made just now is never changed -/
theorem freezeX {H0 F0 : Hp} {ad0 : List Addr} {v : V} {x : Val} (s : Step F0 ad0 H0 F ad H) (r : RelS K F ad st H) (h : RepX K H0 F ad H v x) : ∃ F', Step F0 ad0 H0 F' ad H ∧ RelS K F' ad st H ∧ Rep K F' ad v x.d := by
  cases x with
  | v d => exact ⟨F, s, r, h⟩
  | new ds =>
    obtain ⟨p, vs, rfl, h0, hp, hf, ha, hr⟩ := h
    exact ⟨upd F p (.lst vs), s.frozen hf h0, r.frozen hp hf ha, .list upd_same (hr.up (up_frozen hf) fun _ _ h => h)⟩
/-- .. or a cell -/
theorem cellX {H0 F0 : Hp} {ad0 : List Addr} {v : V} {ds : List D} (s : Step F0 ad0 H0 F ad H) (r : RelS K F ad st H) (h : RepX K H0 F ad H v (.new ds)) :
    ∃ p, Step F0 ad0 H0 F (ad ++ [p]) H ∧ RelS K F (ad ++ [p]) (st ++ [.lst ds]) H ∧ Rep K F (ad ++ [p]) v (.ref st.length) := by
  obtain ⟨p, vs, rfl, h0, hp, hf, ha, hr⟩ := h
  refine ⟨p, s.celled h0, r.celled (by rw [hp]; simp) hf ha ⟨vs, hp, hr.up (fun _ _ h => h) pa_app⟩, .ref ?_⟩
  rw [← r.len]; simp
/-- a value, nothing else changed -/
theorem OkV.val {d : D} {v : V} (h : OkV K cls ew F ad H (.ok (.v d) st) Q) (r : RelS K F ad st H) (q : Rep K F ad v d) : Q v H := h F ad H v (Step.refl F ad H) r q
/-- a new tuple -/
theorem OkV.tuple {ds : List D} {vs : List V} (h : OkV K cls ew F ad H (.ok (.v (.tup ds)) st) Q) (r : RelS K F ad st H) (q : Reps K F ad vs ds) {p : Addr} (hp : H p = none) : Q (.ref p) (upd H p (.tup vs)) := by
  have hf : F p = none := by
    cases e : F p with
    | none => rfl
    | some o => rw [r.sub p o e] at hp; cases hp
  have ha : p ∉ ad := fun hm => r.live p hm hp
  have s1 : Step F ad H F ad (upd H p (.tup vs)) := Step.beside hp
  exact h _ _ _ _ (s1.frozen (p := p) (o := .tup vs) hf hp) ((r.beside hp).frozen upd_same hf ha) (.tup (.inl (.inl upd_same)) (q.up (up_frozen hf) fun _ _ h => h))
/-- a new list -/
theorem OkV.list {ds : List D} {vs : List V} (h : OkV K cls ew F ad H (.ok (.new ds) st) Q) (r : RelS K F ad st H) (q : Reps K F ad vs ds) {p : Addr} (hp : H p = none) : Q (.ref p) (upd H p (.lst vs)) := by
  have hf : F p = none := by
    cases e : F p with
    | none => rfl
    | some o => rw [r.sub p o e] at hp; cases hp
  have ha : p ∉ ad := fun hm => r.live p hm hp
  exact h _ _ _ _ (Step.beside hp) (r.beside hp) ⟨p, vs, rfl, hp, upd_same, hf, ha, q⟩
/-- a cell written -/
theorem OkV.wrote {n : Nat} {a : Addr} {o : HO} {c : Cell} {d : D} {v : V} (h : OkV K cls ew F ad H (.ok (.v d) (st.set n c)) Q) (r : RelS K F ad st H) (ha : ad[n]? = some a ∧ st[n]? ≠ some .dead) (hc : CellAt K F ad (upd H a o) a c) (q : Rep K F ad v d) : Q v (upd H a o) :=
  h _ _ _ _ (Step.write ha.1) (r.write ha hc) q
end

theorem flatRep {K : PySem.W.Frag} {F : Hp} {ad : List Addr} {v : V} {d : D} (h : Rep K F ad v d) (f : flatD d = true) : flatV v = true := by
  cases h <;> first | rfl | (simp only [flatD] at f; cases f)
theorem eqRep {K : PySem.W.Frag} {F : Hp} {ad : List Addr} {v w : V} {d e : D} (h : Rep K F ad v d) (h' : Rep K F ad w e) (f : flatD d = true) (f' : flatD e = true) : eqV v w = eqD d e := by
  cases h <;> cases h' <;> first | rfl | (simp only [flatD] at f; cases f) | (simp only [flatD] at f'; cases f') | (simp only [eqV, eqD, D.py, PyData.eqv])
theorem flatReps {K : PySem.W.Frag} {F : Hp} {ad : List Addr} : ∀ {vs : List V} {ds : List D}, Reps K F ad vs ds → ds.all flatD = true → vs.all flatV = true
  | _, _, .nil, _ => rfl
  | _, _, .cons h r, f => by
    rw [List.all_cons, Bool.and_eq_true] at f
    rw [List.all_cons, flatRep h f.1, flatReps r f.2]; rfl
theorem inRep {K : PySem.W.Frag} {F : Hp} {ad : List Addr} {v : V} {d : D} (h : Rep K F ad v d) (f : flatD d = true) : ∀ {vs : List V} {ds : List D}, Reps K F ad vs ds → ds.all flatD = true → inV v vs = ds.any fun z => eqD z d
  | _, _, .nil, _ => rfl
  | _, _, .cons h' r, f' => by
    rw [List.all_cons, Bool.and_eq_true] at f'
    have ih := inRep h f r f'.2
    unfold inV at ih ⊢
    rw [List.any_cons, List.any_cons, ih, eqRep h' h f'.1 f]

section
variable {X : Cx} {cls : Str → Option Addr} {ew : XK}
/-- two values under an operator -/
def rBin (K : PySem.W.Frag) (cls : Str → Option Addr) (ew : XK) (f : D → D → Sto → R Val) : R2 := fun x y H Q => ∃ F ad st dx dy, RelS K F ad st H ∧ Rep K F ad x dx ∧ Rep K F ad y dy ∧ OkV K cls ew F ad H (f dx dy st) Q
def bopOf : BOp → Operator
  | .add => .Add
  | .sub => .Sub
  | .mul => .Mult
  | .fdiv => .FloorDiv
  | .mod => .Mod
  | .pow => .Pow


theorem OpR.imp {f : Value → Value → Sem Value} {r r' : R2} (h : OpR X f r) (i : ∀ x y H Q, r' x y H Q → r x y H Q) : OpR X f r' :=
  fun pins s σ H x y v u Q I rx ry q => h pins s σ H x y v u Q I rx ry (i x y H Q q)
theorem intV_ok {x y : D} {f : Int → Int → R Val} {F : Hp} {ad : List Addr} {H : Hp} {Q : VK} {v w : V} (ok : OkV X.K cls ew F ad H (intV x y f) Q) (hx : Rep X.K F ad v x) (hy : Rep X.K F ad w y) :
    ∃ i j, v = .int i ∧ w = .int j ∧ OkV X.K cls ew F ad H (f i j) Q := by
  unfold intV at ok
  split at ok
  · cases hx; cases hy
    exact ⟨_, _, rfl, rfl, ok⟩
  · exact ok.elim
theorem op_bin (o : BOp) : OpR X (binaryOp (bopOf o)) (rBin X.K cls ew (binV o)) := by
  intro pins s σ H x y v u Q I rx ry ⟨F, ad, st, dx, dy, r, hx, hy, ok⟩
  cases o with
  | add =>
    have ok : OkV X.K cls ew F ad H (addV dx dy st) Q := ok
    unfold addV at ok
    split at ok
    · cases hx; cases hy
      exact op_add pins s σ H _ _ v u Q I rx ry ⟨_, _, rfl, rfl, ok.val r (.int _)⟩
    · cases hx; cases hy
      split at ok
      · rename_i hz
        exact op_add_str pins s σ H _ _ v u Q I rx ry ⟨_, _, rfl, rfl, hz, ok.val r (.str _)⟩
      · exact ok.elim
    · cases hx with
      | tup h1 r1 =>
        cases hy with
        | tup h2 r2 =>
          split at ok
          · rename_i hz
            refine op_catT pins s σ H _ _ v u Q I rx ry ⟨_, _, _, _, rfl, rfl, sqtUp r.sub h1, sqtUp r.sub h2, ?_, ?_, ?_, ?_⟩
            · intro e
              subst e
              have := r1.length
              simp at this
              exact hz.1 this.symm
            · rw [r1.length, r2.length]; exact hz.2
            · intro e
              subst e
              cases r2
              rw [List.append_nil] at ok
              exact ok.val r (.tup h1 r1)
            · intro _ p hp
              exact ok.tuple r (r1.append r2) hp
          · exact ok.elim
    · split at ok
      · rename_i xs ys e1 e2
        obtain ⟨a, vs, rfl, ha, hr⟩ := listOf_rep r hx e1
        obtain ⟨b, ws, rfl, hb, hs⟩ := listOf_rep r hy e2
        split at ok
        · rename_i hz
          exact op_cat pins s σ H _ _ v u Q I rx ry ⟨_, _, _, _, rfl, rfl, ha, hb, by rw [hr.length, hs.length]; exact hz, fun p hp => ok.list r (hr.append hs) hp⟩
        · exact ok.elim
      · exact ok.elim
  | sub =>
    obtain ⟨i, j, rfl, rfl, ok⟩ := intV_ok ok hx hy
    exact op_sub pins s σ H _ _ v u Q I rx ry ⟨_, _, rfl, rfl, ok.val r (.int _)⟩
  | mul =>
    have ok : OkV X.K cls ew F ad H (mulV dx dy st) Q := ok
    unfold mulV at ok
    split at ok
    · cases hx; cases hy
      split at ok
      · rename_i hz
        exact op_mul pins s σ H _ _ v u Q I rx ry ⟨_, _, rfl, rfl, hz, ok.val r (.int _)⟩
      · exact ok.elim
    · split at ok
      · rename_i xs e1
        obtain ⟨a, vs, rfl, ha, hr⟩ := listOf_rep r hx e1
        cases hy
        split at ok
        · rename_i hz
          exact op_rep pins s σ H _ _ v u Q I rx ry ⟨_, _, _, rfl, rfl, ha, hz.1, hz.2.1, by rw [hr.length]; exact hz.2.2, fun p hp => ok.list r (hr.flat _) hp⟩
        · exact ok.elim
      · exact ok.elim
    · exact ok.elim
  | fdiv =>
    obtain ⟨i, j, rfl, rfl, ok⟩ := intV_ok ok hx hy
    by_cases hz : CDivN i j
    · rw [if_pos hz] at ok
      exact op_fdivN pins s σ H _ _ v u Q I rx ry ⟨_, _, rfl, rfl, hz, ok.val r (.int _)⟩
    · rw [if_neg hz] at ok; exact ok.elim
  | mod =>
    obtain ⟨i, j, rfl, rfl, ok⟩ := intV_ok ok hx hy
    by_cases hz : j ≠ 0
    · rw [if_pos hz] at ok
      exact op_modN pins s σ H _ _ v u Q I rx ry ⟨_, _, rfl, rfl, hz, ok.val r (.int _)⟩
    · rw [if_neg hz] at ok; exact ok.elim
  | pow =>
    obtain ⟨i, j, rfl, rfl, ok⟩ := intV_ok ok hx hy
    by_cases hz : CPow i j
    · rw [if_pos hz] at ok
      exact op_pow pins s σ H _ _ v u Q I rx ry ⟨_, _, rfl, rfl, hz, ok.val r (.int _)⟩
    · rw [if_neg hz] at ok; exact ok.elim

/-! ### comparisons -/
def rCmp (K : PySem.W.Frag) (o : COp) : R2 := fun x y H Q => ∃ F ad st dx dy, RelS K F ad st H ∧ Rep K F ad x dx ∧ Rep K F ad y dy ∧ ∃ c, cmpV o st dx dy = some c ∧ Q (.bl c) H
def copOf : COp → CmpOp
  | .eq => .Eq
  | .ne => .NotEq
  | .lt => .Lt
  | .le => .LtE
  | .gt => .Gt
  | .ge => .GtE
  | .isin => .In
  | .notin => .NotIn
  | .is => .Is
  | .isnot => .IsNot
theorem opt_map_not {o : Option Bool} {c : Bool} (h : o.map (!·) = some c) : ∃ b, o = some b ∧ c = !b := by
  cases o with
  | none => cases h
  | some b => exact ⟨b, rfl, by simpa using h.symm⟩
theorem RelV.beq_bool {x : V} {v : Value} (r : RelV x v) (c : Bool) : (v == Value.bool c) = decide (x = .bl c) := by
  cases x with
  | non => cases r; rfl
  | bl b => cases r; cases b <;> cases c <;> rfl
  | int _ => obtain ⟨t, rfl⟩ := r; rfl
  | str _ => obtain ⟨t, rfl⟩ := r; rfl
  | byt _ => obtain ⟨t, rfl⟩ := r; rfl
  | flt _ => obtain ⟨t, rfl⟩ := r; rfl
  | ref _ => cases r; rfl
  | ty _ => cases r; rfl
theorem plain_bool {x : V} {v : Value} (r : RelV x v) (c : Bool) : plainIs v (.bool c) = true := by
  cases x with
  | non => cases r; rfl
  | bl b => cases r; rfl
  | int _ => obtain ⟨t, rfl⟩ := r; rfl
  | str _ => obtain ⟨t, rfl⟩ := r; rfl
  | byt _ => obtain ⟨t, rfl⟩ := r; rfl
  | flt _ => obtain ⟨t, rfl⟩ := r; rfl
  | ref _ => cases r; rfl
  | ty _ => cases r; rfl
theorem op_isB : OpR X (compareOp .Is) (fun x y H Q => ∃ c, y = .bl c ∧ Q (.bl (decide (x = .bl c))) H) := by
  intro pins s σ H x y v u Q I rx ry ⟨c, e, q⟩
  subst e
  cases ry
  exact wpAny_is_plain (plain_bool rx c) (by rw [RelV.beq_bool rx c]; exact ⟨.bl _, H, I, rfl, q⟩)
theorem op_isnotB : OpR X (compareOp .IsNot) (fun x y H Q => ∃ c, y = .bl c ∧ Q (.bl (!decide (x = .bl c))) H) := by
  intro pins s σ H x y v u Q I rx ry ⟨c, e, q⟩
  subst e
  cases ry
  exact wpAny_isNot_plain (plain_bool rx c) (by rw [RelV.beq_bool rx c]; exact ⟨.bl _, H, I, rfl, q⟩)
theorem isD_rep {K : PySem.W.Frag} {F : Hp} {ad : List Addr} {v w : V} {d e : D} {b : Bool} (h : Rep K F ad v d) (h' : Rep K F ad w e) (q : isD d e = some b) :
    (w = .non ∧ b = decide (v = .non)) ∨ ∃ c, w = .bl c ∧ b = decide (v = .bl c) := by
  cases h' with
  | none =>
    refine .inl ⟨rfl, ?_⟩
    simp only [isD, Option.some.injEq] at q
    rw [← q]
    cases h <;> simp
  | bool c =>
    refine .inr ⟨c, rfl, ?_⟩
    simp only [isD, Option.some.injEq] at q
    rw [← q]
    cases h with
    | bool b' => cases b' <;> cases c <;> rfl
    | _ => simp
  | _ => simp only [isD] at q; cases q
/-- x in y -/
theorem in_ok (hu : X.A.units + 65 < cLine) {pins : List (Addr × Obj)} {s : Shared} {σ : L2.St} {H : Hp} {x y : V} {v u : Value} {F : Hp} {ad : List Addr} {st : Sto} {dx dy : D} {c : Bool}
    (I : L2.Inv X pins σ H s) (rx : L2.RelV x v) (ry : L2.RelV y u) (r : RelS X.K F ad st H) (hx : Rep X.K F ad x dx) (hy : Rep X.K F ad y dy) (e : inD st dx dy = some c) :
    (∀ Q : VK, Q (.bl c) H → wpAny (model X.prog X.w) X.A (compareOp .In v u) (EP X pins σ Q) X.xe s) ∧ (∀ Q : VK, Q (.bl (!c)) H → wpAny (model X.prog X.w) X.A (compareOp .NotIn v u) (EP X pins σ Q) X.xe s) := by
  have deep : ∀ {d : D} {ds : List D}, frz st dx = some d → frz st dy = some (.list ds) → (d.shp && (D.list ds).shp) = true → c = (ds.any fun z => eqD z d) →
      (∀ Q : VK, Q (.bl c) H → wpAny (model X.prog X.w) X.A (compareOp .In v u) (EP X pins σ Q) X.xe s) ∧ (∀ Q : VK, Q (.bl (!c)) H → wpAny (model X.prog X.w) X.A (compareOp .NotIn v u) (EP X pins σ Q) X.xe s) := by
    intro d ds e1 e2 e3 e4
    rw [Bool.and_eq_true] at e3
    have d1 := frz_dp r hx e1 e3.1
    have d2 : Dp X.K H y (.list (pys ds)) := by simpa only [D.py] using frz_dp r hy e2 e3.2
    have sh : SeqAt.shaped (.list (pys ds)) = true := by simpa only [D.shp, D.py] using e3.2
    have ec : ((pys ds).any fun z => PyData.eqv z d.py) = c := by
      rw [e4]
      clear e1 e2 e3 e4 d1 d2 sh
      induction ds with
      | nil => rfl
      | cons a l ih => simp only [pys, List.any_cons, ih, eqD]
    exact ⟨fun Q q => op_inD hu pins s σ H x y v u Q I rx ry ⟨_, _, d1, d2, e3.1, sh, by rw [ec]; exact q⟩, fun Q q => op_notInD hu pins s σ H x y v u Q I rx ry ⟨_, _, d1, d2, e3.1, sh, by rw [ec]; exact q⟩⟩
  have deepT : ∀ {d : D} {ds : List D}, frz st dx = some d → frz st dy = some (.tup ds) → (d.shp && (D.tup ds).shp) = true → c = (ds.any fun z => eqD z d) →
      (∀ Q : VK, Q (.bl c) H → wpAny (model X.prog X.w) X.A (compareOp .In v u) (EP X pins σ Q) X.xe s) ∧ (∀ Q : VK, Q (.bl (!c)) H → wpAny (model X.prog X.w) X.A (compareOp .NotIn v u) (EP X pins σ Q) X.xe s) := by
    intro d ds e1 e2 e3 e4
    rw [Bool.and_eq_true] at e3
    have d1 := frz_dp r hx e1 e3.1
    have d2 : Dp X.K H y (.tuple (pys ds)) := by simpa only [D.py] using frz_dp r hy e2 e3.2
    have sh : SeqAt.shaped (.tuple (pys ds)) = true := by simpa only [D.shp, D.py] using e3.2
    have ec : ((pys ds).any fun z => PyData.eqv z d.py) = c := by
      rw [e4]
      clear e1 e2 e3 e4 d1 d2 sh
      induction ds with
      | nil => rfl
      | cons a l ih => simp only [pys, List.any_cons, ih, eqD]
    obtain ⟨as, r1⟩ := Dp.reads I _ x v d1 rx
    obtain ⟨bs, r2⟩ := Dp.reads I _ y u d2 ry
    exact ⟨fun Q q => SeqAt.in_tuple_reads r2 r1 (SeqAt.canLay_of_shaped sh) (SeqAt.canLay_of_shaped e3.1) (room_in_shaped e3.1 hu) ⟨.bl _, H, I, rfl, by rw [ec]; exact q⟩,
      fun Q q => SeqAt.notIn_tuple_reads r2 r1 (SeqAt.canLay_of_shaped sh) (SeqAt.canLay_of_shaped e3.1) (room_in_shaped e3.1 hu) ⟨.bl _, H, I, rfl, by rw [ec]; exact q⟩⟩
  unfold inD at e
  split at e
  · split at e
    · cases hx; cases hy
      cases e
      exact ⟨fun Q q => op_in_str pins s σ H _ _ v u Q I rx ry ⟨_, _, rfl, rfl, q⟩, fun Q q => op_notin_str pins s σ H _ _ v u Q I rx ry ⟨_, _, rfl, rfl, q⟩⟩
    · cases e
  · split at e
    · rename_i ys hf
      cases e
      rw [Bool.and_eq_true] at hf
      cases hy with
      | tup hs hr =>
        have ei := inRep hx hf.1 hr hf.2
        exact ⟨fun Q q => op_in_seq pins s σ H _ _ v u Q I rx ry ⟨_, _, rfl, .inr (sqtUp r.sub hs), flatRep hx hf.1, flatReps hr hf.2, by
            rw [if_neg Bool.false_ne_true, ei]; exact q⟩,
          fun Q q => op_notIn_seq pins s σ H _ _ v u Q I rx ry ⟨_, _, rfl, .inr (sqtUp r.sub hs), flatRep hx hf.1, flatReps hr hf.2, by
            rw [if_pos rfl, ei]; exact q⟩⟩
    · split at e
      · rename_i e1 e2
        split at e
        · rename_i e3
          cases e
          exact deepT e1 (by
            show D.mapRef (readN st.length st) (.tup _) = _
            unfold frzs at e2
            simp only [D.mapRef, e2]) e3 rfl
        · cases e
      · cases e
  · split at e
    · split at e
      · rename_i e1 e2
        split at e
        · rename_i e3
          cases e
          exact deep e1 e2 e3 rfl
        · cases e
      · cases e
    · cases e
  · split at e
    · rename_i e1 e2
      split at e
      · rename_i e3
        cases e
        exact deep e1 e2 e3 rfl
      · cases e
    · cases e
  · cases e
theorem op_cmp (hu : X.A.units + 65 < cLine) (o : COp) : OpR X (compareOp (copOf o)) (rCmp X.K o) := by
  intro pins s σ H x y v u Q I rx ry ⟨F, ad, st, dx, dy, r, hx, hy, c, e, q⟩
  cases o with
  | eq =>
    simp only [cmpV] at e
    split at e
    · rename_i a b e1 e2
      split at e
      · rename_i e3
        rw [Bool.and_eq_true] at e3
        cases e
        exact op_eqD (by omega) pins s σ H x y v u Q I rx ry ⟨_, _, frz_dp r hx e1 e3.1, frz_dp r hy e2 e3.2, e3.1, e3.2, q⟩
      · cases e
    · cases e
  | ne =>
    simp only [cmpV] at e
    split at e
    · rename_i a b e1 e2
      split at e
      · rename_i e3
        rw [Bool.and_eq_true] at e3
        cases e
        exact op_neD (by omega) pins s σ H x y v u Q I rx ry ⟨_, _, frz_dp r hx e1 e3.1, frz_dp r hy e2 e3.2, e3.1, e3.2, q⟩
      · cases e
    · cases e
  | lt =>
    simp only [cmpV] at e
    split at e
    · cases hx; cases hy; cases e
      exact op_lt pins s σ H _ _ v u Q I rx ry ⟨_, _, rfl, rfl, q⟩
    · cases hx; cases hy; cases e
      exact op_lt_str pins s σ H _ _ v u Q I rx ry ⟨_, _, rfl, rfl, q⟩
    · cases e
  | le =>
    simp only [cmpV] at e
    split at e
    · cases hx; cases hy; cases e
      exact op_le pins s σ H _ _ v u Q I rx ry ⟨_, _, rfl, rfl, q⟩
    · cases e
  | gt =>
    simp only [cmpV] at e
    split at e
    · cases hx; cases hy; cases e
      exact op_gt pins s σ H _ _ v u Q I rx ry ⟨_, _, rfl, rfl, q⟩
    · cases e
  | ge =>
    simp only [cmpV] at e
    split at e
    · cases hx; cases hy; cases e
      exact op_ge pins s σ H _ _ v u Q I rx ry ⟨_, _, rfl, rfl, q⟩
    · cases hx; cases hy; cases e
      obtain ⟨t, rfl⟩ := rx
      obtain ⟨t', rfl⟩ := ry
      exact PySem.P.ge_str (fin_bl I q rfl)
    · cases e
  | isin =>
    exact (in_ok hu I rx ry r hx hy e).1 Q q
  | notin =>
    obtain ⟨b, e1, rfl⟩ := opt_map_not e
    exact (in_ok hu I rx ry r hx hy e1).2 Q q
  | is =>
    rcases isD_rep hx hy e with ⟨rfl, rfl⟩ | ⟨b, rfl, rfl⟩
    · exact op_isN pins s σ H _ _ v u Q I rx ry ⟨rfl, q⟩
    · exact op_isB pins s σ H _ _ v u Q I rx ry ⟨b, rfl, q⟩
  | isnot =>
    obtain ⟨c', e1, rfl⟩ := opt_map_not e
    rcases isD_rep hx hy e1 with ⟨rfl, rfl⟩ | ⟨b, rfl, rfl⟩
    · exact op_notN pins s σ H _ _ v u Q I rx ry ⟨rfl, q⟩
    · exact op_isnotB pins s σ H _ _ v u Q I rx ry ⟨b, rfl, q⟩

/-! ### subscripts -/
def rIxD (K : PySem.W.Frag) : R2 := fun x y H Q => ∃ F ad st dx dy d, RelS K F ad st H ∧ Rep K F ad x dx ∧ Rep K F ad y dy ∧ ixV st dx dy = some d ∧ ∀ v, Rep K F ad v d → Q v H
theorem atI_rep {K : PySem.W.Frag} {F : Hp} {ad : List Addr} {vs : List V} {ds : List D} {i : Int} {d : D} (h : Reps K F ad vs ds) (e : atI ds i = some d) : ∃ v, atI vs i = some v ∧ Rep K F ad v d := by
  unfold atI at e ⊢
  rw [h.length]
  cases q : ixN ds.length i with
  | none => rw [q] at e; cases e
  | some j =>
    rw [q] at e
    obtain ⟨v, h1, h2⟩ := h.get (i := j) (d := d) e
    exact ⟨v, h1, h2⟩
theorem ix_D : IxR X (rIxD X.K) := by
  intro value slice pins s σ H x y v u Q I rx ry ⟨F, ad, st, dx, dy, d, r, hx, hy, e, q⟩ hs
  unfold ixV at e
  split at e
  · cases hy
    split at e
    · cases hx
      split at e
      · rename_i hz
        obtain ⟨c, e1, e2⟩ := Option.map_eq_some_iff.mp e
        subst e2
        exact ix_str value slice pins s σ H _ _ v u Q I rx ry ⟨_, _, _, rfl, rfl, hz, e1, q _ (.str _)⟩ hs
      · cases e
    · split at e
      · rename_i xs hq
        obtain ⟨a, vs, rfl, ha, hr⟩ := seqOf_rep r hx hq
        obtain ⟨w, h1, h2⟩ := atI_rep hr e
        rcases ha with ha | ha
        · exact ix_list value slice pins s σ H _ _ v u Q I rx ry ⟨_, _, _, _, rfl, rfl, ha, h1, q _ h2⟩ hs
        · exact ix_tup value slice pins s σ H _ _ v u Q I rx ry ⟨_, _, _, _, rfl, rfl, ha, h1, q _ h2⟩ hs
      · cases e
  · cases e

/-! ### slices -/
def rSlD (K : PySem.W.Frag) (cls : Str → Option Addr) (ew : XK) : V → Option Int → Option Int → Hp → VK → Prop := fun x lo hi H Q => ∃ F ad st dx, RelS K F ad st H ∧ Rep K F ad x dx ∧ OkV K cls ew F ad H (slV dx lo hi st) Q
theorem cutA_len {α β : Type} {xs : List α} {ys : List β} (h : xs.length = ys.length) (lo hi : Option Int) : (HT.sIx xs.length 0 lo = HT.sIx ys.length 0 lo) ∧ HT.sIx xs.length xs.length hi = HT.sIx ys.length ys.length hi := by rw [h]; exact ⟨rfl, rfl⟩
theorem cut_rep {K : PySem.W.Frag} {F : Hp} {ad : List Addr} {vs : List V} {ds : List D} (h : Reps K F ad vs ds) (lo hi : Option Int) : Reps K F ad (cutV vs lo hi) (cutA ds lo hi) := by
  unfold cutV cutA
  rw [h.length]
  exact (h.drop _).take _
theorem sl_D : SlR X (rSlD X.K cls ew) := by
  intro pins s σ H x v vl vu lo hi sl Q I rx hs pl pu ⟨F, ad, st, dx, r, hx, ok⟩
  unfold slV at ok
  split at ok
  · cases hx
    split at ok
    · rename_i hz
      exact sl_str pins s σ H _ v vl vu lo hi sl Q I rx hs pl pu ⟨_, rfl, hz, ok.val r (.str _)⟩
    · exact ok.elim
  · cases hx with
    | tup h1 r1 =>
      split at ok
      · exact ok.elim
      · rename_i hw
        exact sl_tup pins s σ H _ v vl vu lo hi sl Q I rx hs pl pu ⟨_, _, rfl, sqtUp r.sub h1, by rw [r1.length]; exact hw, fun p hp => ok.tuple r (cut_rep r1 lo hi) hp⟩
  · split at ok
    · rename_i xs e
      obtain ⟨a, vs, rfl, ha, hr⟩ := listOf_rep r hx e
      exact sl_list pins s σ H _ v vl vu lo hi sl Q I rx hs pl pu ⟨_, _, rfl, SqL.of ha, fun p hp => ok.list r (cut_rep hr lo hi) hp⟩
    · exact ok.elim
end
end MP

/-! The built-in functions and methods by values. -/
namespace MP
open PySem PySem.Spec PyProof.Rows L2
section
variable {X : Cx} {cls : Str → Option Addr} {ew : XK}
def rBi (K : PySem.W.Frag) (cls : Str → Option Addr) (ew : XK) (f : List D → Sto → R Val) : List V → Hp → VK → Prop := fun vs H Q => ∃ F ad st ds, RelS K F ad st H ∧ Reps K F ad vs ds ∧ OkV K cls ew F ad H (f ds st) Q
theorem Rep.one {K : PySem.W.Frag} {F : Hp} {ad : List Addr} {v : V} {d : D} (h : Rep K F ad v d) : Reps K F ad [v] [d] := .cons h .nil
theorem Reps.one_of {K : PySem.W.Frag} {F : Hp} {ad : List Addr} {vs : List V} {d : D} (h : Reps K F ad vs [d]) : ∃ v, vs = [v] ∧ Rep K F ad v d := by
  cases h with
  | cons h r => cases r; exact ⟨_, rfl, h⟩
theorem Reps.two_of {K : PySem.W.Frag} {F : Hp} {ad : List Addr} {vs : List V} {d e : D} (h : Reps K F ad vs [d, e]) : ∃ v w, vs = [v, w] ∧ Rep K F ad v d ∧ Rep K F ad w e := by
  cases h with
  | cons h r =>
    obtain ⟨w, rfl, h2⟩ := Reps.one_of r
    exact ⟨_, _, rfl, h, h2⟩
theorem Reps.nil_of {K : PySem.W.Frag} {F : Hp} {ad : List Addr} {vs : List V} (h : Reps K F ad vs []) : vs = [] := by
  cases h; rfl

theorem one_ok {ds : List D} {f : D → R Val} {F : Hp} {ad : List Addr} {H : Hp} {Q : VK} {vs : List V} (ok : OkV X.K cls ew F ad H (one ds f) Q) (h : Reps X.K F ad vs ds) : ∃ v d, vs = [v] ∧ Rep X.K F ad v d ∧ OkV X.K cls ew F ad H (f d) Q := by
  unfold one at ok
  split at ok
  · obtain ⟨v, rfl, hx⟩ := Reps.one_of h
    exact ⟨v, _, rfl, hx, ok⟩
  · exact ok.elim
theorem two_ok {ds : List D} {f : D → D → R Val} {F : Hp} {ad : List Addr} {H : Hp} {Q : VK} {vs : List V} (ok : OkV X.K cls ew F ad H (two ds f) Q) (h : Reps X.K F ad vs ds) : ∃ v w d e, vs = [v, w] ∧ Rep X.K F ad v d ∧ Rep X.K F ad w e ∧ OkV X.K cls ew F ad H (f d e) Q := by
  unfold two at ok
  split at ok
  · obtain ⟨v, w, rfl, hx, hy⟩ := Reps.two_of h
    exact ⟨v, w, _, _, rfl, hx, hy, ok⟩
  · exact ok.elim
theorem zero_ok {ds : List D} {r : R Val} {F : Hp} {ad : List Addr} {H : Hp} {Q : VK} {vs : List V} (ok : OkV X.K cls ew F ad H (zero ds r) Q) (h : Reps X.K F ad vs ds) : vs = [] ∧ OkV X.K cls ew F ad H r Q := by
  unfold zero at ok
  split at ok
  · exact ⟨Reps.nil_of h, ok⟩
  · exact ok.elim
theorem onInts_ok {x : D} {st : Sto} {f : List Int → R Val} {F : Hp} {ad : List Addr} {H : Hp} {Q : VK} {v : V} (ok : OkV X.K cls ew F ad H (onInts x st f) Q) (r : RelS X.K F ad st H) (h : Rep X.K F ad v x) : ∃ a ns, v = .ref a ∧ H a = some (.lst (ns.map V.int)) ∧ OkV X.K cls ew F ad H (f ns) Q := by
  unfold onInts at ok
  split at ok
  · rename_i xs e
    obtain ⟨a, vs, rfl, ha, hr⟩ := listOf_rep r h e
    split at ok
    · rename_i ns en
      rw [intsOf_eq en] at hr
      have := hr.ints
      subst this
      exact ⟨a, ns, rfl, ha, ok⟩
    · exact ok.elim
  · exact ok.elim
theorem onBools_ok {x : D} {st : Sto} {f : List Bool → R Val} {F : Hp} {ad : List Addr} {H : Hp} {Q : VK} {v : V} (ok : OkV X.K cls ew F ad H (onBools x st f) Q) (r : RelS X.K F ad st H) (h : Rep X.K F ad v x) : ∃ a ns, v = .ref a ∧ H a = some (.lst (ns.map V.bl)) ∧ OkV X.K cls ew F ad H (f ns) Q := by
  unfold onBools at ok
  split at ok
  · rename_i xs e
    obtain ⟨a, vs, rfl, ha, hr⟩ := listOf_rep r h e
    split at ok
    · rename_i ns en
      rw [boolsOf_eq en] at hr
      have := hr.bools
      subst this
      exact ⟨a, ns, rfl, ha, ok⟩
    · exact ok.elim
  · exact ok.elim
theorem ite_ok {c : Prop} [Decidable c] {r : R Val} {F : Hp} {ad : List Addr} {H : Hp} {Q : VK} (ok : OkV X.K cls ew F ad H (if c then r else .stuck) Q) : c ∧ OkV X.K cls ew F ad H r Q := by
  by_cases h : c
  · rw [if_pos h] at ok; exact ⟨h, ok⟩
  · rw [if_neg h] at ok; exact ok.elim
theorem cr_lenD : CallR X (.builtin "len") (rBi X.K cls ew (biV .len)) := by
  intro pins s σ H vs us Q I rv ⟨F, ad, st, ds, r, hr, ok⟩
  obtain ⟨v, d, rfl, hx, ok⟩ := one_ok ok hr
  unfold lenV at ok
  split at ok
  · cases hx
    obtain ⟨hz, ok⟩ := ite_ok ok
    exact call_len pins s σ H _ us Q I rv ⟨_, _, rfl, ⟨hz, rfl⟩, ok.val r (.int _)⟩
  · split at ok
    · rename_i xs e
      obtain ⟨a, vs, rfl, ha, hr⟩ := seqOf_rep r hx e
      refine call_len pins s σ H _ us Q I rv ⟨_, vs.length, rfl, ?_, by rw [hr.length]; exact ok.val r (.int _)⟩
      rcases ha with ha | ha
      · exact .inl ⟨_, ha, rfl⟩
      · exact .inr ⟨_, ha, rfl⟩
    · exact ok.elim
theorem cr_sumD (hc : X.calm = true) : CallR X (.builtin "sum") (rBi X.K cls ew (biV .sum)) := by
  intro pins s σ H vs us Q I rv ⟨F, ad, st, ds, r, hr, ok⟩
  obtain ⟨v, d, rfl, hx, ok⟩ := one_ok ok hr
  obtain ⟨a, ns, rfl, ha, ok⟩ := onInts_ok ok r hx
  exact cr_sum hc pins s σ H _ us Q I rv ⟨_, _, rfl, SqL.of ha, ok.val r (.int _)⟩
theorem cr_anyD (hc : X.calm = true) : CallR X (.builtin "any") (rBi X.K cls ew (biV .any)) := by
  intro pins s σ H vs us Q I rv ⟨F, ad, st, ds, r, hr, ok⟩
  obtain ⟨v, d, rfl, hx, ok⟩ := one_ok ok hr
  obtain ⟨a, ns, rfl, ha, ok⟩ := onBools_ok ok r hx
  exact cr_any hc pins s σ H _ us Q I rv ⟨_, _, rfl, SqL.of ha, ok.val r (.bool _)⟩
theorem cr_allD (hc : X.calm = true) : CallR X (.builtin "all") (rBi X.K cls ew (biV .all)) := by
  intro pins s σ H vs us Q I rv ⟨F, ad, st, ds, r, hr, ok⟩
  obtain ⟨v, d, rfl, hx, ok⟩ := one_ok ok hr
  obtain ⟨a, ns, rfl, ha, ok⟩ := onBools_ok ok r hx
  exact cr_all hc pins s σ H _ us Q I rv ⟨_, _, rfl, SqL.of ha, ok.val r (.bool _)⟩
theorem sortI_of {ns ns' : List Int} (h : ns'.Perm ns) (h2 : ns'.Pairwise (· ≤ ·)) : ns' = sortI ns := by
  refine List.Perm.eq_of_pairwise (le := fun a b : Int => a ≤ b) (fun a b _ _ h1 h2 => Int.le_antisymm h1 h2) h2 ?_ (h.trans (List.mergeSort_perm ns _).symm)
  have := List.pairwise_mergeSort (le := fun a b : Int => decide (a ≤ b)) (fun a b c h1 h2 => by simp at *; omega) (fun a b => by simp; omega) ns
  unfold sortI
  exact this.imp fun h => by simpa using h
theorem cr_sortedD : CallR X (.builtin "sorted") (rBi X.K cls ew (biV .sorted)) := by
  intro pins s σ H vs us Q I rv ⟨F, ad, st, ds, r, hr, ok⟩
  obtain ⟨v, d, rfl, hx, ok⟩ := one_ok ok hr
  obtain ⟨a, ns, rfl, ha, ok⟩ := onInts_ok ok r hx
  obtain ⟨hz, ok⟩ := ite_ok ok
  exact cr_sorted pins s σ H _ us Q I rv ⟨_, _, rfl, SqL.of ha, hz, fun ns' p h1 h2 hp => by
    rw [sortI_of h1 h2]
    exact ok.list r (reps_ints _) hp⟩
theorem cr_toIntD : CallR X (.type "int") (rBi X.K cls ew (biV .toInt)) := by
  intro pins s σ H vs us Q I rv ⟨F, ad, st, ds, r, hr, ok⟩
  obtain ⟨v, d, rfl, hx, ok⟩ := one_ok ok hr
  unfold toIntV at ok
  split at ok
  · cases hx
    exact call_int1 pins s σ H _ us Q I rv (.inl ⟨_, rfl, ok.val r (.int _)⟩)
  · cases hx
    exact call_int1 pins s σ H _ us Q I rv (.inr ⟨_, rfl, ok.val r (.int _)⟩)
  · exact ok.elim
theorem cr_tupleD : CallR X (.type "tuple") (rBi X.K cls ew (biV .tupleOf)) := by
  intro pins s σ H vs us Q I rv ⟨F, ad, st, ds, r, hr, ok⟩
  obtain ⟨v, d, rfl, hx, ok⟩ := one_ok ok hr
  unfold tupV at ok
  split at ok
  · cases hx with
    | tup h1 r1 => exact call_tuple_of pins s σ H _ us Q I rv ⟨_, _, rfl, .inr ⟨sqtUp r.sub h1, ok.val r (.tup h1 r1)⟩⟩
  · split at ok
    · rename_i xs e
      obtain ⟨a, vs, rfl, ha, hr⟩ := listOf_rep r hx e
      exact call_tuple_of pins s σ H _ us Q I rv ⟨_, _, rfl, .inl ⟨SqL.of ha, fun p hp => ok.tuple r hr hp⟩⟩
    · exact ok.elim
theorem itemsOf_vals {P : Nat → Value → Prop} {g : Nat → V} (hg : ∀ i v, P i v → RelV (g i) v) {acc : Array Value} {n : Nat} (h : ItemsOf P acc n) : Vals ((List.range n).map g) acc.toList := by
  obtain ⟨h1, h2⟩ := h
  have key : ∀ (m : Nat) (l : List Value) (k : Nat), l.length = m → (∀ (j : Nat) (v : Value), l[j]? = some v → P (k + j) v) → Vals ((List.range' k m).map g) l := by
    intro m
    induction m with
    | zero =>
      intro l k hl _
      have : l = [] := List.length_eq_zero_iff.mp hl
      subst this
      exact .nil
    | succ m ih =>
      intro l k hl hp
      cases l with
      | nil => simp at hl
      | cons x r =>
        rw [List.range'_succ, List.map_cons]
        refine .cons (hg k x ?_) (ih r (k + 1) (by simpa using hl) fun j v hj => ?_)
        · have := hp 0 x (by simp)
          simpa using this
        · have := hp (j + 1) v (by simpa using hj)
          rw [show k + 1 + j = k + (j + 1) by omega]
          exact this
  rw [List.range_eq_range']
  exact key n acc.toList 0 (by simpa using h1) fun j v hj => by
    rw [Nat.zero_add]
    exact h2 j v (by simpa using hj)
theorem signs_map (x : Str) : (List.range x.cps.size).map (fun i => V.str ⟨#[x.cps.getD i 0]⟩) = x.cps.toList.map fun c => V.str ⟨#[c]⟩ := by
  apply List.ext_getElem
  · simp
  · intro i h1 h2
    have hi : i < x.cps.size := by simpa using h1
    simp [hi]
theorem reps_signs {K : PySem.W.Frag} {F : Hp} {ad : List Addr} : ∀ l : List Nat, Reps K F ad (l.map fun c => V.str ⟨#[c]⟩) (l.map sgn)
  | [] => .nil
  | c :: l => .cons (.str _) (reps_signs l)
theorem cr_listD (hc : X.calm = true) : CallR X (.type "list") (rBi X.K cls ew (biV .listOf)) := by
  intro pins s σ H vs us Q I rv ⟨F, ad, st, ds, r, hr, ok⟩
  obtain ⟨v, d, rfl, hx, ok⟩ := one_ok ok hr
  unfold listV at ok
  split at ok
  · cases hx
    rename_i z
    obtain ⟨hz, ok⟩ := ite_ok ok
    obtain ⟨u, rfl, t, rfl⟩ := vals1 rv
    refine PySem.call_list_str (I.ok.hd hc) z t (fun h' tk acc c' hk ho hi => ?_) hz
    have hv := itemsOf_vals (g := fun i => V.str ⟨#[z.cps.getD i 0]⟩) (fun i v ⟨c, u, h1, h2⟩ => ⟨u, by
      rw [h2, Array.getD_eq_getD_getElem?, h1]; rfl⟩) hi
    rw [signs_map] at hv
    exact ⟨.ref _, upd H s.heap.objs.size (.lst (z.cps.toList.map fun c => V.str ⟨#[c]⟩)), I.laid (t' := tk) hk (Nat.le_refl _) ⟨by simpa [Str.length] using hz, acc.toList, c', hv, by simpa using ho⟩, rfl, ok.list r (reps_signs _) (I.hok.fresh (Nat.le_refl _))⟩
  · split at ok
    · rename_i xs e
      obtain ⟨a, vs, rfl, ha, hr⟩ := seqOf_rep r hx e
      exact call_list_of pins s σ H _ us Q I rv ⟨_, _, rfl, ha, fun p hp => ok.list r hr hp⟩
    · exact ok.elim
theorem cr_max2D (hc : X.calm = true) : CallR X (.builtin "max") (rBi X.K cls ew (biV .max2)) := by
  intro pins s σ H vs us Q I rv ⟨F, ad, st, ds, r, hr, ok⟩
  obtain ⟨v, w, d, e, rfl, hx, hy, ok⟩ := two_ok ok hr
  obtain ⟨i, j, rfl, rfl, ok⟩ := intV_ok ok hx hy
  exact call_max2 hc pins s σ H _ us Q I rv ⟨_, _, rfl, ok.val r (.int _)⟩
theorem foldl_max : ∀ (r : List Int) (x : Int), (r.foldl (fun m y => if y > m then y else m) x ∈ x :: r) ∧ ∀ y ∈ x :: r, y ≤ r.foldl (fun m y => if y > m then y else m) x
  | [], x => ⟨by simp, by simp⟩
  | a :: r, x => by
    obtain ⟨h1, h2⟩ := foldl_max r (if a > x then a else x)
    refine ⟨?_, fun y hy => ?_⟩
    · rw [List.foldl_cons]
      rcases List.mem_cons.mp h1 with h | h
      · rw [h]; split <;> simp
      · simp [h]
    · rw [List.foldl_cons]
      have h0 := h2 (if a > x then a else x) (by simp)
      rcases List.mem_cons.mp hy with e | hy
      · have : y ≤ (if a > x then a else x) := by split <;> omega
        exact Int.le_trans this h0
      · rcases List.mem_cons.mp hy with e | hy
        · have : y ≤ (if a > x then a else x) := by split <;> omega
          exact Int.le_trans this h0
        · exact h2 y (by simp [hy])
theorem foldl_min : ∀ (r : List Int) (x : Int), (r.foldl (fun m y => if y < m then y else m) x ∈ x :: r) ∧ ∀ y ∈ x :: r, r.foldl (fun m y => if y < m then y else m) x ≤ y
  | [], x => ⟨by simp, by simp⟩
  | a :: r, x => by
    obtain ⟨h1, h2⟩ := foldl_min r (if a < x then a else x)
    refine ⟨?_, fun y hy => ?_⟩
    · rw [List.foldl_cons]
      rcases List.mem_cons.mp h1 with h | h
      · rw [h]; split <;> simp
      · simp [h]
    · rw [List.foldl_cons]
      have h0 := h2 (if a < x then a else x) (by simp)
      rcases List.mem_cons.mp hy with e | hy
      · have : (if a < x then a else x) ≤ y := by split <;> omega
        exact Int.le_trans h0 this
      · rcases List.mem_cons.mp hy with e | hy
        · have : (if a < x then a else x) ≤ y := by split <;> omega
          exact Int.le_trans h0 this
        · exact h2 y (by simp [hy])
theorem maxI_of {ns : List Int} {m : Int} (h0 : 0 < ns.length) (h1 : m ∈ ns) (h2 : ∀ y ∈ ns, y ≤ m) : m = maxI ns := by
  cases ns with
  | nil => simp at h0
  | cons x r =>
    obtain ⟨a, b⟩ := foldl_max r x
    exact Int.le_antisymm (b m h1) (h2 _ a)
theorem minI_of {ns : List Int} {m : Int} (h0 : 0 < ns.length) (h1 : m ∈ ns) (h2 : ∀ y ∈ ns, m ≤ y) : m = minI ns := by
  cases ns with
  | nil => simp at h0
  | cons x r =>
    obtain ⟨a, b⟩ := foldl_min r x
    exact Int.le_antisymm (h2 _ a) (b m h1)
theorem cr_maxLD (hc : X.calm = true) : CallR X (.builtin "max") (rBi X.K cls ew (biV .maxL)) := by
  intro pins s σ H vs us Q I rv ⟨F, ad, st, ds, r, hr, ok⟩
  obtain ⟨v, d, rfl, hx, ok⟩ := one_ok ok hr
  obtain ⟨a, ns, rfl, ha, ok⟩ := onInts_ok ok r hx
  obtain ⟨hz, ok⟩ := ite_ok ok
  exact cr_max hc pins s σ H _ us Q I rv ⟨_, _, rfl, SqL.of ha, hz, fun m h1 h2 => by
    rw [maxI_of hz h1 h2]; exact ok.val r (.int _)⟩
theorem cr_minLD (hc : X.calm = true) : CallR X (.builtin "min") (rBi X.K cls ew (biV .minL)) := by
  intro pins s σ H vs us Q I rv ⟨F, ad, st, ds, r, hr, ok⟩
  obtain ⟨v, d, rfl, hx, ok⟩ := one_ok ok hr
  obtain ⟨a, ns, rfl, ha, ok⟩ := onInts_ok ok r hx
  obtain ⟨hz, ok⟩ := ite_ok ok
  exact cr_min hc pins s σ H _ us Q I rv ⟨_, _, rfl, SqL.of ha, hz, fun m h1 h2 => by
    rw [minI_of hz h1 h2]; exact ok.val r (.int _)⟩
/-- max(xs, default=0) -/
theorem maxd_list {prog : Program} {w : World} {A : Around} {E : Value → Shared → Prop} {s : Shared} {l : Addr} {its : List Value} {ns : List Int} {t0 : Tok} {Q : Value → Shared → Prop} (hh : A.handled = none) (hl : s.heap.IsList l its.toArray) (hi : IntsAre its ns)
    (h : ∀ (h' : Heap) (tk : Nat) (t : Tok), (∀ (b : Addr) (o : Obj), s.heap.get? b = some o → h'.get? b = some o) → Q (Value.int (maxI ns) t) { heap := h', gens := s.gens, drawn := s.drawn, toks := tk, os := s.os }) :
    wpAny (model prog w) A (call (Value.builtin "max") [Value.ref l] [("default", Value.int 0 t0)]) Q E s := by
  obtain ⟨xs, e⟩ := AllInts.items (IntsAre.allInts hi)
  have hns : ns = xs.toList.map (·.1) := by
    rw [← IntsAre.numsOf hi, ← nums_intItems xs, ← e]
  rw [e] at hl
  refine maxd_raw hh hl fun v h' tk hv hk => ?_
  by_cases hz : xs.size = 0
  · rw [if_pos hz] at hv
    have : ns = [] := by
      rw [hns]
      have : xs.toList = [] := List.length_eq_zero_iff.mp (by simpa using hz)
      rw [this]; rfl
    rw [hv]
    have := h h' tk t0 hk
    rwa [‹ns = []›] at this
  · rw [if_neg hz] at hv
    obtain ⟨t, rfl⟩ := intItems_at hv
    obtain ⟨h1, h2⟩ := argBest_gt (numAt xs) (xs.size - 1)
    have hl2 : (xs.toList.map (·.1)).length = xs.size := by simp
    have e2 : numAt xs (argBest (fun i j => decide (numAt xs i > numAt xs j)) (xs.size - 1)) = maxI ns := by
      refine maxI_of (by rw [hns, hl2]; omega) ?_ fun y hy => ?_
      · rw [numAt_eq, hns]
        exact PySem.getD_mem (by rw [hl2]; omega)
      · rw [hns] at hy
        obtain ⟨j, hj, ej⟩ := List.getElem_of_mem hy
        have := h2 j (by rw [hl2] at hj; omega)
        rw [numAt_eq xs j, List.getD_eq_getElem?_getD, List.getElem?_eq_getElem hj] at this
        simpa [← ej] using this
    rw [e2]
    exact h h' tk t hk
def rMaxK (K : PySem.W.Frag) (cls : Str → Option Addr) (ew : XK) : List V → List V → Hp → VK → Prop := fun xs zs H Q => zs = [.int 0] ∧ rBi K cls ew (biV .maxD0) xs H Q
theorem cr_maxD0 (hc : X.calm = true) : CallRK X (.builtin "max") ["default"] (rMaxK X.K cls ew) := by
  intro pins s σ H xs zs us ws Q I rv rz ⟨hz, F, ad, st, ds, r, hr, ok⟩
  subst hz
  obtain ⟨v, d, rfl, hx, ok⟩ := one_ok ok hr
  obtain ⟨a, ns, rfl, ha, ok⟩ := onInts_ok ok r hx
  obtain ⟨its, rv', hl, _⟩ := Inv.list I (SqL.of ha)
  rw [Vals.ref1 rv]
  obtain ⟨u, rfl, t0, rfl⟩ := vals1 rz
  exact maxd_list (I.ok.hd hc) (PlainL.isList hl) (Vals.ints rv') fun h' tk t hk => ⟨.int (maxI ns), H, Inv.kept I hk, ⟨t, rfl⟩, ok.val r (.int _)⟩
/-! isinstance(x, T) -/
theorem tyOf_rep {K : PySem.W.Frag} {F : Hp} {ad : List Addr} {st : Sto} {H : Hp} {v : V} {d : D} {t : String} (r : RelS K F ad st H) (h : Rep K F ad v d) (e : tyOf st d = some t) : TyX K H v (.type t) ∧ (t = "NoneType" ∨ t = "bool" ∨ t = "int" ∨ t = "str" ∨ t = "list" ∨ t = "tuple") := by
  cases h with
  | none => simp only [tyOf, Option.some.injEq] at e; subst e; exact ⟨.base .non, by simp⟩
  | bool b => simp only [tyOf, Option.some.injEq] at e; subst e; exact ⟨.base (.bl b), by simp⟩
  | int b => simp only [tyOf, Option.some.injEq] at e; subst e; exact ⟨.base (.int b), by simp⟩
  | str b => simp only [tyOf, Option.some.injEq] at e; subst e; exact ⟨.base (.str b), by simp⟩
  | scr h => simp only [tyOf] at e; cases e
  | list h _ => simp only [tyOf, Option.some.injEq] at e; subst e; exact ⟨.base (.lst (r.sub _ _ h)), by simp⟩
  | tup h _ =>
    simp only [tyOf, Option.some.injEq] at e; subst e
    refine ⟨?_, by simp⟩
    rcases h with (h | ⟨o, h⟩) | ⟨o, its, n, h, hc, _⟩
    · exact .base (.tup (r.sub _ _ h))
    · exact .fTuple (r.sub _ _ h)
    · exact .kTuple h hc
  | ref ha =>
    simp only [tyOf] at e
    split at e
    · rename_i xs hx
      simp only [Option.some.injEq] at e; subst e
      obtain ⟨vs, h1, h2⟩ := r.cell _ _ _ hx ha
      exact ⟨.base (.lst h1), by simp⟩
    · cases e
theorem kit_all (T t : String) (hT : T = "bool" ∨ T = "int" ∨ T = "str" ∨ T = "list" ∨ T = "tuple") (ht : t = "NoneType" ∨ t = "bool" ∨ t = "int" ∨ t = "str" ∨ t = "list" ∨ t = "tuple") : kitB t T = some (isinstT T t) := by
  rcases hT with rfl | rfl | rfl | rfl | rfl <;> rcases ht with rfl | rfl | rfl | rfl | rfl | rfl <;> decide +kernel
/-- x, T: the type is written -/
def rIsiD (K : PySem.W.Frag) (cls : Str → Option Addr) (ew : XK) (T : String) : List V → Hp → VK → Prop := fun vs H Q => ∃ v, vs = [v, .ty T] ∧ rBi K cls ew (biV (.isinst T)) [v] H Q
theorem cr_isiD (T : String) (hT : T = "bool" ∨ T = "int" ∨ T = "str" ∨ T = "list" ∨ T = "tuple") : CallR X (.builtin "isinstance") (rIsiD X.K cls ew T) := by
  intro pins s σ H vs us Q I rv ⟨v, ev, F, ad, st, ds, r, hr, ok⟩
  subst ev
  obtain ⟨v', d, e', hx, ok⟩ := one_ok ok hr
  cases e'
  unfold isinstV at ok
  split at ok
  · rename_i t e
    obtain ⟨h1, h2⟩ := tyOf_rep r hx e
    exact call_isi pins s σ H _ us Q I rv ⟨_, _, _, _, _, rfl, .ty T, h1, kit_ty (kit_all T t hT h2), ok.val r (.bool _)⟩
  · exact ok.elim

/-! list(range(..)) -/
theorem cr_range1 : CallR X (.type "range") (fun vs H Q => ∃ i, vs = [V.int i] ∧ ∀ p, H p = none → Q (.ref p) (upd H p (.rng 0 i))) := by
  intro pins s σ H vs us Q I rv ⟨i, e, q⟩
  subst e
  obtain ⟨u, rfl, t, rfl⟩ := vals1 rv
  refine call_range_1 ⟨.ref s.heap.objs.size, upd H s.heap.objs.size (.rng 0 i), I.laid (t' := s.toks + 1 + 1) (fun b o e => Heap.get?_push_of_some _ e) (Nat.le_refl _) ?_, rfl, q _ (I.hok.fresh (Nat.le_refl _))⟩
  exact ⟨_, _, _, Heap.get?_push_size _ rfl⟩
theorem range_map (a : Int) (n : Nat) : (List.range n).map (fun (i : Nat) => V.int (a + (i : Int) * 1)) = (rangeI a n).map V.int := by
  unfold rangeI
  rw [List.map_map]
  apply List.map_congr_left
  intro k _
  simp
theorem cr_listR (hc : X.calm = true) : CallR X (.type "list") (fun vs H Q => ∃ p lo hi, vs = [V.ref p] ∧ H p = some (.rng lo hi) ∧ (hi - lo ≤ sizeLine ∧ -(2 ^ 62) ≤ lo ∧ lo < 2 ^ 62 ∧ -(2 ^ 62) ≤ hi ∧ hi < 2 ^ 62) ∧ ∀ q, H q = none → Q (.ref q) (upd H q (.lst ((rangeI lo (hi - lo).toNat).map V.int)))) := by
  intro pins s σ H vs us Q I rv ⟨p, lo, hi, e, hp, ⟨hz, h1, h2, h3, h4⟩, q⟩
  subst e
  rw [Vals.ref1 rv]
  obtain ⟨t, u, v, e⟩ := (show ObjOk X.prog X.w H s.heap p (.rng lo hi) from I.hok p _ hp)
  have hs : sizeLine = 16777216 := sizeLine_eq
  refine PySem.call_list_range (n := (hi - lo).toNat) (I.ok.hd hc) e (small_one h1 h2 h3 h4) ?_ (by omega) fun h' tk acc c' hk ho hi' => ?_
  · rw [rangeSize_one]; split <;> omega
  · have hv := itemsOf_vals (g := fun (i : Nat) => V.int (lo + (i : Int) * 1)) (fun i v ⟨t, h⟩ => ⟨t, h⟩) hi'
    rw [range_map] at hv
    exact ⟨.ref _, upd H s.heap.objs.size (.lst ((rangeI lo (hi - lo).toNat).map V.int)), I.laid (t' := tk) hk (Nat.le_refl _) ⟨by simp [rangeI]; omega, acc.toList, c', hv, by simpa using ho⟩, rfl, q _ (I.hok.fresh (Nat.le_refl _))⟩

/-! methods of lists -/
theorem onCell_ok {x : D} {st : Sto} {f : Nat → List D → R Val} {F : Hp} {ad : List Addr} {H : Hp} {Q : VK} {v : V} (ok : OkV X.K cls ew F ad H (onCell x st f) Q) (r : RelS X.K F ad st H) (h : Rep X.K F ad v x) :
    ∃ a n xs vs, v = .ref a ∧ (ad[n]? = some a ∧ st[n]? ≠ some .dead) ∧ H a = some (.lst vs) ∧ Reps X.K F ad vs xs ∧ OkV X.K cls ew F ad H (f n xs) Q := by
  unfold onCell at ok
  split at ok
  · cases h with
    | ref ha =>
      split at ok
      · rename_i xs e
        obtain ⟨vs, h1, h2⟩ := r.cell _ _ _ e ha
        exact ⟨_, _, xs, vs, rfl, ⟨ha, by rw [e]; intro z; cases z⟩, h1, h2, ok⟩
      · exact ok.elim
  · exact ok.elim
/-- a method, by values -/
def rMt (K : PySem.W.Frag) (cls : Str → Option Addr) (ew : XK) (m : MT) : V → List V → Hp → VK → Prop := fun x vs H Q => ∃ F ad st d ds, RelS K F ad st H ∧ Rep K F ad x d ∧ Reps K F ad vs ds ∧ OkV K cls ew F ad H (mtV m d ds st) Q
theorem mt_appendD : MtM X "list.append" (rMt X.K cls ew .append) := by
  intro pins s σ H x vs v us Q I rx rv ⟨F, ad, st, d, ds, r, hx, hr, ok⟩
  obtain ⟨w, e, rfl, hy, ok⟩ := one_ok ok hr
  obtain ⟨a, n, xs, ws, rfl, ha, hH, hw, ok⟩ := onCell_ok ok r hx
  obtain ⟨hz, ok⟩ := ite_ok ok
  exact mt_append pins s σ H _ _ v us Q I rx rv ⟨_, _, _, rfl, rfl, hH, by rw [hw.length]; exact hz, ok.wrote r ha ⟨_, upd_same, hw.append hy.one⟩ .none⟩
theorem mt_extendD : MtM X "list.extend" (rMt X.K cls ew .extend) := by
  intro pins s σ H x vs v us Q I rx rv ⟨F, ad, st, d, ds, r, hx, hr, ok⟩
  obtain ⟨w, e, rfl, hy, ok⟩ := one_ok ok hr
  obtain ⟨a, n, xs, ws, rfl, ha, hH, hw, ok⟩ := onCell_ok ok r hx
  split at ok
  · rename_i ys ey
    obtain ⟨b, zs, rfl, hb, hz⟩ := listOf_rep r hy ey
    obtain ⟨hl, ok⟩ := ite_ok ok
    exact mt_extend pins s σ H _ _ v us Q I rx rv ⟨_, _, _, _, rfl, rfl, hH, hb, by rw [hw.length, hz.length]; exact hl, ok.wrote r ha ⟨_, upd_same, hw.append hz⟩ .none⟩
  · exact ok.elim
theorem mt_pop0D : MtM X "list.pop" (fun x vs H Q => vs = [] ∧ rMt X.K cls ew .pop0 x vs H Q) := by
  intro pins s σ H x vs v us Q I rx rv ⟨_, F, ad, st, d, ds, r, hx, hr, ok⟩
  obtain ⟨rfl, ok⟩ := zero_ok ok hr
  obtain ⟨a, n, xs, ws, rfl, ha, hH, hw, ok⟩ := onCell_ok ok r hx
  unfold popV at ok
  split at ok
  · rename_i y ey
    obtain ⟨w, h1, h2⟩ := hw.get ey
    exact mt_pop pins s σ H _ _ v us Q I rx rv ⟨_, _, _, rfl, rfl, hH, by rw [hw.length]; exact h1, ok.wrote r ha ⟨_, upd_same, hw.dropLast⟩ h2⟩
  · exact ok.elim
theorem mt_popAtD : MtM X "list.pop" (rMt X.K cls ew .popAt) := by
  intro pins s σ H x vs v us Q I rx rv ⟨F, ad, st, d, ds, r, hx, hr, ok⟩
  obtain ⟨w, e, rfl, hy, ok⟩ := one_ok ok hr
  obtain ⟨a, n, xs, ws, rfl, ha, hH, hw, ok⟩ := onCell_ok ok r hx
  unfold popAtV at ok
  split at ok
  · cases hy
    obtain ⟨hz, ok⟩ := ite_ok ok
    split at ok
    · rename_i k ek
      split at ok
      · rename_i y ey
        obtain ⟨w, h1, h2⟩ := hw.get ey
        exact mt_popAt pins s σ H _ _ v us Q I rx rv ⟨_, _, _, k, _, rfl, rfl, hH, hz.1, hz.2, by rw [hw.length]; exact (ixN_seq ek).1, h1, ok.wrote r ha ⟨_, upd_same, hw.eraseIdx k⟩ h2⟩
      · exact ok.elim
    · exact ok.elim
  · exact ok.elim
theorem mt_reverseD : MtM X "list.reverse" (rMt X.K cls ew .reverse) := by
  intro pins s σ H x vs v us Q I rx rv ⟨F, ad, st, d, ds, r, hx, hr, ok⟩
  obtain ⟨rfl, ok⟩ := zero_ok ok hr
  obtain ⟨a, n, xs, ws, rfl, ha, hH, hw, ok⟩ := onCell_ok ok r hx
  exact mt_reverse pins s σ H _ _ v us Q I rx rv ⟨_, _, rfl, rfl, hH, ok.wrote r ha ⟨_, upd_same, hw.reverse⟩ .none⟩
theorem mt_clearD : MtM X "list.clear" (rMt X.K cls ew .clear) := by
  intro pins s σ H x vs v us Q I rx rv ⟨F, ad, st, d, ds, r, hx, hr, ok⟩
  obtain ⟨rfl, ok⟩ := zero_ok ok hr
  obtain ⟨a, n, xs, ws, rfl, ha, hH, hw, ok⟩ := onCell_ok ok r hx
  exact mt_clear pins s σ H _ _ v us Q I rx rv ⟨_, _, rfl, rfl, hH, ok.wrote r ha ⟨_, upd_same, .nil⟩ .none⟩
theorem mt_insertD : MtM X "list.insert" (rMt X.K cls ew .insert) := by
  intro pins s σ H x vs v us Q I rx rv ⟨F, ad, st, d, ds, r, hx, hr, ok⟩
  obtain ⟨w1, w2, e1, e2, rfl, hi, hy, ok⟩ := two_ok ok hr
  obtain ⟨a, n, xs, ws, rfl, ha, hH, hw, ok⟩ := onCell_ok ok r hx
  split at ok
  · cases hi
    obtain ⟨hz, ok⟩ := ite_ok ok
    exact mt_insert pins s σ H _ _ v us Q I rx rv ⟨_, _, _, _, rfl, rfl, hH, by rw [hw.length]; exact hz.1, hz.2.1, hz.2.2, ok.wrote r ha ⟨_, upd_same, ((hw.take _).append hy.one).append (hw.drop _)⟩ .none⟩
  · exact ok.elim
theorem pys_get : ∀ (ts : List D) (i : Nat), (pys ts)[i]? = (ts[i]?).map D.py
  | [], _ => rfl
  | a :: l, 0 => rfl
  | a :: l, i + 1 => by simpa only [pys, List.getElem?_cons_succ] using pys_get l i
theorem mt_indexD' (hu : X.A.units + 65 < cLine) : MtM X "list.index" (rMt X.K cls ew .index) := by
  intro pins s σ H x vs v us Q I rx rv ⟨F, ad, st, d, ds, r, hx, hr, ok⟩
  obtain ⟨w, e, rfl, hy, ok⟩ := one_ok ok hr
  have ok : OkV X.K cls ew F ad H (indexV d e st) Q := ok
  unfold indexV at ok
  split at ok
  · rename_i ts t e1 e2
    obtain ⟨hs, ok⟩ := ite_ok ok
    rw [Bool.and_eq_true] at hs
    split at ok
    · rename_i j ej
      have d1 : Dp X.K H x (.list (pys ts)) := by simpa only [D.py] using frz_dp r hx e1 hs.2
      have d2 := frz_dp r hy e2 hs.1
      have sh : SeqAt.shaped (.list (pys ts)) = true := by simpa only [D.shp, D.py] using hs.2
      have hp : ∀ (i : Nat), (pys ts)[i]? = (ts[i]?).map D.py := pys_get ts
      obtain ⟨hj, h1, h2⟩ := List.findIdx?_eq_some_iff_getElem.mp ej
      cases d1 with
      | lst hq ha =>
        refine mt_indexD hu pins s σ H _ _ v us Q I rx rv ⟨_, _, t.py, pys ts, j, (ts[j]).py, rfl, rfl, .lst hq ha, d2, sh, hs.1, ?_, h1, fun m z hm hz => ?_, ok.val r (.int _)⟩
        · rw [hp, List.getElem?_eq_getElem hj]; rfl
        · rw [hp] at hz
          obtain ⟨z', hz1, hz2⟩ := Option.map_eq_some_iff.mp hz
          subst hz2
          have hm' : m < ts.length := by omega
          rw [List.getElem?_eq_getElem hm'] at hz1
          cases hz1
          have := h2 m hm
          simpa [eqD] using this
    · exact ok.elim
  · exact ok.elim
end
end MP

/-! Composition; calls. -/
namespace MP
open PySem PySem.Spec PyProof.Rows L2

section
variable {K : PySem.W.Frag} {cls : Str → Option Addr} {ew : XK} {F F1 : Hp} {ad ad1 : List Addr} {H H1 : Hp} {st st1 : Sto} {Q : VK}
theorem OkV.bindX {r : R Val} {f : Val → Sto → R Val} (h : OkV K cls ew F ad H (r.bind f) Q) {Q' : VK}
    (k : ∀ x st' F' ad' H' v, Step F ad H F' ad' H' → RelS K F' ad' st' H' → RepX K H F' ad' H' v x → OkV K cls ew F ad H (f x st') Q → Q' v H') : OkV K cls ew F ad H r Q' := by
  cases r with
  | ok x st' => exact fun F' ad' H' v s r q => k x st' F' ad' H' v s r q h
  | err c st' => exact h
  | stuck => exact h
/-- .. what is made is frozen -/
theorem OkV.bindF {r : R Val} {f : Val → Sto → R Val} (h : OkV K cls ew F ad H (r.bind f) Q) {Q' : VK}
    (k : ∀ x st' F' ad' H' v, Step F ad H F' ad' H' → RelS K F' ad' st' H' → Rep K F' ad' v x.d → OkV K cls ew F' ad' H' (f x st') Q → Q' v H') : OkV K cls ew F ad H r Q' :=
  h.bindX fun x st' F' ad' H' v s r q ok => by
    obtain ⟨F'', s', r', q'⟩ := freezeX s r q
    exact k x st' F'' ad' H' v s' r' q' (ok.step s')
/-- lists of values -/
def OkL (K : PySem.W.Frag) (cls : Str → Option Addr) (ew : XK) (F : Hp) (ad : List Addr) (H : Hp) (r : R (List D)) (Q : List V → Hp → Prop) : Prop := match r with
  | .ok ds st' => ∀ F' ad' H' vs, Step F ad H F' ad' H' → RelS K F' ad' st' H' → Reps K F' ad' vs ds → Q vs H'
  | .err c st' => ∀ F' ad' H' a, Step F ad H F' ad' H' → RelS K F' ad' st' H' → cls c = some a → ew (.ref a) none H'
  | .stuck => False
theorem OkL.step (s : Step F ad H F1 ad1 H1) {r : R (List D)} {Q : List V → Hp → Prop} (h : OkL K cls ew F ad H r Q) : OkL K cls ew F1 ad1 H1 r Q := by
  cases r with
  | ok x st' => exact fun F' ad' H' v s' r' x' => h F' ad' H' v (s.trans s') r' x'
  | err c st' => exact fun F' ad' H' a s' r' e => h F' ad' H' a (s.trans s') r' e
  | stuck => exact h
theorem OkV.bindL {r : R (List D)} {f : List D → Sto → R Val} (h : OkV K cls ew F ad H (r.bind f) Q) {Q' : List V → Hp → Prop}
    (k : ∀ x st' F' ad' H' v, Step F ad H F' ad' H' → RelS K F' ad' st' H' → Reps K F' ad' v x → OkV K cls ew F' ad' H' (f x st') Q → Q' v H') : OkL K cls ew F ad H r Q' := by
  cases r with
  | ok x st' => exact fun F' ad' H' v s r q => k x st' F' ad' H' v s r q (OkV.step s h)
  | err c st' => exact h
  | stuck => exact h
theorem OkL.bindF {r : R Val} {f : Val → Sto → R (List D)} {Q : List V → Hp → Prop} (h : OkL K cls ew F ad H (r.bind f) Q) {Q' : VK}
    (k : ∀ x st' F' ad' H' v, Step F ad H F' ad' H' → RelS K F' ad' st' H' → Rep K F' ad' v x.d → OkL K cls ew F' ad' H' (f x st') Q → Q' v H') : OkV K cls ew F ad H r Q' := by
  cases r with
  | ok x st' =>
    intro F' ad' H' v s r q
    obtain ⟨F'', s', r', q'⟩ := freezeX s r q
    exact k x st' F'' ad' H' v s' r' q' (OkL.step s' h)
  | err c st' => exact h
  | stuck => exact h
theorem OkL.bindL {r : R (List D)} {f : List D → Sto → R (List D)} {Q : List V → Hp → Prop} (h : OkL K cls ew F ad H (r.bind f) Q) {Q' : List V → Hp → Prop}
    (k : ∀ x st' F' ad' H' v, Step F ad H F' ad' H' → RelS K F' ad' st' H' → Reps K F' ad' v x → OkL K cls ew F' ad' H' (f x st') Q → Q' v H') : OkL K cls ew F ad H r Q' := by
  cases r with
  | ok x st' => exact fun F' ad' H' v s r q => k x st' F' ad' H' v s r q (OkL.step s h)
  | err c st' => exact h
  | stuck => exact h
/-- a call's end -/
def OkD (K : PySem.W.Frag) (cls : Str → Option Addr) (ew : XK) (F : Hp) (ad : List Addr) (H : Hp) (r : R D) (Q : VK) : Prop := match r with
  | .ok d st' => ∀ F' ad' H' v, Step F ad H F' ad' H' → RelS K F' ad' st' H' → Rep K F' ad' v d → Q v H'
  | .err c st' => ∀ F' ad' H' a, Step F ad H F' ad' H' → RelS K F' ad' st' H' → cls c = some a → ew (.ref a) none H'
  | .stuck => False
end

/-! ### trees beyond a frame -/
mutual
theorem D.noref_map {g : Nat → Option D} : ∀ {d : D}, d.noref = true → d.mapRef g = some d
  | .none, _ => rfl
  | .bool _, _ => rfl
  | .int _, _ => rfl
  | .str _, _ => rfl
  | .scr _, _ => rfl
  | .list xs, h => by
    simp only [D.noref] at h
    simp only [D.mapRef, norefs_map h]
  | .tup xs, h => by
    simp only [D.noref] at h
    simp only [D.mapRef, norefs_map h]
  | .dk ks vs, h => by
    simp only [D.noref] at h
    simp only [D.mapRef, norefs_map h]
  | .dt ks vs, h => by
    simp only [D.noref] at h
    simp only [D.mapRef, norefs_map h]
  | .ref _, h => by cases h
theorem norefs_map {g : Nat → Option D} : ∀ {ds : List D}, norefs ds = true → mapRefs g ds = some ds
  | [], _ => rfl
  | d :: ds, h => by
    simp only [norefs, Bool.and_eq_true] at h
    simp only [mapRefs, D.noref_map h.1, norefs_map h.2]
end
section
variable {K : PySem.W.Frag} {F F' : Hp} {ad ad' : List Addr}
mutual
theorem Rep.cut : ∀ {v : V} {d : D}, Rep K F ad v d → d.noref = true → Rep K F ad' v d
  | _, _, .none, _ => .none
  | _, _, .bool b, _ => .bool b
  | _, _, .int i, _ => .int i
  | _, _, .str x, _ => .str x
  | _, _, .scr h, _ => .scr h
  | _, _, .list h r, n => .list h (Reps.cut r (by simpa only [D.noref] using n))
  | _, _, .tup h r, n => .tup h (Reps.cut r (by simpa only [D.noref] using n))
  | _, _, .ref h, n => by cases n
theorem Reps.cut : ∀ {vs : List V} {ds : List D}, Reps K F ad vs ds → norefs ds = true → Reps K F ad' vs ds
  | _, _, .nil, _ => .nil
  | _, _, .cons h r, n => by
    simp only [norefs, Bool.and_eq_true] at n
    exact .cons (Rep.cut h n.1) (Reps.cut r n.2)
end
mutual
theorem Rep.thaw (g : Nat → Option D) (hg : ∀ (n : Nat) (t : D) (a : Addr), g n = some t → ad[n]? = some a → Rep K F' ad' (.ref a) t) (le : ∀ a o, F a = some o → F' a = some o) : ∀ {v : V} {d t : D}, Rep K F ad v d → d.mapRef g = some t → Rep K F' ad' v t
  | _, _, _, .none, h => by simp only [D.mapRef, Option.some.injEq] at h; subst h; exact .none
  | _, _, _, .bool b, h => by simp only [D.mapRef, Option.some.injEq] at h; subst h; exact .bool b
  | _, _, _, .int b, h => by simp only [D.mapRef, Option.some.injEq] at h; subst h; exact .int b
  | _, _, _, .str b, h => by simp only [D.mapRef, Option.some.injEq] at h; subst h; exact .str b
  | _, _, _, .scr b, h => by simp only [D.mapRef, Option.some.injEq] at h; subst h; exact .scr (sqlUp le b)
  | _, .list ds, t, .list hs r, h => by
    simp only [D.mapRef] at h
    cases e : mapRefs g ds with
    | none => rw [e] at h; cases h
    | some ys =>
      rw [e] at h
      simp only [Option.some.injEq] at h
      subst h
      exact .list (le _ _ hs) (Reps.thaw g hg le r e)
  | _, .tup ds, t, .tup hs r, h => by
    simp only [D.mapRef] at h
    cases e : mapRefs g ds with
    | none => rw [e] at h; cases h
    | some ys =>
      rw [e] at h
      simp only [Option.some.injEq] at h
      subst h
      exact .tup (sqtUp le hs) (Reps.thaw g hg le r e)
  | _, _, _, .ref ha, h => hg _ _ _ (by simpa only [D.mapRef] using h) ha
theorem Reps.thaw (g : Nat → Option D) (hg : ∀ (n : Nat) (t : D) (a : Addr), g n = some t → ad[n]? = some a → Rep K F' ad' (.ref a) t) (le : ∀ a o, F a = some o → F' a = some o) : ∀ {vs : List V} {ds ts : List D}, Reps K F ad vs ds → mapRefs g ds = some ts → Reps K F' ad' vs ts
  | _, _, _, .nil, h => by simp only [mapRefs, Option.some.injEq] at h; subst h; exact .nil
  | _, d :: ds, _, .cons h1 h2, h => by
    simp only [mapRefs] at h
    cases e1 : d.mapRef g with
    | none => rw [e1] at h; cases h
    | some y =>
      cases e2 : mapRefs g ds with
      | none => rw [e1, e2] at h; cases h
      | some ys =>
        rw [e1, e2] at h
        simp only [Option.some.injEq] at h
        subst h
        exact .cons (Rep.thaw g hg le h1 e1) (Reps.thaw g hg le h2 e2)
end
/-- a tuple's objects alone -/
theorem sqtUpT {a : Addr} {vs : List V} (le : ∀ a, (∀ xs, F a = some (.tup xs) → F' a = some (.tup xs)) ∧ ∀ o xs, F a = some (.frz o (.tup xs)) → F' a = some (.frz o (.tup xs))) (h : SqT K F a vs) : SqT K F' a vs := by
  rcases h with (h | ⟨o, h⟩) | h
  · exact .inl (.inl ((le _).1 _ h))
  · exact .inl (.inr ⟨o, (le _).2 _ _ h⟩)
  · exact .inr h
mutual
theorem Rep.thawT (g : Nat → Option D) (hg : ∀ (n : Nat) (t : D) (a : Addr), g n = some t → ad[n]? = some a → Rep K F' ad' (.ref a) t)
    (le : ∀ a, (∀ xs, F a = some (.tup xs) → F' a = some (.tup xs)) ∧ ∀ o xs, F a = some (.frz o (.tup xs)) → F' a = some (.frz o (.tup xs))) : ∀ {v : V} {d t : D}, Rep K F ad v d → d.mapRef g = some t → d.nolist = true → Rep K F' ad' v t
  | _, _, _, .none, h, _ => by simp only [D.mapRef, Option.some.injEq] at h; subst h; exact .none
  | _, _, _, .bool b, h, _ => by simp only [D.mapRef, Option.some.injEq] at h; subst h; exact .bool b
  | _, _, _, .int b, h, _ => by simp only [D.mapRef, Option.some.injEq] at h; subst h; exact .int b
  | _, _, _, .str b, h, _ => by simp only [D.mapRef, Option.some.injEq] at h; subst h; exact .str b
  | _, _, _, .scr b, h, n => by cases n
  | _, .list ds, t, .list hs r, h, n => by cases n
  | _, .tup ds, t, .tup hs r, h, n => by
    simp only [D.mapRef] at h
    cases e : mapRefs g ds with
    | none => rw [e] at h; cases h
    | some ys =>
      rw [e] at h
      simp only [Option.some.injEq] at h
      subst h
      exact .tup (sqtUpT le hs) (Reps.thawT g hg le r e (by simpa only [D.nolist] using n))
  | _, _, _, .ref ha, h, _ => hg _ _ _ (by simpa only [D.mapRef] using h) ha
theorem Reps.thawT (g : Nat → Option D) (hg : ∀ (n : Nat) (t : D) (a : Addr), g n = some t → ad[n]? = some a → Rep K F' ad' (.ref a) t)
    (le : ∀ a, (∀ xs, F a = some (.tup xs) → F' a = some (.tup xs)) ∧ ∀ o xs, F a = some (.frz o (.tup xs)) → F' a = some (.frz o (.tup xs))) : ∀ {vs : List V} {ds ts : List D}, Reps K F ad vs ds → mapRefs g ds = some ts → nolists ds = true → Reps K F' ad' vs ts
  | _, _, _, .nil, h, _ => by simp only [mapRefs, Option.some.injEq] at h; subst h; exact .nil
  | _, d :: ds, _, .cons h1 h2, h, n => by
    simp only [mapRefs] at h
    simp only [nolists, Bool.and_eq_true] at n
    cases e1 : d.mapRef g with
    | none => rw [e1] at h; cases h
    | some y =>
      cases e2 : mapRefs g ds with
      | none => rw [e1, e2] at h; cases h
      | some ys =>
        rw [e1, e2] at h
        simp only [Option.some.injEq] at h
        subst h
        exact .cons (Rep.thawT g hg le h1 e1 n.1) (Reps.thawT g hg le h2 e2 n.2)
end
theorem readN_thaw {st : Sto} {H : Hp} (r : RelS K F ad st H) (le : ∀ a o, F a = some o → F' a = some o) (lc : ∀ a ∈ ad, ∀ o, H a = some o → F' a = some o) :
    ∀ (k n : Nat) (t : D) (a : Addr), readN k st n = some t → ad[n]? = some a → Rep K F' ad' (.ref a) t := by
  intro k
  induction k with
  | zero => intro n t a h; cases h
  | succ k ih =>
    intro n t a h ha
    simp only [readN] at h
    split at h
    · rename_i xs e
      obtain ⟨vs, h1, h2⟩ := r.cell _ _ _ e ha
      split at h
      · rename_i ys e2
        cases h
        exact .list (lc a (List.mem_of_getElem? ha) _ h1) (Reps.thaw _ ih le h2 e2)
      · cases h
    · cases h
theorem readN_thawT {st : Sto} {H : Hp} (r : RelS K F ad st H) (nl : st.all Cell.nolist = true)
    (le : ∀ a, (∀ xs, F a = some (.tup xs) → F' a = some (.tup xs)) ∧ ∀ o xs, F a = some (.frz o (.tup xs)) → F' a = some (.frz o (.tup xs))) (lc : ∀ a ∈ ad, ∀ o, H a = some o → F' a = some o) :
    ∀ (k n : Nat) (t : D) (a : Addr), readN k st n = some t → ad[n]? = some a → Rep K F' ad' (.ref a) t := by
  intro k
  induction k with
  | zero => intro n t a h; cases h
  | succ k ih =>
    intro n t a h ha
    simp only [readN] at h
    split at h
    · rename_i xs e
      obtain ⟨vs, h1, h2⟩ := r.cell _ _ _ e ha
      split at h
      · rename_i ys e2
        cases h
        have q := (List.all_eq_true.mp nl) _ (List.mem_of_getElem? e)
        exact .list (lc a (List.mem_of_getElem? ha) _ h1) (Reps.thawT _ ih le h2 e2 (by simpa only [Cell.nolist] using q))
      · cases h
    · cases h
/-! cells counted on -/
mutual
theorem Rep.shift (ad0 : List Addr) : ∀ {v : V} {d : D}, Rep K F ad v d → Rep K F (ad0 ++ ad) v (d.shift ad0.length)
  | _, _, .none => .none
  | _, _, .bool b => .bool b
  | _, _, .int i => .int i
  | _, _, .str x => .str x
  | _, _, .scr h => .scr h
  | _, _, .list h r => .list h (Reps.shift ad0 r)
  | _, _, .tup h r => .tup h (Reps.shift ad0 r)
  | _, .ref n, .ref h => .ref (by rw [Nat.add_comm, List.getElem?_append_right (Nat.le_add_right _ _), Nat.add_sub_cancel_left]; exact h)
theorem Reps.shift (ad0 : List Addr) : ∀ {vs : List V} {ds : List D}, Reps K F ad vs ds → Reps K F (ad0 ++ ad) vs (shifts ad0.length ds)
  | _, _, .nil => .nil
  | _, _, .cons h r => .cons (Rep.shift ad0 h) (Reps.shift ad0 r)
end
mutual
theorem Rep.lowT {n : Nat} : ∀ {v : V} {d : D}, Rep K F ad v d → d.low n = true → Rep K F (ad.take n) v d
  | _, _, .none, _ => .none
  | _, _, .bool b, _ => .bool b
  | _, _, .int i, _ => .int i
  | _, _, .str x, _ => .str x
  | _, _, .scr h, _ => .scr h
  | _, _, .list h r, l => .list h (Reps.lowT r (by simpa only [D.low] using l))
  | _, _, .tup h r, l => .tup h (Reps.lowT r (by simpa only [D.low] using l))
  | _, _, .ref h, l => .ref (by
    have l' := of_decide_eq_true (by simpa only [D.low] using l)
    rw [List.getElem?_take_of_lt l']; exact h)
theorem Reps.lowT {n : Nat} : ∀ {vs : List V} {ds : List D}, Reps K F ad vs ds → lows n ds = true → Reps K F (ad.take n) vs ds
  | _, _, .nil, _ => .nil
  | _, _, .cons h r, l => by
    simp only [lows, Bool.and_eq_true] at l
    exact .cons (Rep.lowT h l.1) (Reps.lowT r l.2)
end
end

/-! ### the three calls -/
/-- what is frozen behind a call: what was, and what is new -/
def hpNew (F H H2 : Hp) : Hp := fun a => match F a, H a with
  | some o, _ => some o
  | none, none => H2 a
  | _, _ => none
def hpAll (F : Hp) (ad : List Addr) (H : Hp) : Hp := fun a => match F a with
  | some o => some o
  | none => if a ∈ ad then H a else none
section
variable {K : PySem.W.Frag} {cls : Str → Option Addr} {ew : XK} {F F1 F2 : Hp} {ad ad2 : List Addr} {H H2 : Hp} {st st2 : Sto} {Q : VK}
theorem hpNew_old {a : Addr} {o : HO} (h : F a = some o) : hpNew F H H2 a = some o := by unfold hpNew; rw [h]
theorem hpNew_new {a : Addr} (h : F a = none) (h' : H a = none) : hpNew F H H2 a = H2 a := by unfold hpNew; rw [h, h']
theorem hpNew_of {a : Addr} {o : HO} (h : hpNew F H H2 a = some o) : F a = some o ∨ (F a = none ∧ H a = none ∧ H2 a = some o) := by
  unfold hpNew at h
  split at h
  · rename_i e; cases h; exact .inl e
  · rename_i e1 e2; exact .inr ⟨e1, e2, h⟩
  · cases h
theorem back_step (r : RelS K F ad st H) (keep : ∀ a o, H a = some o → H2 a = some o) (dom : ∀ a, H2 a = none → H a = none) : Step F ad H (hpNew F H H2) ad H2 where
  le := fun a o h => hpNew_old h
  pre := ⟨[], by simp⟩
  newF := fun a h1 h2 => by
    cases e : H a with
    | none => exact .inl rfl
    | some o => unfold hpNew at h2; rw [h1, e] at h2; exact absurd rfl h2
  newA := fun a h1 h2 => absurd h1 h2
  keep := fun a o _ h => keep a o h
  dom := dom
theorem back_rel (r : RelS K F ad st H) (keep : ∀ a o, H a = some o → H2 a = some o) : RelS K (hpNew F H H2) ad st H2 where
  sub := fun a o h => by
    rcases hpNew_of h with h | ⟨_, _, h⟩
    · exact keep a o (r.sub a o h)
    · exact h
  nd := r.nd
  out := fun n a h hd => by
    unfold hpNew
    rw [r.out n a h hd]
    cases e : H a with
    | none => exact absurd e (r.live a (List.mem_of_getElem? h))
    | some o => rfl
  len := r.len
  live := fun a h => by
    cases e : H a with
    | none => exact absurd e (r.live a h)
    | some o => rw [keep a o e]; simp
  cell := fun n c a h1 h2 => (r.cell n c a h1 h2).up (fun a o h => hpNew_old h) (fun _ _ h => h) (keep a)
/-- the callee's frozen part at its start -/
theorem start_rel (le : ∀ a o, F1 a = some o → H a = some o) : RelS K F1 [] [] H :=
  ⟨le, List.nodup_nil, fun n a h => absurd h (by simp), rfl, fun a h => absurd h (by simp), fun n c a h => by simp at h⟩
theorem callP_ok {cf : CF} {f : Nat} {ds : List D} {vs : List V} (ok : OkV K cls ew F ad H (callP cf f ds st) Q) (r : RelS K F ad st H) (rs : Reps K F ad vs ds) :
    ∃ F1 ts, RelS K F1 [] [] H ∧ Reps K F1 [] vs ts ∧ OkD K cls ew F1 [] H (cf f ts []) Q := by
  unfold callP at ok
  cases e : frzs st ds with
  | none => rw [e] at ok; exact ok.elim
  | some ts =>
    rw [e] at ok
    simp only at ok
    by_cases hn : norefs ds = true
    · have et : ts = ds := by
        have := norefs_map (g := readN st.length st) hn
        unfold frzs at e
        rw [this] at e; exact (Option.some.inj e).symm
      subst et
      refine ⟨F, ts, start_rel r.sub, rs.cut hn, ?_⟩
      cases q : cf f ts [] with
      | stuck => rw [q] at ok; exact ok
      | err c st' =>
        rw [q] at ok
        intro F' ad' H' a s' r' ec
        have keep : ∀ a o, H a = some o → H' a = some o := fun a o h => s'.keep a o (by simp) h
        exact ok _ _ _ a (back_step r keep s'.dom) (back_rel r keep) ec
      | ok d st' =>
        rw [q] at ok
        simp only [hn, Bool.true_or, if_true] at ok
        cases q2 : frz st' d with
        | none => rw [q2] at ok; exact ok.elim
        | some t =>
          rw [q2] at ok
          intro F2 ad2 H2 v s2 r2 v2
          have keep : ∀ a o, H a = some o → H2 a = some o := fun a o h => s2.keep a o (by simp) h
          have le : ∀ a o, F2 a = some o → hpNew F H H2 a = some o := fun a o h => by
            cases e1 : F a with
            | some o' =>
              have := s2.le a o' e1
              rw [h] at this
              rw [hpNew_old e1]; exact this.symm
            | none =>
              have := (s2.newF a e1 (by rw [h]; simp)).resolve_right (by simp)
              rw [hpNew_new e1 this]; exact r2.sub a o h
          have lc : ∀ a ∈ ad2, ∀ o, H2 a = some o → hpNew F H H2 a = some o := fun a ha o h => by
            have z := s2.newA a ha (by simp)
            have z2 : F a = none := by
              cases e1 : F a with
              | none => rfl
              | some o' => rw [r.sub a o' e1] at z; cases z
            rw [hpNew_new z2 z]; exact h
          exact ok _ _ _ v (back_step r keep s2.dom) (back_rel r keep) (Rep.thaw _ (readN_thaw r2 le lc _) le v2 q2)
    · have hF : ∀ a o, F a = some o → hpAll F ad H a = some o := fun a o h => by unfold hpAll; rw [h]
      have hA : ∀ a ∈ ad, ∀ o, H a = some o → hpAll F ad H a = some o := fun a ha o h => by
        unfold hpAll
        cases e : F a with
        | some o' => rw [← h, r.sub a o' e]
        | none => simp only; rw [if_pos ha]; exact h
      have hof : ∀ a o, hpAll F ad H a = some o → F a = some o ∨ (a ∈ ad ∧ H a = some o) := fun a o h => by
        unfold hpAll at h
        split at h
        · rename_i e1; cases h; exact .inl e1
        · split at h
          · rename_i ha; exact .inr ⟨ha, h⟩
          · cases h
      have hsub : ∀ a o, hpAll F ad H a = some o → H a = some o := fun a o h => by
        rcases hof a o h with h | h
        · exact r.sub a o h
        · exact h.2
      refine ⟨hpAll F ad H, ts, start_rel hsub, Reps.thaw _ (readN_thaw r hF hA _) hF rs e, ?_⟩
      cases q : cf f ts [] with
      | stuck => rw [q] at ok; exact ok
      | err c st' =>
        rw [q] at ok
        intro F' ad' H' a s' r' ec
        have keep : ∀ a o, H a = some o → H' a = some o := fun a o h => s'.keep a o (by simp) h
        exact ok _ _ _ a (back_step r keep s'.dom) (back_rel r keep) ec
      | ok d st' =>
        rw [q] at ok
        simp only [hn, Bool.false_or, Bool.not_eq_true] at ok
        by_cases hfd : flatD d = true
        · rw [hfd, Bool.true_or, if_pos rfl] at ok
          cases q2 : frz st' d with
          | none => rw [q2] at ok; exact ok.elim
          | some t =>
            rw [q2] at ok
            intro F2 ad2 H2 v s2 r2 v2
            have keep : ∀ a o, H a = some o → H2 a = some o := fun a o h => s2.keep a o (by simp) h
            refine ok _ _ _ v (back_step r keep s2.dom) (back_rel r keep) ?_
            cases v2 with
            | none => cases q2; exact .none
            | bool b => cases q2; exact .bool b
            | int i => cases q2; exact .int i
            | str x => cases q2; exact .str x
            | scr _ => cases hfd
            | list _ _ => cases hfd
            | tup _ _ => cases hfd
            | ref _ => cases hfd
        rw [Bool.not_eq_true] at hfd
        rw [hfd, Bool.false_or] at ok
        by_cases hl : (d.nolist && st'.all Cell.nolist) = true
        · rw [if_pos hl] at ok
          rw [Bool.and_eq_true] at hl
          cases q2 : frz st' d with
          | none => rw [q2] at ok; exact ok.elim
          | some t =>
            rw [q2] at ok
            intro F2 ad2 H2 v s2 r2 v2
            have keep : ∀ a o, H a = some o → H2 a = some o := fun a o h => s2.keep a o (by simp) h
            have notcell : ∀ a o, a ∈ ad → H a = some o → (∀ xs, o ≠ .tup xs) ∧ ∀ ob xs, o ≠ .frz ob (.tup xs) := fun a o ha h => by
              obtain ⟨n, hn1, hn2⟩ := List.mem_iff_getElem.mp ha
              have hlen := r.len
              have hc := r.cell n st[n] a (List.getElem?_eq_getElem _) (by rw [← hn2]; exact List.getElem?_eq_getElem _)
              cases e5 : st[n] with
              | lst xs =>
                rw [e5] at hc
                obtain ⟨vs, h1, _⟩ := hc
                rw [h1] at h; cases h
                exact ⟨fun _ z => (nomatch z), fun _ _ z => (nomatch z)⟩
              | dk ks xs =>
                rw [e5] at hc
                obtain ⟨vs, h1, _⟩ := hc
                rw [h1] at h; cases h
                exact ⟨fun _ z => (nomatch z), fun _ _ z => (nomatch z)⟩
              | dt ks xs =>
                rw [e5] at hc
                obtain ⟨vs, h1, _⟩ := hc
                rw [h1] at h; cases h
                exact ⟨fun _ z => (nomatch z), fun _ _ z => (nomatch z)⟩
              | dead =>
                rw [e5] at hc
                obtain ⟨vs, _, h1⟩ := hc
                rw [h1] at h; cases h
                exact ⟨fun _ z => (nomatch z), fun _ _ z => (nomatch z)⟩
            have key : ∀ a o, F2 a = some o → (∀ ob, a ∈ ad → H a ≠ some ob) ∨ ¬ (a ∈ ad) → hpNew F H H2 a = some o := fun a o h hna => by
              cases e1 : hpAll F ad H a with
              | some o' =>
                have z := s2.le a o' e1
                rw [h] at z
                cases z
                rcases hof a o e1 with e2 | ⟨e2, e3⟩
                · exact hpNew_old e2
                · rcases hna with hna | hna
                  · exact absurd e3 (hna o e2)
                  · exact absurd e2 hna
              | none =>
                have z := (s2.newF a e1 (by rw [h]; simp)).resolve_right (by simp)
                have z2 : F a = none := by
                  cases e2 : F a with
                  | none => rfl
                  | some o' => rw [r.sub a o' e2] at z; cases z
                rw [hpNew_new z2 z]; exact r2.sub a o h
            have inad : ∀ a o, F2 a = some o → a ∈ ad → H a = some o := fun a o h ha => by
              cases e6 : H a with
              | none => exact absurd e6 (r.live a ha)
              | some o' =>
                have z := s2.le a o' (hA a ha o' e6)
                rw [h] at z
                exact z.symm
            have le : ∀ a, (∀ xs, F2 a = some (.tup xs) → hpNew F H H2 a = some (.tup xs)) ∧ ∀ o xs, F2 a = some (.frz o (.tup xs)) → hpNew F H H2 a = some (.frz o (.tup xs)) := fun a => by
              refine ⟨fun xs h => key a _ h (.inr fun ha => ?_), fun o xs h => key a _ h (.inr fun ha => ?_)⟩
              · exact (notcell a _ ha (inad a _ h ha)).1 _ rfl
              · exact (notcell a _ ha (inad a _ h ha)).2 _ _ rfl
            have lc : ∀ a ∈ ad2, ∀ o, H2 a = some o → hpNew F H H2 a = some o := fun a ha o h => by
              have z := s2.newA a ha (by simp)
              have z2 : F a = none := by
                cases e1 : F a with
                | none => rfl
                | some o' => rw [r.sub a o' e1] at z; cases z
              rw [hpNew_new z2 z]; exact h
            exact ok _ _ _ v (back_step r keep s2.dom) (back_rel r keep) (Rep.thawT _ (readN_thawT r2 hl.2 le lc _) le v2 q2 hl.1)
        · rw [if_neg hl] at ok
          exact ok.elim
mutual
theorem Rep.ren {K : PySem.W.Frag} {F : Hp} {ad ad' : List Addr} (g : Nat → Option D) (hg : ∀ (n : Nat) (t : D) (a : Addr), g n = some t → ad[n]? = some a → Rep K F ad' (.ref a) t) : ∀ {v : V} {d t : D}, Rep K F ad v d → d.mapRef g = some t → Rep K F ad' v t
  | _, _, _, .none, h => by simp only [D.mapRef, Option.some.injEq] at h; subst h; exact .none
  | _, _, _, .bool b, h => by simp only [D.mapRef, Option.some.injEq] at h; subst h; exact .bool b
  | _, _, _, .int b, h => by simp only [D.mapRef, Option.some.injEq] at h; subst h; exact .int b
  | _, _, _, .str b, h => by simp only [D.mapRef, Option.some.injEq] at h; subst h; exact .str b
  | _, _, _, .scr b, h => by simp only [D.mapRef, Option.some.injEq] at h; subst h; exact .scr b
  | _, .list ds, t, .list hs r, h => by
    simp only [D.mapRef] at h
    cases e : mapRefs g ds with
    | none => rw [e] at h; cases h
    | some ys =>
      rw [e] at h
      simp only [Option.some.injEq] at h
      subst h
      exact .list hs (Reps.ren g hg r e)
  | _, .tup ds, t, .tup hs r, h => by
    simp only [D.mapRef] at h
    cases e : mapRefs g ds with
    | none => rw [e] at h; cases h
    | some ys =>
      rw [e] at h
      simp only [Option.some.injEq] at h
      subst h
      exact .tup hs (Reps.ren g hg r e)
  | _, _, _, .ref ha, h => hg _ _ _ (by simpa only [D.mapRef] using h) ha
theorem Reps.ren {K : PySem.W.Frag} {F : Hp} {ad ad' : List Addr} (g : Nat → Option D) (hg : ∀ (n : Nat) (t : D) (a : Addr), g n = some t → ad[n]? = some a → Rep K F ad' (.ref a) t) : ∀ {vs : List V} {ds ts : List D}, Reps K F ad vs ds → mapRefs g ds = some ts → Reps K F ad' vs ts
  | _, _, _, .nil, h => by simp only [mapRefs, Option.some.injEq] at h; subst h; exact .nil
  | _, d :: ds, _, .cons h1 h2, h => by
    simp only [mapRefs] at h
    cases e1 : d.mapRef g with
    | none => rw [e1] at h; cases h
    | some y =>
      cases e2 : mapRefs g ds with
      | none => rw [e1, e2] at h; cases h
      | some ys =>
        rw [e1, e2] at h
        simp only [Option.some.injEq] at h
        subst h
        exact .cons (Rep.ren g hg h1 e1) (Reps.ren g hg h2 e2)
end
theorem keepC_at {st : Sto} : ∀ {js : List Nat} {st2 : Sto}, keepC st js = some st2 → st2.length = js.length ∧ (∀ j ∈ js, ∃ ds, st[j]? = some (.lst ds)) ∧ ∀ (n : Nat) (c : Cell), st2[n]? = some c → ∃ j ds, js[n]? = some j ∧ st[j]? = some (.lst ds) ∧ c = .lst ds ∧ norefs ds = true
  | [], _, h => by
    cases h
    exact ⟨rfl, fun j h => by simp at h, fun n c h => by simp at h⟩
  | j :: js, st2, h => by
    unfold keepC at h
    split at h
    · rename_i ds e
      split at h
      · rename_i hn
        split at h
        · rename_i r e2
          cases h
          obtain ⟨h1, h2, h3⟩ := keepC_at e2
          refine ⟨by simp [h1], fun i hi => ?_, fun n c hc => ?_⟩
          · rcases List.mem_cons.mp hi with rfl | hi
            · exact ⟨ds, e⟩
            · exact h2 i hi
          · cases n with
            | zero => exact ⟨j, ds, rfl, e, (by simpa using hc.symm), hn⟩
            | succ n => exact h3 n c (by simpa using hc)
        · cases h
      · cases h
    · cases h
theorem relay_ok {F : Hp} {ad : List Addr} {st : Sto} {H : Hp} {v : V} {d d2 : D} {st2 : Sto} (r : RelS K F ad st H) (hv : Rep K F ad v d) (e : relay d st = some (d2, st2)) :
    ∃ ad2, (∀ a ∈ ad2, a ∈ ad) ∧ RelS K F ad2 st2 H ∧ Rep K F ad2 v d2 := by
  unfold relay at e
  split at e
  · rename_i hnd
    split at e
    · rename_i x1 x2 e1 e2
      cases e
      obtain ⟨k1, k2, k3⟩ := keepC_at e1
      have lt : ∀ j ∈ refsOf d, j < ad.length := fun j hj => by
        obtain ⟨ds, h⟩ := k2 j hj
        rw [r.len]
        exact (List.getElem?_eq_some_iff.mp h).1
      have at_ : ∀ j ∈ refsOf d, ad[j]? = some (ad.getD j 0) := fun j hj => by
        rw [List.getD_eq_getElem?_getD, List.getElem?_eq_getElem (lt j hj)]; rfl
      have inj : ∀ i ∈ refsOf d, ∀ j ∈ refsOf d, ad.getD i 0 = ad.getD j 0 → i = j := fun i hi j hj h => by
        have h1 := at_ i hi
        have h2 := at_ j hj
        rw [h] at h1
        exact (List.getElem?_inj (lt i hi) r.nd).mp (h1.trans h2.symm)
      refine ⟨(refsOf d).map fun j => ad.getD j 0, fun a ha => ?_, ⟨r.sub, ?_, fun n a h hd => ?_, by rw [List.length_map, k1], fun a h => ?_, fun n c a h1 h2 => ?_⟩, Rep.ren _ (fun n t a h1 h2 => ?_) hv e2⟩
      · obtain ⟨j, hj, rfl⟩ := List.mem_map.mp ha
        exact List.mem_of_getElem? (at_ j hj)
      · unfold List.Nodup
        rw [List.pairwise_map]
        exact List.Pairwise.imp_of_mem (fun {i j} hi hj hne he => hne (inj i hi j hj he)) hnd
      · rw [List.getElem?_map] at h
        cases e3 : (refsOf d)[n]? with
        | none => rw [e3] at h; cases h
        | some j =>
          rw [e3] at h
          have hj := List.mem_of_getElem? e3
          obtain ⟨ds, h4⟩ := k2 j hj
          exact r.out j a ((at_ j hj).trans h) (by rw [h4]; simp)
      · obtain ⟨j, hj, rfl⟩ := List.mem_map.mp h
        exact r.live _ (List.mem_of_getElem? (at_ j hj))
      · obtain ⟨j, ds, h4, h5, rfl, h6⟩ := k3 n c h1
        rw [List.getElem?_map, h4] at h2
        have hj := List.mem_of_getElem? h4
        obtain ⟨vs, g1, g2⟩ := r.cell j _ a h5 ((at_ j hj).trans h2)
        exact ⟨vs, g1, g2.cut h6⟩
      · unfold ren at h1
        split at h1
        · rename_i hc
          cases h1
          have hm : n ∈ refsOf d := by simpa using hc
          refine .ref ?_
          rw [List.getElem?_map, List.getElem?_eq_getElem (List.idxOf_lt_length_of_mem hm), List.getElem_idxOf]
          exact (at_ n hm).symm.trans h2
        · cases h1
    · cases e
  · cases e
mutual
theorem mapRef_id : ∀ d : D, d.mapRef (fun n => some (.ref n)) = some d
  | .none => rfl
  | .bool _ => rfl
  | .int _ => rfl
  | .str _ => rfl
  | .scr _ => rfl
  | .ref _ => rfl
  | .list xs => by simp only [D.mapRef, mapRefs_id xs]
  | .tup xs => by simp only [D.mapRef, mapRefs_id xs]
  | .dk _ xs => by simp only [D.mapRef, mapRefs_id xs]
  | .dt _ xs => by simp only [D.mapRef, mapRefs_id xs]
theorem mapRefs_id : ∀ ds : List D, mapRefs (fun n => some (.ref n)) ds = some ds
  | [] => rfl
  | d :: ds => by simp only [mapRefs, mapRef_id d, mapRefs_id ds]
end
theorem relay_lst {d d2 : D} {st st2 : Sto} (e : relay d st = some (d2, st2)) : ∀ (n : Nat) (c : Cell), st2[n]? = some c → ∃ ds, c = .lst ds ∧ norefs ds = true := by
  unfold relay at e
  split at e
  · split at e
    · rename_i x1 x2 e1 e2
      cases e
      intro n c h
      obtain ⟨j, ds, _, _, h3, h4⟩ := (keepC_at e1).2.2 n c h
      exact ⟨ds, h3, h4⟩
    · cases e
  · cases e
theorem callC_ok {cf : CF} {f : Nat} {ds : List D} {vs : List V} (ok : OkV K cls ew F ad H (callC cf f ds st) Q) (r : RelS K F ad st H) (rs : Reps K F ad vs ds) :
    ∃ F1 ts, RelS K F1 [] [] H ∧ Reps K F1 [] vs ts ∧ OkD K cls ew F1 [] H (cf f ts []) Q := by
  unfold callC at ok
  cases e0 : frzs st ds with
  | none => rw [e0] at ok; exact ok.elim
  | some ts0 =>
  rw [e0] at ok
  simp only at ok
  by_cases hn : norefs ds = true
  · have et : ts0 = ds := by
      have := norefs_map (g := readN st.length st) hn
      unfold frzs at e0
      rw [this] at e0; exact (Option.some.inj e0).symm
    subst et
    simp only [hn, Bool.true_or, if_true] at ok
    refine ⟨F, ts0, start_rel r.sub, rs.cut hn, ?_⟩
    cases q : cf f ts0 [] with
    | stuck => rw [q] at ok; exact ok
    | err c st' =>
      rw [q] at ok
      intro F' ad' H' a s' r' ec
      have keep : ∀ a o, H a = some o → H' a = some o := fun a o h => s'.keep a o (by simp) h
      exact ok _ _ _ a (back_step r keep s'.dom) (back_rel r keep) ec
    | ok d st' =>
      rw [q] at ok
      intro F2 ad0 H2 v s2 r0 v0
      dsimp only at ok
      cases hre : relay d st' with
      | none => rw [hre] at ok; exact ok.elim
      | some p =>
      obtain ⟨d2, st2⟩ := p
      rw [hre] at ok
      obtain ⟨ad2, sb, r2, v2⟩ := relay_ok r0 v0 hre
      have keep : ∀ a o, H a = some o → H2 a = some o := fun a o h => s2.keep a o (by simp) h
      have hlen := r.len
      have new : ∀ a ∈ ad2, H a = none := fun a ha => s2.newA a (sb a ha) (by simp)
      have stp : Step F ad H F2 (ad ++ ad2) H2 :=
        ⟨s2.le, ⟨ad2, rfl⟩, fun a h1 h2 => .inl ((s2.newF a h1 h2).resolve_right (by simp)), fun a h1 h2 => by
          rcases List.mem_append.mp h1 with z | z
          · exact absurd z h2
          · exact new a z, fun a o _ h => keep a o h, s2.dom⟩
      refine ok F2 (ad ++ ad2) H2 v stp ?_ (by rw [← hlen]; exact Rep.shift ad v2)
      refine ⟨r2.sub, ?_, fun n a h hd => ?_, by simp [hlen, r2.len], fun a h => ?_, fun n c a h1 h2 => ?_⟩
      · rw [List.nodup_append]
        exact ⟨r.nd, r2.nd, fun a ha b hb e => by
          subst e
          exact r.live a ha (new a hb)⟩
      · by_cases hlt : n < st.length
        · rw [List.getElem?_append_left hlt] at hd
          rw [List.getElem?_append_left (by omega)] at h
          cases e1 : F2 a with
          | none => rfl
          | some o =>
            have z1 := r.out n a h hd
            have z2 := (s2.newF a z1 (by rw [e1]; simp)).resolve_right (by simp)
            exact absurd z2 (r.live a (List.mem_of_getElem? h))
        · rw [List.getElem?_append_right (by omega)] at hd
          rw [List.getElem?_append_right (by omega), hlen] at h
          refine r2.out _ a h fun e => hd ?_
          rw [List.getElem?_map, e]; rfl
      · rcases List.mem_append.mp h with z | z
        · cases e1 : H a with
          | none => exact absurd e1 (r.live a z)
          | some o => rw [keep a o e1]; simp
        · exact r2.live a z
      · by_cases hlt : n < st.length
        · rw [List.getElem?_append_left hlt] at h1
          rw [List.getElem?_append_left (by omega)] at h2
          exact (r.cell n c a h1 h2).up s2.le (fun m b hb => by rw [List.getElem?_append_left (List.getElem?_eq_some_iff.mp hb).1]; exact hb) (keep a)
        · rw [List.getElem?_append_right (by omega)] at h1
          rw [List.getElem?_append_right (by omega), hlen] at h2
          rw [List.getElem?_map] at h1
          cases e3 : st2[n - st.length]? with
          | none => rw [e3] at h1; cases h1
          | some c' =>
            rw [e3] at h1
            have e4 : c = Cell.shift st.length c' := (Option.some.inj h1).symm
            subst e4
            have hc := r2.cell _ c' a e3 h2
            cases c' with
            | lst xs =>
              obtain ⟨vs, g1, g2⟩ := hc
              exact ⟨vs, g1, by rw [← hlen]; exact Reps.shift ad g2⟩
            | dk ks xs =>
              obtain ⟨vs, g1, g2, g3⟩ := hc
              exact ⟨vs, g1, g2, by rw [← hlen]; exact Reps.shift ad g3⟩
            | dt ks xs =>
              obtain ⟨vs, g1, g2, g3⟩ := hc
              exact ⟨vs, g1, g2, by rw [← hlen]; exact Reps.shift ad g3⟩
            | dead => exact hc
  · have hF : ∀ a o, F a = some o → hpAll F ad H a = some o := fun a o h => by unfold hpAll; rw [h]
    have hA : ∀ a ∈ ad, ∀ o, H a = some o → hpAll F ad H a = some o := fun a ha o h => by
      unfold hpAll
      cases e : F a with
      | some o' => rw [← h, r.sub a o' e]
      | none => simp only; rw [if_pos ha]; exact h
    have hof : ∀ a o, hpAll F ad H a = some o → F a = some o ∨ (a ∈ ad ∧ H a = some o) := fun a o h => by
      unfold hpAll at h
      split at h
      · rename_i e1; cases h; exact .inl e1
      · split at h
        · rename_i ha; exact .inr ⟨ha, h⟩
        · cases h
    have hsub : ∀ a o, hpAll F ad H a = some o → H a = some o := fun a o h => by
      rcases hof a o h with h | h
      · exact r.sub a o h
      · exact h.2
    refine ⟨hpAll F ad H, ts0, start_rel hsub, Reps.thaw _ (readN_thaw r hF hA _) hF rs e0, ?_⟩
    cases q : cf f ts0 [] with
    | stuck => rw [q] at ok; exact ok
    | err c st' =>
      rw [q] at ok
      intro F' ad' H' a s' r' ec
      have keep : ∀ a o, H a = some o → H' a = some o := fun a o h => s'.keep a o (by simp) h
      exact ok _ _ _ a (back_step r keep s'.dom) (back_rel r keep) ec
    | ok d st' =>
      rw [q] at ok
      intro F2 ad0 H2 v s2 r0 v0
      dsimp only at ok
      cases hre : relay d st' with
      | none => rw [hre] at ok; exact ok.elim
      | some p =>
      obtain ⟨d2, st2⟩ := p
      rw [hre] at ok
      simp only [hn, Bool.false_or] at ok
      have hl : (d2.nolist && st2.all Cell.nolist) = true := by
        cases h : (d2.nolist && st2.all Cell.nolist) with
        | true => rfl
        | false => rw [h, if_neg Bool.false_ne_true] at ok; exact ok.elim
      rw [if_pos hl] at ok
      rw [Bool.and_eq_true] at hl
      obtain ⟨ad2, sb, r2, v2⟩ := relay_ok r0 v0 hre
      have lst := relay_lst hre
      have keep : ∀ a o, H a = some o → H2 a = some o := fun a o h => s2.keep a o (by simp) h
      have hlen := r.len
      have new : ∀ a ∈ ad2, H a = none := fun a ha => s2.newA a (sb a ha) (by simp)
      have newF2 : ∀ a ∈ ad2, F2 a = none := fun a ha => by
        obtain ⟨n, hn1, hn2⟩ := List.mem_iff_getElem.mp ha
        have h1 : ad2[n]? = some a := by rw [← hn2]; exact List.getElem?_eq_getElem _
        refine r2.out n a h1 fun h => ?_
        obtain ⟨_, h3, _⟩ := lst n _ h
        cases h3
      have notcell : ∀ a o, a ∈ ad → H a = some o → (∀ xs, o ≠ .tup xs) ∧ ∀ ob xs, o ≠ .frz ob (.tup xs) := fun a o ha h => by
        obtain ⟨n, hn1, hn2⟩ := List.mem_iff_getElem.mp ha
        have hlen := r.len
        have hc := r.cell n st[n] a (List.getElem?_eq_getElem _) (by rw [← hn2]; exact List.getElem?_eq_getElem _)
        cases e5 : st[n] with
        | lst xs =>
          rw [e5] at hc
          obtain ⟨vs, h1, _⟩ := hc
          rw [h1] at h; cases h
          exact ⟨fun _ z => (nomatch z), fun _ _ z => (nomatch z)⟩
        | dk ks xs =>
          rw [e5] at hc
          obtain ⟨vs, h1, _⟩ := hc
          rw [h1] at h; cases h
          exact ⟨fun _ z => (nomatch z), fun _ _ z => (nomatch z)⟩
        | dt ks xs =>
          rw [e5] at hc
          obtain ⟨vs, h1, _⟩ := hc
          rw [h1] at h; cases h
          exact ⟨fun _ z => (nomatch z), fun _ _ z => (nomatch z)⟩
        | dead =>
          rw [e5] at hc
          obtain ⟨vs, _, h1⟩ := hc
          rw [h1] at h; cases h
          exact ⟨fun _ z => (nomatch z), fun _ _ z => (nomatch z)⟩
      have key : ∀ a o, F2 a = some o → (∀ ob, a ∈ ad → H a ≠ some ob) ∨ ¬ (a ∈ ad) → hpNew F H H2 a = some o := fun a o h hna => by
        cases e1 : hpAll F ad H a with
        | some o' =>
          have z := s2.le a o' e1
          rw [h] at z
          cases z
          rcases hof a o e1 with e2 | ⟨e2, e3⟩
          · exact hpNew_old e2
          · rcases hna with hna | hna
            · exact absurd e3 (hna o e2)
            · exact absurd e2 hna
        | none =>
          have z := (s2.newF a e1 (by rw [h]; simp)).resolve_right (by simp)
          have z2 : F a = none := by
            cases e2 : F a with
            | none => rfl
            | some o' => rw [r.sub a o' e2] at z; cases z
          rw [hpNew_new z2 z]; exact r2.sub a o h
      have inad : ∀ a o, F2 a = some o → a ∈ ad → H a = some o := fun a o h ha => by
        cases e6 : H a with
        | none => exact absurd e6 (r.live a ha)
        | some o' =>
          have z := s2.le a o' (hA a ha o' e6)
          rw [h] at z
          exact z.symm
      have le : ∀ a, (∀ xs, F2 a = some (.tup xs) → hpNew F H H2 a = some (.tup xs)) ∧ ∀ o xs, F2 a = some (.frz o (.tup xs)) → hpNew F H H2 a = some (.frz o (.tup xs)) := fun a => by
        refine ⟨fun xs h => key a _ h (.inr fun ha => ?_), fun o xs h => key a _ h (.inr fun ha => ?_)⟩
        · exact (notcell a _ ha (inad a _ h ha)).1 _ rfl
        · exact (notcell a _ ha (inad a _ h ha)).2 _ _ rfl
      obtain ⟨F', hF'⟩ : ∃ F' : Hp, F' = fun a => if a ∈ ad2 then none else hpNew F H H2 a := ⟨_, rfl⟩
      have inF : ∀ a, a ∈ ad2 → F' a = none := fun a ha => by rw [hF']; exact if_pos ha
      have outF : ∀ a, a ∉ ad2 → F' a = hpNew F H H2 a := fun a ha => by rw [hF']; exact if_neg ha
      have leF : ∀ a o, F a = some o → F' a = some o := fun a o h => by
        rw [outF a fun ha => by have := new a ha; rw [r.sub a o h] at this; cases this]
        exact hpNew_old h
      have le2 : ∀ a, (∀ xs, F2 a = some (.tup xs) → F' a = some (.tup xs)) ∧ ∀ o xs, F2 a = some (.frz o (.tup xs)) → F' a = some (.frz o (.tup xs)) := fun a =>
        ⟨fun xs h => by rw [outF a fun ha => by rw [newF2 a ha] at h; cases h]; exact (le a).1 xs h,
         fun o xs h => by rw [outF a fun ha => by rw [newF2 a ha] at h; cases h]; exact (le a).2 o xs h⟩
      have stp : Step F ad H F' (ad ++ ad2) H2 :=
        ⟨leF, ⟨ad2, rfl⟩, fun a h1 h2 => by
          by_cases ha : a ∈ ad2
          · exact .inl (new a ha)
          · rw [outF a ha] at h2
            exact (back_step r keep s2.dom).newF a h1 h2, fun a h1 h2 => by
          rcases List.mem_append.mp h1 with z | z
          · exact absurd z h2
          · exact new a z, fun a o _ h => keep a o h, s2.dom⟩
      have v3 : Rep K F' ad2 v d2 := Rep.thawT _ (fun n t a h1 h2 => by cases h1; exact .ref h2) le2 v2 (mapRef_id d2) hl.1
      refine ok F' (ad ++ ad2) H2 v stp ?_ (by rw [← hlen]; exact Rep.shift ad v3)
      refine ⟨fun a o h => ?_, ?_, fun n a h hd => ?_, by simp [hlen, r2.len], fun a h => ?_, fun n c a h1 h2 => ?_⟩
      · by_cases ha : a ∈ ad2
        · rw [inF a ha] at h; cases h
        · rw [outF a ha] at h
          exact (back_rel r keep).sub a o h
      · rw [List.nodup_append]
        exact ⟨r.nd, r2.nd, fun a ha b hb e => by
          subst e
          exact r.live a ha (new a hb)⟩
      · by_cases hlt : n < st.length
        · rw [List.getElem?_append_left hlt] at hd
          rw [List.getElem?_append_left (by omega)] at h
          by_cases ha : a ∈ ad2
          · exact inF a ha
          · rw [outF a ha]
            exact (back_rel r keep).out n a h hd
        · rw [List.getElem?_append_right (by omega)] at h
          exact inF a (List.mem_of_getElem? h)
      · rcases List.mem_append.mp h with z | z
        · cases e1 : H a with
          | none => exact absurd e1 (r.live a z)
          | some o => rw [keep a o e1]; simp
        · exact r2.live a z
      · by_cases hlt : n < st.length
        · rw [List.getElem?_append_left hlt] at h1
          rw [List.getElem?_append_left (by omega)] at h2
          exact (r.cell n c a h1 h2).up leF (fun m b hb => by rw [List.getElem?_append_left (List.getElem?_eq_some_iff.mp hb).1]; exact hb) (keep a)
        · rw [List.getElem?_append_right (by omega)] at h1
          rw [List.getElem?_append_right (by omega), hlen] at h2
          rw [List.getElem?_map] at h1
          cases e3 : st2[n - st.length]? with
          | none => rw [e3] at h1; cases h1
          | some c' =>
            rw [e3] at h1
            have e4 : c = Cell.shift st.length c' := (Option.some.inj h1).symm
            subst e4
            have hc := r2.cell _ c' a e3 h2
            have hnl : c'.nolist = true := List.all_eq_true.mp hl.2 c' (List.mem_of_getElem? e3)
            obtain ⟨xs, rfl, hnr⟩ := lst _ c' e3
            obtain ⟨vs, g1, g2⟩ := hc
            have g3 : Reps K F' ad2 vs xs := Reps.thawT (fun n => some (.ref n)) (fun n t a h1 h2 => by cases h1; exact .ref h2) le2 g2 (mapRefs_id xs) (by simpa only [Cell.nolist] using hnl)
            exact ⟨vs, g1, by rw [← hlen]; exact Reps.shift ad g3⟩
theorem callS_ok {cf : CF} {f : Nat} {ds : List D} (ok : OkV K cls ew F ad H (callS cf f ds st) Q) : OkD K cls ew F ad H (cf f ds st) Q := by
  unfold callS at ok
  cases q : cf f ds st with
  | stuck => rw [q] at ok; exact ok
  | err c st' => rw [q] at ok; exact ok
  | ok d st' => rw [q] at ok; exact ok
end
end MP

/-! The readings of the terms; targets; walks. -/
namespace MP
open PySem PySem.Spec PyProof.Rows L2

/-- what is fixed for a claim -/
structure Con where
  T : Nat → Option Def
  cls : Str → Option Addr
  G : Str → Option D
  k : Nat
/-- a def's promise -/
def spF (C : Con) (K : PySem.W.Frag) (k f : Nat) : Sp := fun vs H Q E => ∃ F ad st ds, RelS K F ad st H ∧ Reps K F ad vs ds ∧ OkD K C.cls E F ad H (run C.T k f ds st) Q
def bnames : List Str := ["len", "range", "list", "tuple", "sorted", "sum", "any", "all", "max", "min", "int", "isinstance", "zip", "str", "bool", "repr", "dict", "set"]
/-- a written table of the program's top: texts as keys, whole numbers as values -/
def TabK (K : PySem.W.Frag) (w : World) (a : Addr) (ks : List Str) (vs : List Int) : Prop :=
  (∃ es n, KDict K w a es n) ∧ ∀ z, (∀ i, lookS z ks vs = some i → ∃ t, PySem.W.nsIn K a z = some (some (.int i t))) ∧ (lookS z ks vs = none → PySem.W.nsIn K a z = some none)
def kvOf (e : DictEntry) : Option (Str × Int) := match e.key, e.val with
  | .str x _, .int i _ => some (x, i)
  | _, _ => none
def tabB (K : PySem.W.Frag) (a : Addr) (ks : List Str) (vs : List Int) : Bool := match List.lookup a K with
  | some o => (match o.data with
    | .dict es _ => decide (es.toList.map kvOf = (ks.zip vs).map some)
    | _ => false)
  | none => false
theorem kvOf_some {e : DictEntry} {x : Str} {i : Int} (h : kvOf e = some (x, i)) : (∃ t, e.key = .str x t) ∧ ∃ t, e.val = .int i t := by
  unfold kvOf at h
  split at h
  · rename_i h1 h2
    cases h
    exact ⟨⟨_, h1⟩, ⟨_, h2⟩⟩
  · cases h
theorem tab_find (z : Str) : ∀ {es : List DictEntry} {ks : List Str} {vs : List Int}, es.map kvOf = (ks.zip vs).map some →
    (∀ i, lookS z ks vs = some i → ∃ e t, es.find? (fun x => x.key.isStr z) = some e ∧ e.val = .int i t) ∧ (lookS z ks vs = none → es.find? (fun x => x.key.isStr z) = none) ∧ es.any (fun x => x.refKey) = false
  | [], ks, vs, h => by
    have : lookS z ks vs = none := by
      cases ks with
      | nil => cases vs <;> rfl
      | cons k ks => cases vs with
        | nil => rfl
        | cons v vs => simp at h
    exact ⟨fun i e => (by rw [this] at e; cases e), fun _ => rfl, rfl⟩
  | e :: es, [], vs, h => by simp at h
  | e :: es, k :: ks, [], h => by simp at h
  | e :: es, k :: ks, v :: vs, h => by
    simp only [List.map_cons, List.zip_cons_cons, List.cons.injEq] at h
    obtain ⟨⟨t, hk⟩, ⟨t', hv⟩⟩ := kvOf_some h.1
    obtain ⟨h1, h2, h3⟩ := tab_find z h.2
    have e1 : e.key.isStr z = (k == z) := by rw [hk]; rfl
    have e2 : e.refKey = false := by unfold DictEntry.refKey; rw [hk]
    unfold lookS
    rw [List.find?_cons, e1, List.any_cons, e2]
    cases q : k == z with
    | true =>
      rw [if_pos rfl]
      exact ⟨fun i ei => (by cases ei; exact ⟨e, t', rfl, hv⟩), fun ei => (by cases ei), h3⟩
    | false =>
      rw [if_neg (by decide)]
      exact ⟨h1, h2, h3⟩
theorem tabK_of {K : PySem.W.Frag} {w : World} {a : Addr} {ks : List Str} {vs : List Int} {es : Array DictEntry} {n : Nat} (kd : KDict K w a es n) (h : tabB K a ks vs = true) : TabK K w a ks vs := by
  unfold tabB at h
  rw [kd.at_] at h
  have h := of_decide_eq_true h
  refine ⟨⟨es, n, kd⟩, fun z => ?_⟩
  obtain ⟨h1, h2, h3⟩ := tab_find z h
  unfold PySem.W.nsIn
  rw [kd.at_]
  dsimp only
  constructor
  · intro i ei
    obtain ⟨e, t, e1, e2⟩ := h1 i ei
    refine ⟨t, ?_⟩
    rw [e1]
    show some (some e.val) = _
    rw [e2]
  · intro ei
    rw [h2 ei, h3]; rfl
def D.isDk : D → Bool
  | .dk _ _ => true
  | _ => false
def tabG (G : Str → Option D) (g : Str) (ks : List Str) (vs : List Int) : Bool := match G g with
  | some (.dk k' v') => decide (k' = ks.map Sum.inr) && decide (intsOf v' = some vs)
  | _ => false
theorem tabG_of {G : Str → Option D} {g : Str} {ks : List Str} {vs : List Int} (h : tabG G g ks vs = true) : G g = some (.dk (ks.map Sum.inr) (vs.map D.int)) := by
  unfold tabG at h
  split at h
  · rename_i k' v' e
    simp only [Bool.and_eq_true, decide_eq_true_eq] at h
    rw [e, h.1, intsOf_eq h.2]
  · cases h
structure Facts (P : Program) (w : World) (K : PySem.W.Frag) (mg : Str → Option Value) (base : Heap) (C : Con) : Prop where
  fns : ∀ f d, C.T f = some d → ∃ a fd, FnOk P w K mg base (L2.CX P w) C.k a fd d.pars (spF C K C.k f) ∧ mg d.name = some (.ref a) ∧ PySem.W.keepIn K (.ref a) = true ∧ Binds K fd d.pars []
  glo : ∀ x d, C.G x = some d → d.isDk = false → ∃ u v, mg x = some u ∧ RelV v u ∧ ∀ F ad, Rep K F ad v d
  tab : ∀ x ks vs, C.G x = some (.dk (ks.map Sum.inr) (vs.map D.int)) → ∃ a, mg x = some (.ref a) ∧ TabK K w a ks vs
  blt : ∀ x, x ∈ bnames → mg x = none
structure Good (C : Con) (N : List Str) (X : Cx) (sc : Scope) (ow : Str → Bool) (ew : L2.St → XK) : Prop where
  hN : X.N = N
  nd : N.Nodup
  sc : X.env.scope = sc
  calm : X.calm = true
  room : Room C.k X.A
  pass : ∀ σ, PassesAt (L2.CX X.prog X.w) X σ (ew σ)
  ow : ∀ x, ow x = true → X.fn x = true
  facts : Facts X.prog X.w X.K X.mg X.base C

def tX (C : Con) (X : Cx) (ew : L2.St → XK) (e : E) : TE := fun σ H Q => ∃ F ad env st, RelS X.K F ad st H ∧ EnvRel X.K F ad env σ ∧ OkV X.K C.cls (ew σ) F ad H (evX (run C.T C.k) e env st) Q
def tXs (C : Con) (X : Cx) (ew : L2.St → XK) (es : Es) : TA := fun σ H Q => ∃ F ad env st, RelS X.K F ad st H ∧ EnvRel X.K F ad env σ ∧ OkL X.K C.cls (ew σ) F ad H (evXs (run C.T C.k) es env st) Q

theorem _root_.L2.PE.imp {X : Cx} {e : Expr} {t t' : TE} (h : PE X e t) (i : ∀ σ H Q, t' σ H Q → t σ H Q) : PE X e t' := ⟨fun pins s σ H Q I q => h.run pins s σ H Q I (i _ _ _ q)⟩
theorem _root_.L2.PT.imp {X : Cx} {e : Expr} {t t' : TT} (h : PT X e t) (i : ∀ σ H Q, t' σ H Q → t σ H Q) : PT X e t' := ⟨fun pins s σ H Q I q => h.run pins s σ H Q I (i _ _ _ q)⟩
theorem _root_.L2.PW.imp {X : Cx} {e : Expr} {t t' : TT} (h : PW X e t) (i : ∀ σ H Q, t' σ H Q → t σ H Q) : PW X e t' := ⟨fun wh pins s σ H Q I q => h.run wh pins s σ H Q I (i _ _ _ q)⟩
theorem _root_.L2.PA.imp {X : Cx} {e : List Expr} {t t' : TA} (h : PA X e t) (i : ∀ σ H Q, t' σ H Q → t σ H Q) : PA X e t' := ⟨fun pos pins s σ H Q I q => h.run pos pins s σ H Q I (i _ _ _ q)⟩

/-- a test that is not asked in its own way -/
def plainB : Expr → Bool
  | .UnaryOp .Not _ _ => false
  | .BoolOp _ _ _ => false
  | .IfExp _ _ _ _ => false
  | .Compare _ _ _ _ => false
  | _ => true
theorem plain_true {e : Expr} {env : PySem.Env} (h : plainB e = true) : ∀ whole, isTrue e env whole = (do let v ← whole; standAt e.pos; holding [v] (truthy v)) := by
  intro whole
  cases e <;> first
    | rfl
    | (cases h; done)
    | (rename_i op x p; cases op <;> first | rfl | (cases h; done))
def tokB : Expr → Bool
  | .IfExp _ _ _ _ => false
  | _ => true
def isBo : Expr → Bool
  | .BoolOp _ _ _ => true
  | _ => false
theorem plain_bo {e : Expr} (h : plainB e = true) : isBo e = false := by
  cases e <;> first | rfl | cases h
structure Sd (C : Con) (X : Cx) (ew : L2.St → XK) (e : E) (pe : Expr) : Prop where
  ex : PE X pe (tX C X ew e)
  tst : tokB pe = true → PT X pe (tB (tX C X ew e))
  who : isBo pe = true → PW X pe (tB (tX C X ew e))
theorem Sd.plain {C : Con} {X : Cx} {ew : L2.St → XK} {e : E} {p : Expr} (h : PE X p (tX C X ew e)) (hp : plainB p = true) : Sd C X ew e p :=
  ⟨h, fun _ => pt_val h (plain_true hp), fun q => by rw [plain_bo hp] at q; cases q⟩

/-! ### targets -/
def gNames : List Nat → TGs
  | [] => gNil
  | i :: is => gCons (gName i) (gNames is)
def tT (K : PySem.W.Frag) : Tg → TG
  | .one i => gName i
  | .many is => gTup K is.length (gNames is)
theorem gNames_ok {K : PySem.W.Frag} {F : Hp} {ad : List Addr} {H : Hp} : ∀ {is : List Nat} {vs : List V} {ds : List D} {env : Env} {σ : L2.St} {Q : L2.St → Hp → Prop}, Reps K F ad vs ds → is.length = ds.length → EnvRel K F ad env σ →
    (∀ σ', EnvRel K F ad (bindT.bindAll env is ds) σ' → (∀ ws, (∀ i ∈ is, i ∈ ws) → wipe σ' ws = wipe σ ws) → Q σ' H) → gNames is vs σ H Q
  | [], _, _, _, σ, Q, .nil, _, en, q => ⟨rfl, q σ en fun _ _ => rfl⟩
  | i :: is, _, _, env, σ, Q, .cons (v := v) (d := d) h r, l, en, q => by
    refine ⟨v, _, rfl, ?_⟩
    refine gNames_ok r (by simpa using l) (en.set i h) fun σ' en' hw => q σ' en' fun ws hi => ?_
    rw [hw ws fun j hj => hi j (List.mem_cons_of_mem _ hj)]
    exact wipe_set (hi i List.mem_cons_self)
  | [], _, _, _, _, _, .cons _ _, l, _, _ => by simp at l
  | _ :: _, _, _, _, _, _, .nil, l, _, _ => by simp at l
where
  wipe_set {σ : L2.St} {i : Nat} {x : Option V} : ∀ {ws : List Nat}, i ∈ ws → wipe (σ.set i x) ws = wipe σ ws
    | w :: ws, h => by
      unfold wipe
      by_cases hi : i ∈ ws
      · rw [wipe_set hi]
      · have e : i = w := by
          rcases List.mem_cons.mp h with e | e
          · exact e
          · exact absurd e hi
        subst e
        rw [wipe_comm hi, List.set_set]
  wipe_comm {σ : L2.St} {i : Nat} {x : Option V} : ∀ {ws : List Nat}, i ∉ ws → wipe (σ.set i x) ws = (wipe σ ws).set i x
    | [], _ => rfl
    | w :: ws, h => by
      unfold wipe
      rw [wipe_comm (fun e => h (List.mem_cons_of_mem _ e))]
      rw [List.set_comm]
      intro e
      exact h (by rw [e]; exact List.mem_cons_self)
theorem wipe_wipe (σ : L2.St) (vs : List Nat) : wipe (wipe σ vs) vs = wipe σ vs := by
  apply List.ext_getElem?
  intro i
  by_cases h : i ∈ vs
  · by_cases hl : i < σ.length
    · rw [wipe_at h (by rw [wipe_length]; exact hl), wipe_at h hl]
    · rw [List.getElem?_eq_none (by rw [wipe_length, wipe_length]; omega), List.getElem?_eq_none (by rw [wipe_length]; omega)]
  · rw [wipe_keeps h]
where
  wipe_at {σ : L2.St} {i : Nat} : ∀ {vs : List Nat}, i ∈ vs → i < σ.length → (wipe σ vs)[i]? = some none
    | w :: vs, h, hl => by
      unfold wipe
      by_cases e : w = i
      · subst e
        rw [List.getElem?_set_self (by rw [wipe_length]; exact hl)]
      · rw [List.getElem?_set_ne e]
        rcases List.mem_cons.mp h with q | q
        · exact absurd q.symm e
        · exact wipe_at q hl
def tgIx : Tg → List Nat
  | .one i => [i]
  | .many is => is
theorem tT_ok {K : PySem.W.Frag} {F : Hp} {ad : List Addr} {H : Hp} {st : Sto} {tg : Tg} {v : V} {d : D} {env env' : Env} {σ : L2.St} {Q : L2.St → Hp → Prop} (r : RelS K F ad st H) (h : Rep K F ad v d) (en : EnvRel K F ad env σ) (e : bindT env tg d = some env')
    (q : ∀ σ', EnvRel K F ad env' σ' → (∀ ws, (∀ i ∈ tgIx tg, i ∈ ws) → wipe σ' ws = wipe σ ws) → Q σ' H) : tT K tg v σ H Q := by
  cases tg with
  | one i =>
    simp only [bindT, Option.some.injEq] at e
    subst e
    exact q _ (en.set i h) fun ws hi => gNames_ok.wipe_set (hi i (by simp [tgIx]))
  | many is =>
    cases h with
    | tup hs hr =>
      simp only [bindT] at e
      split at e
      · rename_i hl
        cases e
        exact ⟨_, _, rfl, sqtUp r.sub hs, by rw [hr.length, hl], gNames_ok hr hl en q⟩
      · cases e
    | _ => simp only [bindT] at e; cases e

/-! ### walks -/
structure JOk (K : PySem.W.Frag) (J : L2.It) (src : D) (ds : List D) (F : Hp) (ad : List Addr) (H : Hp) : Prop where
  go : ∀ i F' ad' st' H', Step F ad H F' ad' H' → RelS K F' ad' st' H' → stands src ds st' = true → i < ds.length → J.go i H' ∧
    ∀ x H2, J.yld i H' x H2 → ∃ F2, Step F' ad' H' F2 ad' H2 ∧ RelS K F2 ad' st' H2 ∧ ∃ d, ds[i]? = some d ∧ Rep K F2 ad' x d
  stop : ∀ i F' ad' st' H', Step F ad H F' ad' H' → RelS K F' ad' st' H' → stands src ds st' = true → ds.length ≤ i → J.stop i H'
def OkI (K : PySem.W.Frag) (cls : Str → Option Addr) (ew : XK) (F : Hp) (ad : List Addr) (H : Hp) (r : R (D × List D)) (Q : MP.D → List MP.D → Hp → List Addr → Hp → Prop) : Prop := match r with
  | .ok x st' => ∀ F' ad' H', Step F ad H F' ad' H' → RelS K F' ad' st' H' → Q x.1 x.2 F' ad' H'
  | .err c st' => ∀ F' ad' H' a, Step F ad H F' ad' H' → RelS K F' ad' st' H' → cls c = some a → ew (.ref a) none H'
  | .stuck => False
def tI (C : Con) (X : Cx) (ew : L2.St → XK) (it : It) : TI := fun σ H R => ∃ F ad env st, RelS X.K F ad st H ∧ EnvRel X.K F ad env σ ∧
  OkI X.K C.cls (ew σ) F ad H (evI (run C.T C.k) it env st) fun src ds F' ad' H' => ∀ J, JOk X.K J src ds F' ad' H' → R J H'
mutual
theorem D.same_eq : ∀ {a b : D}, a.same b = true → a = b
  | .none, b, h => by cases b <;> first | rfl | (simp [D.same] at h)
  | .bool x, b, h => by cases b <;> first | (simp [D.same] at h; done) | (simp only [D.same, beq_iff_eq] at h; rw [h])
  | .int x, b, h => by cases b <;> first | (simp [D.same] at h; done) | (simp only [D.same, beq_iff_eq] at h; rw [h])
  | .str x, b, h => by cases b <;> first | (simp [D.same] at h; done) | (simp only [D.same, decide_eq_true_eq] at h; rw [h])
  | .list x, b, h => by cases b <;> first | (simp [D.same] at h; done) | (simp only [D.same] at h; rw [sames_eq h])
  | .tup x, b, h => by cases b <;> first | (simp [D.same] at h; done) | (simp only [D.same] at h; rw [sames_eq h])
  | .ref x, b, h => by cases b <;> first | (simp [D.same] at h; done) | (simp only [D.same, beq_iff_eq] at h; rw [h])
  | .dk _ _, b, h => by cases b <;> simp [D.same] at h
  | .dt _ _, b, h => by cases b <;> simp [D.same] at h
  | .scr _, b, h => by cases b <;> simp [D.same] at h
theorem sames_eq : ∀ {a b : List D}, sames a b = true → a = b
  | [], [], _ => rfl
  | [], _ :: _, h => by simp [sames] at h
  | _ :: _, [], h => by simp [sames] at h
  | x :: xs, y :: ys, h => by
    simp only [sames, Bool.and_eq_true] at h
    rw [D.same_eq h.1, sames_eq h.2]
end
section
variable {K : PySem.W.Frag} {F F' : Hp} {ad ad' : List Addr} {H H' : Hp} {st st' : Sto}
theorem get_reps {vs : List V} {ds : List D} (h : Reps K F ad vs ds) {i : Nat} (hi : i < ds.length) : ∃ v d, vs[i]? = some v ∧ ds[i]? = some d ∧ Rep K F ad v d := by
  obtain ⟨v, h1, h2⟩ := h.get (i := i) (d := ds[i]) (List.getElem?_eq_getElem hi)
  exact ⟨v, _, h1, List.getElem?_eq_getElem hi, h2⟩
theorem jok_list {a : Addr} {vs : List V} {ds : List D} {src : D} (hq : ∀ F' ad' st' H', Step F ad H F' ad' H' → RelS K F' ad' st' H' → stands src ds st' = true → ∃ ws, SqL K H' a ws ∧ Reps K F' ad' ws ds) : JOk K (Itl K a) src ds F ad H where
  go := fun i F' ad' st' H' s r hs hi => by
    obtain ⟨ws, h1, h2⟩ := hq F' ad' st' H' s r hs
    obtain ⟨v, d, g1, g2, g3⟩ := get_reps h2 hi
    refine ⟨⟨ws, v, h1, g1⟩, fun x H2 ⟨e, y⟩ => ?_⟩
    subst e
    have z := y ws h1
    rw [g1] at z
    cases z
    exact ⟨F', Step.refl _ _ _, r, d, g2, g3⟩
  stop := fun i F' ad' st' H' s r hs hi => by
    obtain ⟨ws, h1, h2⟩ := hq F' ad' st' H' s r hs
    exact ⟨ws, h1, by rw [h2.length]; exact hi⟩
theorem jok_tup {a : Addr} {ws : List V} {ds : List D} {src : D} (h1 : SqT K F a ws) (h2 : Reps K F ad ws ds) : JOk K (Itt K a) src ds F ad H where
  go := fun i F' ad' st' H' s r hs hi => by
    obtain ⟨v, d, g1, g2, g3⟩ := get_reps h2 hi
    have h1' := sqtUp r.sub (sqtUp s.le h1)
    refine ⟨⟨ws, v, h1', g1⟩, fun x H2 ⟨e, y⟩ => ?_⟩
    subst e
    have z := y ws h1'
    rw [g1] at z
    cases z
    exact ⟨F', Step.refl _ _ _, r, d, g2, g3.step s⟩
  stop := fun i F' ad' st' H' s r hs hi => ⟨ws, sqtUp r.sub (sqtUp s.le h1), by rw [h2.length]; exact hi⟩
theorem jok_str {z : Str} {src : D} : JOk K (Its z) src (signs z) F ad H where
  go := fun i F' ad' st' H' s r hs hi => by
    have hi' : i < z.cps.size := by simpa [signs] using hi
    refine ⟨hi', fun x H2 ⟨e, c, h1, h2⟩ => ?_⟩
    subst e
    subst h2
    refine ⟨F', Step.refl _ _ _, r, sgn c, ?_, .str _⟩
    unfold signs
    rw [List.getElem?_map, Array.getElem?_toList, h1]; rfl
  stop := fun i F' ad' st' H' s r hs hi => by
    show z.cps.size ≤ i
    simpa [signs] using hi
theorem jok_range {lo : Int} {n : Nat} {src : D} : JOk K (Itr lo n) src ((rangeI lo n).map D.int) F ad H where
  go := fun i F' ad' st' H' s r hs hi => by
    have hi' : i < n := by simpa [rangeI] using hi
    refine ⟨hi', fun x H2 ⟨e, h2⟩ => ?_⟩
    subst e
    subst h2
    refine ⟨F', Step.refl _ _ _, r, .int (lo + i), ?_, .int _⟩
    simp [rangeI, hi']
  stop := fun i F' ad' st' H' s r hs hi => by
    show n ≤ i
    simpa [rangeI] using hi
theorem reps_zip {vs ws : List V} {xs ys : List D} (h1 : Reps K F ad vs xs) (h2 : Reps K F ad ws ys) {i : Nat} {d : D} (hd : (List.zipWith (fun x y => D.tup [x, y]) xs ys)[i]? = some d) : ∃ v w x y, vs[i]? = some v ∧ ws[i]? = some w ∧ Rep K F ad v x ∧ Rep K F ad w y ∧ d = .tup [x, y] := by
  rw [List.getElem?_zipWith] at hd
  split at hd
  · rename_i x y e1 e2
    obtain ⟨v, g1, g2⟩ := h1.get e1
    obtain ⟨w, g3, g4⟩ := h2.get e2
    exact ⟨v, w, x, y, g1, g3, g2, g4, (Option.some.inj hd).symm⟩
  · cases hd
theorem jok_zip {a b : Addr} {vs ws : List V} {xs ys : List D} {src : D} (h1 : F a = some (.lst vs)) (h2 : Reps K F ad vs xs) (h3 : F b = some (.lst ws)) (h4 : Reps K F ad ws ys) : JOk K (Itz K a b) src (List.zipWith (fun x y => D.tup [x, y]) xs ys) F ad H where
  go := fun i F' ad' st' H' s r hs hi => by
    obtain ⟨v, w, x, y, g1, g2, g3, g4, g5⟩ := reps_zip h2 h4 (List.getElem?_eq_getElem hi)
    have q1 : SqL K H' a vs := SqL.of (r.sub _ _ (s.le _ _ h1))
    have q2 : SqL K H' b ws := SqL.of (r.sub _ _ (s.le _ _ h3))
    refine ⟨⟨vs, ws, v, w, q1, q2, g1, g2⟩, fun z H2 ⟨T, x', y', e1, e2, e3, e4, e5⟩ => ?_⟩
    subst e1
    subst e3
    have z1 := e4 vs q1
    rw [g1] at z1
    cases z1
    have z2 := e5 ws q2
    rw [g2] at z2
    cases z2
    have hf : F' T = none := by
      cases e : F' T with
      | none => rfl
      | some o => rw [r.sub T o e] at e2; cases e2
    have ha : T ∉ ad' := fun hm => r.live T hm e2
    refine ⟨upd F' T (.tup [v, w]), (Step.beside e2).frozen hf e2, (r.beside e2).frozen upd_same hf ha, .tup [x, y], by rw [← g5]; exact List.getElem?_eq_getElem hi, ?_⟩
    exact .tup (.inl (.inl upd_same)) (.cons ((g3.step s).up (up_frozen hf) fun _ _ h => h) (.cons ((g4.step s).up (up_frozen hf) fun _ _ h => h) .nil))
  stop := fun i F' ad' st' H' s r hs hi => by
    refine ⟨vs, ws, SqL.of (r.sub _ _ (s.le _ _ h1)), SqL.of (r.sub _ _ (s.le _ _ h3)), ?_⟩
    rw [h2.length, h4.length]
    have : min xs.length ys.length ≤ i := by simpa using hi
    omega
/-- a value's items, walked -/
theorem items_jok {v : V} {d : D} {ds : List D} (r : RelS K F ad st H) (h : Rep K F ad v d) (e : items st d = some ds) :
    (∃ a ws, v = .ref a ∧ SqL K H a ws ∧ JOk K (Itl K a) d ds F ad H) ∨ (∃ a ws, v = .ref a ∧ SqT K H a ws ∧ JOk K (Itt K a) d ds F ad H) ∨ ∃ z, v = .str z ∧ JOk K (Its z) d ds F ad H := by
  cases h with
  | str z =>
    simp only [items, Option.some.injEq] at e
    subst e
    exact .inr (.inr ⟨z, rfl, jok_str⟩)
  | list hs hr =>
    simp only [items, seqOf, Option.some.injEq] at e
    subst e
    exact .inl ⟨_, _, rfl, SqL.of (r.sub _ _ hs), jok_list (vs := []) fun F' ad' st' H' s r' _ => ⟨_, SqL.of (r'.sub _ _ (s.le _ _ hs)), hr.step s⟩⟩
  | scr hs =>
    simp only [items, seqOf, Option.some.injEq] at e
    subst e
    exact .inl ⟨_, _, rfl, sqlUp r.sub hs, jok_list (vs := []) fun F' ad' st' H' s r' _ => ⟨_, sqlUp r'.sub (sqlUp s.le hs), reps_ints _⟩⟩
  | tup hs hr =>
    simp only [items, seqOf, Option.some.injEq] at e
    subst e
    exact .inr (.inl ⟨_, _, rfl, sqtUp r.sub hs, jok_tup hs hr⟩)
  | ref ha =>
    rename_i a n
    simp only [items, seqOf] at e
    split at e
    · rename_i xs hx
      cases e
      obtain ⟨vs, h1, h2⟩ := r.cell _ _ _ hx ha
      refine .inl ⟨_, vs, rfl, SqL.of h1, jok_list (vs := []) fun F' ad' st' H' s r' hst => ?_⟩
      simp only [stands] at hst
      split at hst
      · rename_i ys hy
        obtain ⟨ws, g1, g2⟩ := r'.cell _ _ _ hy (s.pa _ _ ha)
        rw [sames_eq hst] at g2
        exact ⟨ws, SqL.of g1, g2⟩
      · cases hst
    · cases e
  | none => simp only [items, seqOf] at e; cases e
  | bool _ => simp only [items, seqOf] at e; cases e
  | int _ => simp only [items, seqOf] at e; cases e
end
def iSeq (K : PySem.W.Frag) (t : TE) : TI := fun σ H R => t σ H fun x H1 => (∃ a ws, x = .ref a ∧ SqL K H1 a ws ∧ R (Itl K a) H1) ∨ (∃ a ws, x = .ref a ∧ SqT K H1 a ws ∧ R (Itt K a) H1) ∨ ∃ z, x = .str z ∧ R (Its z) H1
theorem pi_seq {X : Cx} {tg l : Expr} {tl : TE} (hl : PE X l tl) : PI X tg l (iSeq X.K tl) := by
  refine ⟨fun pins s σ H R I h => ?_⟩
  refine thn (hl.run pins s σ H _ I h) fun v s1 ⟨x, H1, I1, r1, q1⟩ => ?_
  rcases q1 with ⟨a, xs, e, hq, q⟩ | ⟨a, xs, e, hq, q⟩ | ⟨z, e, q⟩
  · subst e
    cases r1
    obtain ⟨its, rv, p, hz⟩ := I1.list hq
    refine wpAny_pyIter_list p.isList ?_
    refine ⟨s1.heap.objs.size, [s1.heap.objs.size], _, _, H1, rfl, I1.kept (t' := s1.toks) fun b o e => Heap.get?_push_of_some _ e, turn_list a _, ⟨_, Heap.get?_push_size _ rfl, rfl, rfl⟩, fun b hb => ?_, q⟩
    have e : b = s1.heap.objs.size := by simpa using hb
    subst e
    exact I1.fpOk (Nat.le_refl _) (I1.hok.fresh (Nat.le_refl _))
  · subst e
    cases r1
    obtain ⟨its, rv, p, hz⟩ := I1.tuple hq
    refine wpAny_pyIter_tuple (show s1.heap.IsTuple a its.toArray from p) ?_
    refine ⟨s1.heap.objs.size, [s1.heap.objs.size], _, _, H1, rfl, I1.kept (t' := s1.toks) fun b o e => Heap.get?_push_of_some _ e, turn_tuple a _, ⟨_, Heap.get?_push_size _ rfl, rfl, rfl⟩, fun b hb => ?_, q⟩
    have e : b = s1.heap.objs.size := by simpa using hb
    subst e
    exact I1.fpOk (Nat.le_refl _) (I1.hok.fresh (Nat.le_refl _))
  · subst e
    obtain ⟨t, rfl⟩ := r1
    cases ha : z.cps.all (· < 128)
    · exact wpAny_pyIter_wide ha (pi_one (tk := s1.toks) I1 _ (turn_str _ z t "str_iterator" (.inr rfl)) ⟨_, Heap.get?_push_size _ rfl, rfl, rfl⟩ q)
    · exact wpAny_pyIter_ascii ha (pi_one (tk := s1.toks) I1 _ (turn_str _ z t "str_ascii_iterator" (.inl rfl)) ⟨_, Heap.get?_push_size _ rfl, rfl, rfl⟩ q)
theorem _root_.L2.PI.imp {X : Cx} {tg e : Expr} {t t' : TI} (h : PI X tg e t) (i : ∀ σ H R, t' σ H R → t σ H R) : PI X tg e t' := ⟨fun pins s σ H R I q => h.run pins s σ H R I (i _ _ _ q)⟩
end MP

/-! The program's text against the terms; expressions. -/
namespace MP
open PySem PySem.Spec PyProof.Rows L2

def visB (sc : Scope) (x : Str) : Bool := match sc.names.lookup x with
  | some .local => true
  | some .cell => true
  | some .free => true
  | _ => false
def glB (sc : Scope) (x : Str) : Bool := match sc.names.lookup x with
  | some .globalImplicit => true
  | _ => false
def locB (sc : Scope) (ow : Str → Bool) (x : Str) : Bool := match sc.names.lookup x with
  | some .local => true
  | some .cell => ow x
  | _ => false
def okN (x : Str) : Bool := !(x == ("__debug__" : Str)) && !(x == ("__classdict__" : Str))
theorem vis_of {sc : Scope} {x : Str} (h : visB sc x = true) : Vis sc x := by
  unfold visB at h
  split at h
  · exact .inl (by assumption)
  · exact .inr (.inl (by assumption))
  · exact .inr (.inr (by assumption))
  · cases h
theorem gl_of {X : Cx} {sc : Scope} {x : Str} (e : X.env.scope = sc) (h : glB sc x = true) : Gl X x := by
  subst e
  unfold glB at h
  split at h
  · assumption
  · cases h
theorem ok1 {x : Str} (h : okN x = true) : (x == ("__debug__" : Str)) = false ∧ (x == ("__classdict__" : Str)) = false := by
  unfold okN at h
  rw [Bool.and_eq_true] at h
  exact ⟨by simpa using h.1, by simpa using h.2⟩
def litB : D → Expr → Bool
  | .int i, pe => (match pe with
    | .Constant (.int j) _ _ => i == j
    | .UnaryOp .USub (.Constant (.int j) _ _) _ => i == -j
    | _ => false)
  | .bool b, pe => (match pe with
    | .Constant (.bool c) _ _ => b == c
    | _ => false)
  | .none, pe => (match pe with
    | .Constant .none _ _ => true
    | _ => false)
  | .str x, pe => (match pe with
    | .Constant (.str y) _ _ => x == y
    | _ => false)
  | _, _ => false
def starB : Expr → Bool
  | .Starred _ _ => true
  | _ => false
def plainIxB : Expr → Bool
  | .Slice _ _ _ _ => false
  | _ => true
def setB : Expr → Bool
  | .Set _ _ _ => true
  | _ => false
def callB : Expr → Bool
  | .Call _ _ _ _ => true
  | _ => false
theorem star_each {e : Expr} {es : List Expr} {env : PySem.Env} (h : starB e = false) : starEach (e :: es) env = (false, eval e env) :: starEach es env := by
  cases e <;> first | rfl | cases h
theorem plain_ix {e : Expr} (h : plainIxB e = true) : PlainIx e := by
  intro o i
  cases e <;> first | rfl | cases h
theorem not_set {e : Expr} {env : PySem.Env} (h : setB e = false) : ∀ x, foldedSetIterable e env x = pure x := by
  intro x
  cases e <;> first | rfl | cases h
theorem att_base {e : Expr} {f : Str} {env : PySem.Env} (h : callB e = false) : attributeBase e f env (eval e env) = eval e env := by
  cases e <;> first | rfl | cases h
/-- which built-in function a name is -/
def chkBI (f : BI) (x : Str) : Bool := match f with
  | .len => x == "len"
  | .listOf => x == "list"
  | .tupleOf => x == "tuple"
  | .sorted => x == "sorted"
  | .sum => x == "sum"
  | .any => x == "any"
  | .all => x == "all"
  | .max2 => x == "max"
  | .maxL => x == "max"
  | .minL => x == "min"
  | .toInt => x == "int"
  | _ => false
def chkTy (T : String) (x : Str) : Bool := (T == "bool" && x == "bool") || (T == "int" && x == "int") || (T == "str" && x == "str") || (T == "list" && x == "list") || (T == "tuple" && x == "tuple")
def mtName : MT → Option (Str × Bool)
  | .append => some ("append", false)
  | .extend => some ("extend", false)
  | .pop0 => some ("pop", true)
  | .popAt => some ("pop", false)
  | .insert => some ("insert", false)
  | .reverse => some ("reverse", true)
  | .clear => some ("clear", true)
  | .index => some ("index", false)
  | .sindex => some ("index", false)
  | _ => none
def esLen : Es → Nat
  | .nil => 0
  | .cons _ es => esLen es + 1
def fewB (cpos : Pos) (n : Nat) : Bool := decide (n < 30)

def chkNames (N : List Str) (sc : Scope) (ow : Str → Bool) : List Nat → List Expr → Bool
  | [], [] => true
  | i :: is, .Name x _ :: ps => (N[i]? == some x) && locB sc ow x && chkNames N sc ow is ps
  | _, _ => false
def chkTg (N : List Str) (sc : Scope) (ow : Str → Bool) : Tg → Expr → Bool
  | .one i, pe => (match pe with
    | .Name x _ => (N[i]? == some x) && locB sc ow x
    | _ => false)
  | .many is, pe => (match pe with
    | .Tuple ps _ _ => chkNames N sc ow is ps
    | _ => false)
def tupB : Expr → Bool
  | .Tuple _ _ _ => true
  | _ => false
def owB (scope : Scope) (x : Str) : Bool := scope.names.lookup x == some .cell
def ownP (N : List Str) (own : List Nat) : List (Str × Nat) := own.map fun i => ((N[i]?).getD "", i)
def isTrueLit : E → Bool
  | .lit (.bool true) => true
  | _ => false
mutual
def chkE (T : Nat → Option Def) (G : Str → Option D) (N : List Str) (sc : Scope) (ow : Str → Bool) : E → Expr → Bool
  | .var i, pe => (match pe with
    | .Name x _ => (N[i]? == some x) && visB sc x && okN x
    | _ => false)
  | .lit d, pe => litB d pe
  | .glob x d, pe => (match pe with
    | .Name y _ => x == y && glB sc y && okN y && (match G x with
      | some d' => d.same d'
      | none => false)
    | _ => false)
  | .bin o a b, pe => (match pe with
    | .BinOp pa op pb _ => decide (op = bopOf o) && chkE T G N sc ow a pa && chkE T G N sc ow b pb
    | _ => false)
  | .cmp o a b, pe => (match pe with
    | .Compare pa [op] [pb] _ => decide (op = copOf o) && !behindInMarks op pb && chkE T G N sc ow a pa && chkE T G N sc ow b pb
    | _ => false)
  | .chain o p a b c, pe => (match pe with
    | .Compare pa [op, op'] [pb, pc] _ => decide (op = copOf o) && decide (op' = copOf p) && !lastMarks [op, op'] [pb, pc] && chkE T G N sc ow a pa && chkE T G N sc ow b pb && chkE T G N sc ow c pc
    | _ => false)
  | .land a b, pe => (match pe with
    | .BoolOp .And [pa, pb] _ => tokB pa && tokB pb && chkE T G N sc ow a pa && chkE T G N sc ow b pb
    | .BoolOp .And (pa :: pb :: pc :: r) pos => tokB pa && chkE T G N sc ow a pa && chkE T G N sc ow b (.BoolOp .And (pb :: pc :: r) pos)
    | _ => false)
  | .lor a b, pe => (match pe with
    | .BoolOp .Or [pa, pb] _ => tokB pa && tokB pb && chkE T G N sc ow a pa && chkE T G N sc ow b pb
    | .BoolOp .Or (pa :: pb :: pc :: r) pos => tokB pa && chkE T G N sc ow a pa && chkE T G N sc ow b (.BoolOp .Or (pb :: pc :: r) pos)
    | _ => false)
  | .lnot a, pe => (match pe with
    | .UnaryOp .Not pa _ => tokB pa && chkE T G N sc ow a pa
    | _ => false)
  | .ite c a b, pe => (match pe with
    | .IfExp pc pa pb _ => tokB pc && chkE T G N sc ow c pc && chkE T G N sc ow a pa && chkE T G N sc ow b pb
    | _ => false)
  | .tup es, pe => (match pe with
    | .Tuple ps _ _ => chkEs T G N sc ow es ps
    | _ => false)
  | .list es, pe => (match pe with
    | .List ps _ => chkEs T G N sc ow es ps
    | _ => false)
  | .ix a b, pe => (match pe with
    | .Subscript pa pb _ => plainIxB pb && chkE T G N sc ow a pa && chkE T G N sc ow b pb
    | _ => false)
  | .sl a lo hi, pe => (match pe with
    | .Subscript pa (.Slice plo phi none _) _ => chkE T G N sc ow a pa && (match plo with
        | none => isNoneLit lo
        | some p => !isNoneLit lo && chkE T G N sc ow lo p) && (match phi with
        | none => isNoneLit hi
        | some p => !isNoneLit hi && chkE T G N sc ow hi p)
    | _ => false)
  | .call f es, pe => (match pe with
    | .Call (.Name x _) ps [] _ => (match T f with
      | some d => d.name == x && okN x && glB sc x && chkEs T G N sc ow es ps
      | none => false)
    | _ => false)
  | .callC f es, pe => (match pe with
    | .Call (.Name x _) ps [] _ => (match T f with
      | some d => d.name == x && okN x && glB sc x && chkEs T G N sc ow es ps
      | none => false)
    | _ => false)
  | .callS f es, pe => (match pe with
    | .Call (.Name x _) ps [] _ => (match T f with
      | some d => d.name == x && okN x && glB sc x && chkEs T G N sc ow es ps
      | none => false)
    | _ => false)
  | .bi f es, pe => (match f with
    | .range1 => (match pe with
      | .Call (.Name x _) [.Call (.Name y _) [pa] [] _] [] _ => x == "list" && y == "range" && glB sc x && glB sc y && !starB pa && (match es with
        | .cons e .nil => chkE T G N sc ow e pa
        | _ => false)
      | _ => false)
    | .isinst Ty => (match pe with
      | .Call (.Name x _) [pa, .Name y _] [] _ => x == "isinstance" && chkTy Ty y && glB sc x && glB sc y && !starB pa && (match es with
        | .cons e .nil => chkE T G N sc ow e pa
        | _ => false)
      | _ => false)
    | .tabIn neg x ks vs => (match pe with
      | .Compare pa [op] [.Name y _] _ => decide (op = copOf (if neg then .notin else .isin)) && x == y && glB sc y && okN y && tabG G y ks vs && (match es with
        | .cons e .nil => chkE T G N sc ow e pa
        | _ => false)
      | _ => false)
    | .tabGet x ks vs => (match pe with
      | .Subscript (.Name y _) pb _ => x == y && glB sc y && okN y && tabG G y ks vs && plainIxB pb && (match es with
        | .cons e .nil => chkE T G N sc ow e pb
        | _ => false)
      | _ => false)
    | .maxD0 => (match pe with
      | .Call (.Name x _) [pa] [⟨some y, pv, _⟩] _ => x == "max" && y == "default" && litB (.int 0) pv && glB sc x && !starB pa && (match es with
        | .cons e .nil => chkE T G N sc ow e pa
        | _ => false)
      | _ => false)
    | _ => (match pe with
      | .Call (.Name x _) (p :: ps) [] _ => chkBI f x && glB sc x && !starB p && chkEs T G N sc ow es (p :: ps)
      | _ => false))
  | .mt m o es, pe => (match pe with
    | .Call (.Attribute po y apos) ps [] cpos => (match mtName m with
      | some (n, z) => n == y && !callB po && chkE T G N sc ow o po && (apos.endLine == cpos.line) && decide (ps.length < 30) && (z == ps.isEmpty) && chkEs T G N sc ow es ps
      | none => false)
    | _ => false)
  | .comp elt tg it cond own, pe => (match pe with
    | .ListComp pelt [⟨ptg, pit, pifs, 0⟩] scope _ => blkC N sc scope (ownP N own) && chkI T G N sc ow (tupB ptg) it pit && !setB pit && (tgIx tg).all (fun i => own.contains i) &&
        chkTg N (relS scope sc) (owB scope) tg ptg && chkE T G N (relS scope sc) (owB scope) elt pelt && (match pifs with
        | [] => isTrueLit cond
        | [pc] => tokB pc && chkE T G N (relS scope sc) (owB scope) cond pc
        | _ => false)
    | _ => false)
  | .cell e, pe => chkE T G N sc ow e pe
  | .dnew _, _ => false
def chkEs (T : Nat → Option Def) (G : Str → Option D) (N : List Str) (sc : Scope) (ow : Str → Bool) : Es → List Expr → Bool
  | .nil, ps => ps.isEmpty
  | .cons e es, ps => (match ps with
    | p :: ps => !starB p && chkE T G N sc ow e p && chkEs T G N sc ow es ps
    | [] => false)
def chkI (T : Nat → Option Def) (G : Str → Option D) (N : List Str) (sc : Scope) (ow : Str → Bool) (tup : Bool) : It → Expr → Bool
  | .seq e, pe => chkE T G N sc ow e pe
  | .range1 a, pe => (match pe with
    | .Call (.Name x _) [pa] [] _ => x == "range" && glB sc x && !starB pa && chkE T G N sc ow a pa
    | _ => false)
  | .range2 a b, pe => (match pe with
    | .Call (.Name x _) [pa, pb] [] _ => x == "range" && glB sc x && !starB pa && !starB pb && chkE T G N sc ow a pa && chkE T G N sc ow b pb
    | _ => false)
  | .zip a b, pe => (match pe with
    | .Call (.Name x _) [pa, pb] [] _ => tup && x == "zip" && glB sc x && !starB pa && !starB pb && chkE T G N sc ow a pa && chkE T G N sc ow b pb
    | _ => false)
end
end MP

/-! The expressions are sound, one form after another. -/
namespace MP
open PySem PySem.Spec PyProof.Rows L2

section
variable {C : Con} {N : List Str} {X : Cx} {sc : Scope} {ow : Str → Bool} {ew : L2.St → XK}
theorem sd_var {i : Nat} {pe : Expr} (g : Good C N X sc ow ew) (h : chkE C.T C.G N sc ow (.var i) pe = true) : Sd C X ew (.var i) pe := by
  unfold chkE at h
  split at h
  · rename_i x pos
    simp only [Bool.and_eq_true, beq_iff_eq] at h
    obtain ⟨⟨h1, h2⟩, h3⟩ := h
    refine Sd.plain ((pe_var (i := i) (by rw [g.hN]; exact h1) (by rw [g.sc]; exact vis_of h2) (ok1 h3).1 (ok1 h3).2).imp fun σ H Q ⟨F, ad, env, st, r, en, ok⟩ => ?_) rfl
    unfold evX at ok
    split at ok
    · rename_i d e
      obtain ⟨v, e1, e2⟩ := en.at_ i d e
      exact ⟨v, e1, ok.val r e2⟩
    · exact ok.elim
  · cases h
theorem sd_lit {d : D} {pe : Expr} (h : litB d pe = true) : Sd C X ew (.lit d) pe := by
  have key : ∀ {pe : Expr} {v : V}, PE X pe (tC v) → (∀ F ad, Rep X.K F ad v d) → PE X pe (tX C X ew (.lit d)) := fun hp hr => hp.imp fun σ H Q ⟨F, ad, env, st, r, en, ok⟩ => by
    unfold evX at ok
    exact ok.val r (hr F ad)
  unfold litB at h
  split at h
  · split at h
    · rw [beq_iff_eq] at h
      subst h
      exact Sd.plain (key pe_int fun _ _ => .int _) rfl
    · rw [beq_iff_eq] at h
      subst h
      refine Sd.plain ((pe_un un_neg pe_int).imp fun σ H Q ⟨F, ad, env, st, r, en, ok⟩ => ?_) rfl
      unfold evX at ok
      exact ⟨_, rfl, ok.val r (.int _)⟩
    · cases h
  · split at h
    · rw [beq_iff_eq] at h
      subst h
      exact Sd.plain (key pe_bl fun _ _ => .bool _) rfl
    · cases h
  · split at h
    · exact Sd.plain (key pe_non fun _ _ => .none) rfl
    · cases h
  · split at h
    · rw [beq_iff_eq] at h
      subst h
      exact Sd.plain (key pe_str fun _ _ => .str _) rfl
    · cases h
  · cases h
theorem sd_glob {x : Str} {d : D} {pe : Expr} (g : Good C N X sc ow ew) (h : chkE C.T C.G N sc ow (.glob x d) pe = true) : Sd C X ew (.glob x d) pe := by
  unfold chkE at h
  split at h
  · rename_i y pos
    simp only [Bool.and_eq_true, beq_iff_eq] at h
    obtain ⟨⟨⟨h1, h2⟩, h3⟩, h4⟩ := h
    subst h1
    split at h4
    · rename_i d' e
      have hdk : d'.isDk = false := by cases d <;> cases d' <;> first | rfl | (simp [D.same] at h4)
      obtain ⟨u, v, e1, e2, e3⟩ := g.facts.glo _ _ e hdk
      refine Sd.plain ((pe_glob (gl_of g.sc h2) e1 e2 (ok1 h3).1).imp fun σ H Q ⟨F, ad, env, st, r, en, ok⟩ => ?_) rfl
      unfold evX at ok
      rw [D.same_eq h4] at ok
      exact ok.val r (e3 F ad)
    · cases h4
  · cases h
theorem sd_bin {o : BOp} {a b : E} {pa pb : Expr} {pos : Pos} (ha : Sd C X ew a pa) (hb : Sd C X ew b pb) : Sd C X ew (.bin o a b) (.BinOp pa (bopOf o) pb pos) := by
  refine Sd.plain ((pe_op (fun pins s σ H x y v u Q I rx ry (q : ∃ σ : L2.St, rBin X.K C.cls (ew σ) (binV o) x y H Q) => ?_) ha.ex hb.ex).imp fun σ H Q ⟨F, ad, env, st, r, en, ok⟩ => ?_) rfl
  · obtain ⟨σ', q⟩ := q
    exact op_bin (cls := C.cls) (ew := ew σ') o pins s σ H x y v u Q I rx ry q
  · unfold evX at ok
    refine ⟨F, ad, env, st, r, en, ok.bindF fun x st1 F1 ad1 H1 v s1 r1 x1 ok1 => ?_⟩
    refine ⟨F1, ad1, env, st1, r1, en.step s1, ok1.bindF fun y st2 F2 ad2 H2 w s2 r2 y2 ok2 => ?_⟩
    exact ⟨σ, F2, ad2, st2, x.d, y.d, r2, x1.step s2, y2, ok2⟩
theorem units_ok (g : Good C N X sc ow ew) : X.A.units + 65 < cLine := by
  have := g.room.un
  omega
theorem sd_cmp {o : COp} {a b : E} {pa pb : Expr} {pos : Pos} (g : Good C N X sc ow ew) (ha : Sd C X ew a pa) (hb : Sd C X ew b pb) (hm : behindInMarks (copOf o) pb = false) : Sd C X ew (.cmp o a b) (.Compare pa [copOf o] [pb] pos) := by
  have key : ∀ {σ : L2.St} {H : Hp} {Q : VK}, tX C X ew (.cmp o a b) σ H Q → tOp (rCmp X.K o) (tX C X ew a) (tX C X ew b) σ H Q := fun {σ H Q} ⟨F, ad, env, st, r, en, ok⟩ => by
    unfold evX at ok
    refine ⟨F, ad, env, st, r, en, ok.bindF fun x st1 F1 ad1 H1 v s1 r1 x1 ok1 => ?_⟩
    refine ⟨F1, ad1, env, st1, r1, en.step s1, ok1.bindF fun y st2 F2 ad2 H2 w s2 r2 y2 ok2 => ?_⟩
    refine ⟨F2, ad2, st2, x.d, y.d, r2, x1.step s2, y2, ?_⟩
    split at ok2
    · rename_i c e
      exact ⟨c, e, ok2.val r2 (.bool c)⟩
    · exact ok2.elim
  refine ⟨(pe_cmpR (op_cmp (units_ok g) o) ha.ex hb.ex hm).imp fun σ H Q q => key q, fun _ => (pt_cmpR (op_cmp (units_ok g) o) ha.ex hb.ex hm).imp fun σ H Q q => key q, fun q => by cases q⟩
theorem sd_chain {o p : COp} {a b c : E} {pa pb pc : Expr} {pos : Pos} (g : Good C N X sc ow ew) (ha : Sd C X ew a pa) (hb : Sd C X ew b pb) (hc : Sd C X ew c pc) (hm : lastMarks [copOf o, copOf p] [pb, pc] = false) : Sd C X ew (.chain o p a b c) (.Compare pa [copOf o, copOf p] [pb, pc] pos) := by
  have key : ∀ {σ : L2.St} {H : Hp} {Q : VK}, tX C X ew (.chain o p a b c) σ H Q → tChain (rCmp X.K o) (rCmp X.K p) (tX C X ew a) (tX C X ew b) (tX C X ew c) σ H Q := fun {σ H Q} ⟨F, ad, env, st, r, en, ok⟩ => by
    unfold evX at ok
    refine ⟨F, ad, env, st, r, en, ok.bindF fun x st1 F1 ad1 H1 v s1 r1 x1 ok1 => ?_⟩
    refine ⟨F1, ad1, env, st1, r1, en.step s1, ok1.bindF fun y st2 F2 ad2 H2 w s2 r2 y2 ok2 => ?_⟩
    split at ok2
    · rename_i e
      refine ⟨F2, ad2, st2, x.d, y.d, r2, x1.step s2, y2, true, e, true, rfl, ?_⟩
      rw [if_pos rfl]
      refine ⟨F2, ad2, env, st2, r2, (en.step s1).step s2, ok2.bindF fun z st3 F3 ad3 H3 u s3 r3 z3 ok3 => ?_⟩
      refine ⟨F3, ad3, st3, y.d, z.d, r3, y2.step s3, z3, ?_⟩
      split at ok3
      · rename_i k e'
        exact ⟨k, e', ok3.val r3 (.bool k)⟩
      · exact ok3.elim
    · rename_i e
      refine ⟨F2, ad2, st2, x.d, y.d, r2, x1.step s2, y2, false, e, false, rfl, ?_⟩
      rw [if_neg (by decide)]
      exact ok2.val r2 (.bool false)
    · exact ok2.elim
  refine ⟨(pe_chain (op_cmp (units_ok g) o) (op_cmp (units_ok g) p) ha.ex hb.ex hc.ex hm).imp fun σ H Q q => key q, fun _ => (pt_chain (op_cmp (units_ok g) o) (op_cmp (units_ok g) p) ha.ex hb.ex hc.ex hm).imp fun σ H Q q => key q, fun q => by cases q⟩

/-- a reading as a test -/
theorem tB_of {t : TE} {σ : L2.St} {H : Hp} {Q : Bool → Hp → Prop} (h : t σ H fun x H1 => ∃ c, x = .bl c ∧ Q c H1) : tB t σ H Q := h
/-- and: the first part, then the second -/
theorem land_key {a b : E} {σ : L2.St} {H : Hp} {Q : VK} (h : tX C X ew (.land a b) σ H Q) : tX C X ew a σ H fun x H1 => ∃ c, x = .bl c ∧ if c = true then tX C X ew b σ H1 Q else Q (.bl false) H1 := by
  obtain ⟨F, ad, env, st, r, en, ok⟩ := h
  unfold evX at ok
  refine ⟨F, ad, env, st, r, en, ok.bindF fun x st1 F1 ad1 H1 v s1 r1 x1 ok1 => ?_⟩
  split at ok1
  · cases x1
    exact ⟨true, rfl, by rw [if_pos rfl]; exact ⟨F1, ad1, env, st1, r1, en.step s1, ok1⟩⟩
  · cases x1
    exact ⟨false, rfl, by rw [if_neg (by decide)]; exact ok1.val r1 (.bool false)⟩
  · exact ok1.elim
theorem lor_key {a b : E} {σ : L2.St} {H : Hp} {Q : VK} (h : tX C X ew (.lor a b) σ H Q) : tX C X ew a σ H fun x H1 => ∃ c, x = .bl c ∧ if c = true then Q (.bl true) H1 else tX C X ew b σ H1 Q := by
  obtain ⟨F, ad, env, st, r, en, ok⟩ := h
  unfold evX at ok
  refine ⟨F, ad, env, st, r, en, ok.bindF fun x st1 F1 ad1 H1 v s1 r1 x1 ok1 => ?_⟩
  split at ok1
  · cases x1
    exact ⟨false, rfl, by rw [if_neg (by decide)]; exact ⟨F1, ad1, env, st1, r1, en.step s1, ok1⟩⟩
  · cases x1
    exact ⟨true, rfl, by rw [if_pos rfl]; exact ok1.val r1 (.bool true)⟩
  · exact ok1.elim
theorem ite_mono {c : Bool} {A B A' B' : Prop} (h : if c = true then A else B) (h1 : A → A') (h2 : B → B') : if c = true then A' else B' := by
  cases c with
  | true => rw [if_pos rfl] at h ⊢; exact h1 h
  | false => rw [if_neg (by decide)] at h ⊢; exact h2 h
/-- the wanted end weakened -/
theorem tX_mono {e : E} {σ : L2.St} {H : Hp} {Q Q' : VK} (h : tX C X ew e σ H Q) (i : ∀ x H1, Q x H1 → Q' x H1) : tX C X ew e σ H Q' := by
  obtain ⟨F, ad, env, st, r, en, ok⟩ := h
  refine ⟨F, ad, env, st, r, en, ?_⟩
  cases q : evX (run C.T C.k) e env st with
  | ok x st' => rw [q] at ok; exact fun F' ad' H' v s r' x' => i _ _ (ok F' ad' H' v s r' x')
  | err c st' => rw [q] at ok; exact ok
  | stuck => rw [q] at ok; exact ok
theorem sd_land {a b : E} {pa pb : Expr} {rest : List Expr} {pos : Pos} (ha : Sd C X ew a pa) (ta : tokB pa = true)
    (hb : PE X (.BoolOp .And (pb :: rest) pos) (tX C X ew b)) (hw : PW X (.BoolOp .And (pb :: rest) pos) (tB (tX C X ew b))) : Sd C X ew (.land a b) (.BoolOp .And (pa :: pb :: rest) pos) := by
  have w : PW X (.BoolOp .And (pa :: pb :: rest) pos) (tB (tX C X ew (.land a b))) := (pw_and (ha.tst ta) hw).imp fun σ H Q h => by
    refine tX_mono (land_key h) fun x H1 ⟨c, e, q⟩ => ⟨c, e, ite_mono q (fun z => z) fun ⟨c', e', z⟩ => by cases e'; exact z⟩
  exact ⟨(pe_and ha.ex hb).imp fun σ H Q h => land_key h, fun _ => w.pt, fun _ => w⟩
theorem sd_lor {a b : E} {pa pb : Expr} {rest : List Expr} {pos : Pos} (ha : Sd C X ew a pa) (ta : tokB pa = true)
    (hb : PE X (.BoolOp .Or (pb :: rest) pos) (tX C X ew b)) (hw : PW X (.BoolOp .Or (pb :: rest) pos) (tB (tX C X ew b))) : Sd C X ew (.lor a b) (.BoolOp .Or (pa :: pb :: rest) pos) := by
  have w : PW X (.BoolOp .Or (pa :: pb :: rest) pos) (tB (tX C X ew (.lor a b))) := (pw_or (ha.tst ta) hw).imp fun σ H Q h => by
    refine tX_mono (lor_key h) fun x H1 ⟨c, e, q⟩ => ⟨c, e, ite_mono q (fun ⟨c', e', z⟩ => by cases e'; exact z) fun z => z⟩
  exact ⟨(pe_or ha.ex hb).imp fun σ H Q h => lor_key h, fun _ => w.pt, fun _ => w⟩
theorem sd_lnot {a : E} {pa : Expr} {pos : Pos} (ha : Sd C X ew a pa) (ta : tokB pa = true) : Sd C X ew (.lnot a) (.UnaryOp .Not pa pos) := by
  have key : ∀ {σ : L2.St} {H : Hp} {Q : VK}, tX C X ew (.lnot a) σ H Q → tX C X ew a σ H fun x H1 => ∃ c, x = .bl c ∧ Q (.bl (!c)) H1 := fun {σ H Q} ⟨F, ad, env, st, r, en, ok⟩ => by
    unfold evX at ok
    refine ⟨F, ad, env, st, r, en, ok.bindF fun x st1 F1 ad1 H1 v s1 r1 x1 ok1 => ?_⟩
    split at ok1
    · cases x1
      exact ⟨_, rfl, ok1.val r1 (.bool _)⟩
    · exact ok1.elim
  refine ⟨(pe_not ha.ex).imp fun σ H Q h => key h, fun _ => (pt_not (ha.tst ta)).imp fun σ H Q h => ?_, fun q => by cases q⟩
  exact tX_mono (key h) fun x H1 ⟨c, e, c', e', q⟩ => ⟨c, e, by cases e'; exact q⟩
theorem sd_ite {c a b : E} {pc pa pb : Expr} {pos : Pos} (hc : Sd C X ew c pc) (tc : tokB pc = true) (ha : Sd C X ew a pa) (hb : Sd C X ew b pb) : Sd C X ew (.ite c a b) (.IfExp pc pa pb pos) := by
  refine ⟨(pe_ifExp (hc.tst tc) ha.ex hb.ex).imp fun σ H Q ⟨F, ad, env, st, r, en, ok⟩ => ?_, fun q => (by cases q), fun q => by cases q⟩
  unfold evX at ok
  refine ⟨F, ad, env, st, r, en, ok.bindF fun x st1 F1 ad1 H1 v s1 r1 x1 ok1 => ?_⟩
  split at ok1
  · cases x1
    exact ⟨true, rfl, iteT ⟨F1, ad1, env, st1, r1, en.step s1, ok1⟩⟩
  · cases x1
    exact ⟨false, rfl, iteF ⟨F1, ad1, env, st1, r1, en.step s1, ok1⟩⟩
  · exact ok1.elim
/-! lists of expressions -/
theorem sd_nil : PA X [] (tXs C X ew .nil) := pa_nil.imp fun σ H Q ⟨F, ad, env, st, r, en, ok⟩ => by
  unfold evXs at ok
  exact ok F ad H [] (Step.refl _ _ _) r .nil
theorem sd_cons {e : E} {es : Es} {p : Expr} {ps : List Expr} (h : Sd C X ew e p) (hs : PA X ps (tXs C X ew es)) (hst : starB p = false) : PA X (p :: ps) (tXs C X ew (.cons e es)) :=
  (pa_cons h.ex hs (star_each hst)).imp fun σ H Q ⟨F, ad, env, st, r, en, ok⟩ => by
    unfold evXs at ok
    refine ⟨F, ad, env, st, r, en, ok.bindF fun x st1 F1 ad1 H1 v s1 r1 x1 ok1 => ?_⟩
    refine ⟨F1, ad1, env, st1, r1, en.step s1, ok1.bindL fun xs st2 F2 ad2 H2 vs s2 r2 xs2 ok2 => ?_⟩
    exact ok2 F2 ad2 H2 _ (Step.refl _ _ _) r2 (.cons (x1.step s2) xs2)
theorem sd_tup {es : Es} {ps : List Expr} {x1} {pos : Pos} (hs : PA X ps (tXs C X ew es)) : Sd C X ew (.tup es) (.Tuple ps x1 pos) := by
  refine Sd.plain ((pe_tup hs).imp fun σ H Q ⟨F, ad, env, st, r, en, ok⟩ => ?_) rfl
  unfold evX at ok
  refine ⟨F, ad, env, st, r, en, ok.bindL fun xs st2 F2 ad2 H2 vs s2 r2 xs2 ok2 => ?_⟩
  obtain ⟨hl, ok2⟩ := ite_ok (X := X) ok2
  exact ⟨by rw [xs2.length]; exact hl, fun p hp => ok2.tuple r2 xs2 hp⟩
theorem sd_list {es : Es} {ps : List Expr} {pos : Pos} (hs : PA X ps (tXs C X ew es)) : Sd C X ew (.list es) (.List ps pos) := by
  refine Sd.plain ((pe_lst hs).imp fun σ H Q ⟨F, ad, env, st, r, en, ok⟩ => ?_) rfl
  unfold evX at ok
  refine ⟨F, ad, env, st, r, en, ok.bindL fun xs st2 F2 ad2 H2 vs s2 r2 xs2 ok2 => ?_⟩
  obtain ⟨hl, ok2⟩ := ite_ok (X := X) ok2
  exact ⟨by rw [xs2.length]; exact hl, fun p hp => ok2.list r2 xs2 hp⟩
theorem sd_ix {a b : E} {pa pb : Expr} {pos : Pos} (ha : Sd C X ew a pa) (hb : Sd C X ew b pb) (hi : plainIxB pb = true) : Sd C X ew (.ix a b) (.Subscript pa pb pos) := by
  refine Sd.plain ((pe_ix ix_D ha.ex hb.ex (plain_ix hi)).imp fun σ H Q ⟨F, ad, env, st, r, en, ok⟩ => ?_) rfl
  unfold evX at ok
  refine ⟨F, ad, env, st, r, en, ok.bindF fun x st1 F1 ad1 H1 v s1 r1 x1 ok1 => ?_⟩
  refine ⟨F1, ad1, env, st1, r1, en.step s1, ok1.bindF fun y st2 F2 ad2 H2 w s2 r2 y2 ok2 => ?_⟩
  split at ok2
  · rename_i d e
    exact ⟨F2, ad2, st2, x.d, y.d, d, r2, x1.step s2, y2, e, fun v hv => ok2.val r2 hv⟩
  · exact ok2.elim
/-- a slice's part -/
theorem po_of {e : E} {po : Option Expr} (h : match po with
    | none => isNoneLit e = true
    | some p => isNoneLit e = false ∧ Sd C X ew e p) : PO X po (fun σ H R => tX C X ew e σ H fun x H1 => if isNoneLit e = true then R none H1 else ∃ i, x = .int i ∧ R (some i) H1) := by
  cases po with
  | none =>
    refine ⟨fun pins s σ H R I q => ?_⟩
    refine po_none.run pins s σ H R I ?_
    have h : isNoneLit e = true := h
    obtain ⟨F, ad, env, st, r, en, ok⟩ := q
    unfold isNoneLit at h
    split at h
    · unfold evX at ok
      have z := ok.val r .none
      exact z
    · cases h
  | some p =>
    obtain ⟨h1, h2⟩ := h
    refine ⟨fun pins s σ H R I q => ?_⟩
    refine (po_some h2.ex).run pins s σ H R I ?_
    refine tX_mono q fun x H1 z => ?_
    rw [h1] at z
    exact z
theorem sd_sl {a lo hi : E} {pa : Expr} {plo phi : Option Expr} {p2 pos : Pos} (ha : Sd C X ew a pa) (hl : match plo with
    | none => isNoneLit lo = true
    | some p => isNoneLit lo = false ∧ Sd C X ew lo p) (hh : match phi with
    | none => isNoneLit hi = true
    | some p => isNoneLit hi = false ∧ Sd C X ew hi p) : Sd C X ew (.sl a lo hi) (.Subscript pa (.Slice plo phi none p2) pos) := by
  refine Sd.plain ((pe_slice (r := fun x l u H Q => rSlD X.K C.cls (fun _ _ _ => True) x l u H Q ∨ ∃ σ, rSlD X.K C.cls (ew σ) x l u H Q) (SlR.or sl_D fun pins s σ H x v vl vu l u sl Q I rx hs pl pu ⟨σ', q⟩ => sl_D (cls := C.cls) (ew := ew σ') pins s σ H x v vl vu l u sl Q I rx hs pl pu q) ha.ex (po_of hl) (po_of hh)).imp fun σ H Q ⟨F, ad, env, st, r, en, ok⟩ => ?_) rfl
  unfold evX at ok
  refine ⟨F, ad, env, st, r, en, ok.bindF fun x st1 F1 ad1 H1 v s1 r1 x1 ok1 => ?_⟩
  refine ⟨F1, ad1, env, st1, r1, en.step s1, ok1.bindF fun y st2 F2 ad2 H2 w s2 r2 y2 ok2 => ?_⟩
  have main : ∀ l, partOf lo y.d = some l → tX C X ew hi σ H2 fun x' H3 => if isNoneLit hi = true then (rSlD X.K C.cls (fun _ _ _ => True) v l none H3 Q ∨ ∃ σ, rSlD X.K C.cls (ew σ) v l none H3 Q) else ∃ i, x' = .int i ∧ (rSlD X.K C.cls (fun _ _ _ => True) v l (some i) H3 Q ∨ ∃ σ, rSlD X.K C.cls (ew σ) v l (some i) H3 Q) := fun l el => by
    rw [el] at ok2
    refine ⟨F2, ad2, env, st2, r2, (en.step s1).step s2, ok2.bindF fun z st3 F3 ad3 H3 u s3 r3 z3 ok3 => ?_⟩
    unfold partOf at ok3
    by_cases hn : isNoneLit hi = true
    · rw [if_pos hn] at ok3 ⊢
      exact .inr ⟨σ, F3, ad3, st3, x.d, r3, (x1.step s2).step s3, ok3⟩
    · rw [if_neg hn] at ok3 ⊢
      generalize hz : z.d = zd at *
      cases z3 with
      | int i => exact ⟨i, rfl, .inr ⟨σ, F3, ad3, st3, x.d, r3, (x1.step s2).step s3, ok3⟩⟩
      | _ => exact ok3.elim
  have main2 := main
  unfold partOf at main2
  by_cases hn : isNoneLit lo = true
  · rw [if_pos hn]
    exact main2 none (by rw [if_pos hn])
  · rw [if_neg hn]
    have ok2' := ok2
    unfold partOf at ok2'
    rw [if_neg hn] at ok2'
    generalize hy : y.d = yd at *
    cases y2 with
    | int i => exact ⟨i, rfl, main2 (some i) (by rw [if_neg hn])⟩
    | _ => exact ok2'.elim
end
end MP

/-! Calls of the defs, of built-in functions, of lists' methods. -/
namespace MP
open PySem PySem.Spec PyProof.Rows L2

def nostar : List Expr → Bool
  | [] => true
  | e :: es => !starB e && nostar es
theorem back_any {pos : Pos} {env : PySem.Env} : ∀ {es : List Expr}, nostar es = true → (backTo pos (starEach es env)).any (·.1) = false
  | [], _ => rfl
  | e :: es, h => by
    unfold nostar at h
    simp only [Bool.and_eq_true, Bool.not_eq_true'] at h
    rw [star_each h.1]
    show (false || (backTo pos (starEach es env)).any (·.1)) = false
    rw [back_any h.2]; rfl
theorem back_all {pos : Pos} {env : PySem.Env} : ∀ {es : List Expr}, nostar es = true → (backTo pos (starEach es env)).all (fun x => !x.1) = true
  | [], _ => rfl
  | e :: es, h => by
    unfold nostar at h
    simp only [Bool.and_eq_true, Bool.not_eq_true'] at h
    rw [star_each h.1]
    show (true && (backTo pos (starEach es env)).all (fun x => !x.1)) = true
    rw [back_all h.2]; rfl
section
variable {C : Con} {N : List Str} {X : Cx} {sc : Scope} {ow : Str → Bool} {ew : L2.St → XK}
theorem pe_callS0 {CX : CXT} {k : Nat} {f : Addr} {fd : FuncData} {ps : List Str} {sp : Sp} {E : L2.St → XK} {x : Str} {p pos : Pos} (F : FnOk X.prog X.w X.K X.mg X.base CX k f fd ps sp) (hr : Room k X.A) (hg : Gl X x) (hm : X.mg x = some (.ref f)) (hk : PySem.W.keepIn X.K (.ref f) = true) (hb : Binds X.K fd ps []) (hx : ∀ σ, PassesAt CX X σ (E σ))
    (hdb : (x == ("__debug__" : Str)) = false) : PE X (.Call (.Name x p) [] [] pos) (tCallS sp E tNil) := by
  refine ⟨fun pins s σ H Q I h => ?_⟩
  refine wpAny_Call_Name_kw (ld_glob I hg hm ?_ hdb)
  exact PySem.W.callWith_K0 I.kIn hk (run_fnS (us := []) F hr hb (hx σ) I .nil h)
theorem sd_callG {e : E} {f : Nat} {d : Def} {es : Es} {x : Str} {p pos : Pos} {ps : List Expr} (g : Good C N X sc ow ew) (hT : C.T f = some d) (hn : d.name = x) (ho : okN x = true) (hs : glB sc x = true) (ha : PA X ps (tXs C X ew es)) (ns : nostar ps = true) (hz : ps = [] → es = .nil)
    (key : ∀ σ H Q, tX C X ew e σ H Q → tXs C X ew es σ H fun vs H1 => spF C X.K C.k f vs H1 Q (ew σ)) : Sd C X ew e (.Call (.Name x p) ps [] pos) := by
  obtain ⟨a, fd, F, hm, hk, hb⟩ := g.facts.fns f d hT
  rw [hn] at hm
  refine Sd.plain ?_ rfl
  cases ps with
  | nil =>
    refine (pe_callS0 F g.room (gl_of g.sc hs) hm hk hb g.pass (ok1 ho).1).imp fun σ H Q q => ?_
    have q1 := key σ H Q q
    rw [hz rfl] at q1
    obtain ⟨F, ad, env, st, r, en, ok⟩ := q1
    unfold evXs at ok
    exact ok F ad H [] (Step.refl _ _ _) r .nil
  | cons p0 ps =>
    unfold nostar at ns
    simp only [Bool.and_eq_true, Bool.not_eq_true'] at ns
    exact (pe_callS F g.room (gl_of g.sc hs) hm hk hb g.pass ha (ok1 ho).1 (star_each ns.1) (back_any ns.2)).imp fun σ H Q q => key σ H Q q
theorem key_call {f : Nat} {es : Es} {σ : L2.St} {H : Hp} {Q : VK} (h : tX C X ew (.call f es) σ H Q) : tXs C X ew es σ H fun vs H1 => spF C X.K C.k f vs H1 Q (ew σ) := by
  obtain ⟨F, ad, env, st, r, en, ok⟩ := h
  unfold evX at ok
  refine ⟨F, ad, env, st, r, en, ok.bindL fun xs st2 F2 ad2 H2 vs s2 r2 xs2 ok2 => ?_⟩
  obtain ⟨F1, ts, h1, h2, h3⟩ := callP_ok ok2 r2 xs2
  exact ⟨F1, [], [], ts, h1, h2, h3⟩
theorem key_callC {f : Nat} {es : Es} {σ : L2.St} {H : Hp} {Q : VK} (h : tX C X ew (.callC f es) σ H Q) : tXs C X ew es σ H fun vs H1 => spF C X.K C.k f vs H1 Q (ew σ) := by
  obtain ⟨F, ad, env, st, r, en, ok⟩ := h
  unfold evX at ok
  refine ⟨F, ad, env, st, r, en, ok.bindL fun xs st2 F2 ad2 H2 vs s2 r2 xs2 ok2 => ?_⟩
  obtain ⟨F1, ts, h1, h2, h3⟩ := callC_ok ok2 r2 xs2
  exact ⟨F1, [], [], ts, h1, h2, h3⟩
theorem key_callS {f : Nat} {es : Es} {σ : L2.St} {H : Hp} {Q : VK} (h : tX C X ew (.callS f es) σ H Q) : tXs C X ew es σ H fun vs H1 => spF C X.K C.k f vs H1 Q (ew σ) := by
  obtain ⟨F, ad, env, st, r, en, ok⟩ := h
  unfold evX at ok
  refine ⟨F, ad, env, st, r, en, ok.bindL fun xs st2 F2 ad2 H2 vs s2 r2 xs2 ok2 => ?_⟩
  exact ⟨F2, ad2, st2, xs, r2, xs2, callS_ok ok2⟩
/-! built-in functions -/
theorem bi_call {f : BI} {x : Str} (hc : X.calm = true) (h : chkBI f x = true) : x ∈ bnames ∧ x ≠ "__name__" ∧ (x == ("__debug__" : Str)) = false ∧
    ((∃ id, bootBuiltins x = some (.builtin id) ∧ ∀ cls ew, CallR X (.builtin id) (rBi X.K cls ew (biV f))) ∨ ∃ T, bootBuiltins x = some (.type T) ∧ ∀ cls ew, CallR X (.type T) (rBi X.K cls ew (biV f))) := by
  cases f with
  | len => have e : x = "len" := beq_iff_eq.mp h; subst e; exact ⟨by decide, by decide, by decide, .inl ⟨_, by decide +kernel, fun cls ew => cr_lenD⟩⟩
  | listOf => have e : x = "list" := beq_iff_eq.mp h; subst e; exact ⟨by decide, by decide, by decide, .inr ⟨_, boot_list, fun cls ew => cr_listD hc⟩⟩
  | tupleOf => have e : x = "tuple" := beq_iff_eq.mp h; subst e; exact ⟨by decide, by decide, by decide, .inr ⟨_, boot_tuple, fun cls ew => cr_tupleD⟩⟩
  | sorted => have e : x = "sorted" := beq_iff_eq.mp h; subst e; exact ⟨by decide, by decide, by decide, .inl ⟨_, boot_sorted, fun cls ew => cr_sortedD⟩⟩
  | sum => have e : x = "sum" := beq_iff_eq.mp h; subst e; exact ⟨by decide, by decide, by decide, .inl ⟨_, boot_sum, fun cls ew => cr_sumD hc⟩⟩
  | any => have e : x = "any" := beq_iff_eq.mp h; subst e; exact ⟨by decide, by decide, by decide, .inl ⟨_, boot_any, fun cls ew => cr_anyD hc⟩⟩
  | all => have e : x = "all" := beq_iff_eq.mp h; subst e; exact ⟨by decide, by decide, by decide, .inl ⟨_, boot_all, fun cls ew => cr_allD hc⟩⟩
  | max2 => have e : x = "max" := beq_iff_eq.mp h; subst e; exact ⟨by decide, by decide, by decide, .inl ⟨_, boot_max, fun cls ew => cr_max2D hc⟩⟩
  | maxL => have e : x = "max" := beq_iff_eq.mp h; subst e; exact ⟨by decide, by decide, by decide, .inl ⟨_, boot_max, fun cls ew => cr_maxLD hc⟩⟩
  | minL => have e : x = "min" := beq_iff_eq.mp h; subst e; exact ⟨by decide, by decide, by decide, .inl ⟨_, boot_min, fun cls ew => cr_minLD hc⟩⟩
  | toInt => have e : x = "int" := beq_iff_eq.mp h; subst e; exact ⟨by decide, by decide, by decide, .inr ⟨_, boot_int, fun cls ew => cr_toIntD⟩⟩
  | _ => cases h
theorem key_bi {f : BI} {es : Es} {σ : L2.St} {H : Hp} {Q : VK} (h : tX C X ew (.bi f es) σ H Q) : tXs C X ew es σ H fun vs H1 => ∃ σ', rBi X.K C.cls (ew σ') (biV f) vs H1 Q := by
  obtain ⟨F, ad, env, st, r, en, ok⟩ := h
  unfold evX at ok
  refine ⟨F, ad, env, st, r, en, ok.bindL fun xs st2 F2 ad2 H2 vs s2 r2 xs2 ok2 => ?_⟩
  exact ⟨σ, F2, ad2, st2, xs, r2, xs2, ok2⟩
theorem sd_bi {f : BI} {es : Es} {x : Str} {p pos : Pos} {p0 : Expr} {ps : List Expr} (g : Good C N X sc ow ew) (hf : chkBI f x = true) (hs : glB sc x = true) (ha : PA X (p0 :: ps) (tXs C X ew es)) (ns : nostar (p0 :: ps) = true) : Sd C X ew (.bi f es) (.Call (.Name x p) (p0 :: ps) [] pos) := by
  unfold nostar at ns
  simp only [Bool.and_eq_true, Bool.not_eq_true'] at ns
  obtain ⟨h1, h2, h3, h4⟩ := bi_call g.calm hf
  refine Sd.plain ?_ rfl
  rcases h4 with ⟨id, hb, hc⟩ | ⟨T, hb, hc⟩
  · exact (pe_callB (r := fun vs H Q => ∃ σ', rBi X.K C.cls (ew σ') (biV f) vs H Q) (fun pins s σ H xs us Q I rv ⟨σ', q⟩ => hc _ _ pins s σ H xs us Q I rv q) (gl_of g.sc hs) (g.facts.blt x h1) hb ha h2 h3 (star_each ns.1) (back_any ns.2)).imp fun σ H Q q => key_bi q
  · exact (pe_callTy (r := fun vs H Q => ∃ σ', rBi X.K C.cls (ew σ') (biV f) vs H Q) (fun pins s σ H xs us Q I rv ⟨σ', q⟩ => hc _ _ pins s σ H xs us Q I rv q) (gl_of g.sc hs) (g.facts.blt x h1) hb ha h2 h3 (star_each ns.1) (back_any ns.2)).imp fun σ H Q q => key_bi q
theorem chkTy_of {T : String} {y : Str} (h : chkTy T y = true) : (T = "bool" ∨ T = "int" ∨ T = "str" ∨ T = "list" ∨ T = "tuple") ∧ bootBuiltins y = some (.type T) ∧ y ∈ bnames ∧ y ≠ "__name__" ∧ (y == ("__debug__" : Str)) = false := by
  unfold chkTy at h
  simp only [Bool.or_eq_true, Bool.and_eq_true, beq_iff_eq] at h
  rcases h with (((⟨rfl, rfl⟩ | ⟨rfl, rfl⟩) | ⟨rfl, rfl⟩) | ⟨rfl, rfl⟩) | ⟨rfl, rfl⟩
  · exact ⟨by decide, boot_bool, by decide, by decide, by decide⟩
  · exact ⟨by decide, boot_int, by decide, by decide, by decide⟩
  · exact ⟨by decide, boot_str, by decide, by decide, by decide⟩
  · exact ⟨by decide, boot_list, by decide, by decide, by decide⟩
  · exact ⟨by decide, boot_tuple, by decide, by decide, by decide⟩
theorem one_Reps {K : PySem.W.Frag} {cls : Str → Option Addr} {ew : XK} {F : Hp} {ad : List Addr} {H : Hp} {vs : List V} {ds : List D} {f : D → R Val} {Q : VK} (h : Reps K F ad vs ds) (ok : OkV K cls ew F ad H (one ds f) Q) : ∃ v, vs = [v] := by
  cases h with
  | nil => exact ok.elim
  | cons h t =>
    cases t with
    | nil => exact ⟨_, rfl⟩
    | cons _ _ => exact ok.elim
theorem sd_isi {T : String} {e : E} {y : Str} {p q pos : Pos} {pa : Expr} (g : Good C N X sc ow ew) (hT : chkTy T y = true) (hs : glB sc "isinstance" = true) (hy : glB sc y = true) (ha : Sd C X ew e pa) (ns : starB pa = false) : Sd C X ew (.bi (.isinst T) (.cons e .nil)) (.Call (.Name "isinstance" p) [pa, .Name y q] [] pos) := by
  obtain ⟨h1, h2, h3, h4, h5⟩ := chkTy_of hT
  refine Sd.plain ?_ rfl
  have hp : PE X (.Name y q) (tC (.ty T)) := pe_bltn (gl_of g.sc hy) (g.facts.blt y h3) h2 (v := .ty T) rfl h4 h5
  have ha2 : PA X [pa, .Name y q] (tCons (tX C X ew e) (tCons (tC (.ty T)) tNil)) := pa_cons ha.ex (pa_cons hp pa_nil) (star_each ns)
  refine (pe_callB (r := fun vs H Q => ∃ σ', rIsiD X.K C.cls (ew σ') T vs H Q) (fun pins s σ H xs us Q I rv ⟨σ', q⟩ => cr_isiD T h1 pins s σ H xs us Q I rv q) (gl_of g.sc hs) (g.facts.blt "isinstance" (by decide)) boot_isinstance ha2 (by decide) (by decide) (star_each ns) (by rfl)).imp fun σ H Q h => ?_
  obtain ⟨F, ad, env, st, r, en, ok⟩ := h
  unfold evX evXs evXs at ok
  show tX C X ew e σ H fun x H1 => ∃ σ', rIsiD X.K C.cls (ew σ') T [x, .ty T] H1 Q
  refine ⟨F, ad, env, st, r, en, ?_⟩
  cases q : evX (run C.T C.k) e env st with
  | stuck => rw [q] at ok; exact ok
  | err c st' => rw [q] at ok; exact ok
  | ok x st' =>
    rw [q] at ok
    intro F' ad' H' v s r' xr
    obtain ⟨F'', s', r'', xr'⟩ := freezeX s r' xr
    exact ⟨σ, v, rfl, F'', ad', st', [x.d], r'', .cons xr' .nil, OkV.step s' ok⟩
/-- list(range(n)) -/
theorem sd_lrange {e : E} {p q pos pos2 : Pos} {pa : Expr} (g : Good C N X sc ow ew) (hs : glB sc "list" = true) (hy : glB sc "range" = true) (ha : Sd C X ew e pa) (ns : starB pa = false) : Sd C X ew (.bi .range1 (.cons e .nil)) (.Call (.Name "list" p) [.Call (.Name "range" q) [pa] [] pos2] [] pos) := by
  refine Sd.plain ?_ rfl
  have ha1 : PA X [pa] (tCons (tX C X ew e) tNil) := pa_cons ha.ex pa_nil (star_each ns)
  have hr := pe_callTy (pos := pos2) (p := q) cr_range1 (gl_of g.sc hy) (g.facts.blt "range" (by decide)) boot_range ha1 (by decide) (by decide) (star_each ns) (by rfl)
  have ha2 := pa_cons hr pa_nil
  refine (pe_callTy (cr_listR g.calm) (gl_of g.sc hs) (g.facts.blt "list" (by decide)) boot_list ha2 (by decide) (by decide)).imp fun σ H Q h => ?_
  obtain ⟨F, ad, env, st, r, en, ok⟩ := h
  unfold evX evXs evXs at ok
  show tX C X ew e σ H fun x H1 => ∃ i, [x] = [V.int i] ∧ ∀ p, H1 p = none → ∃ p', ∃ lo hi, [V.ref p] = [V.ref p'] ∧ (upd H1 p (.rng 0 i)) p' = some (.rng lo hi) ∧ _ ∧ ∀ q, (upd H1 p (.rng 0 i)) q = none → Q (.ref q) (upd (upd H1 p (.rng 0 i)) q (.lst ((rangeI lo (hi - lo).toNat).map V.int)))
  refine ⟨F, ad, env, st, r, en, ?_⟩
  cases q : evX (run C.T C.k) e env st with
  | stuck => rw [q] at ok; exact ok
  | err c st' => rw [q] at ok; exact ok
  | ok x st' =>
    rw [q] at ok
    intro F' ad' H' v s r' xr
    obtain ⟨F'', s', r'', xr'⟩ := freezeX s r' xr
    have ok2 : OkV X.K C.cls (ew σ) F'' ad' H' (range1V x.d st') Q := OkV.step s' ok
    generalize x.d = d at *
    unfold range1V at ok2
    split at ok2
    · cases xr'
      rename_i n
      obtain ⟨⟨hz1, hz2⟩, ok2⟩ := ite_ok (X := X) ok2
      have hsz : sizeLine = 16777216 := sizeLine_eq
      refine ⟨n, rfl, fun p hp => ⟨p, 0, n, rfl, upd_same, ⟨by omega, by omega, by omega, by omega, by omega⟩, fun q hq => ?_⟩⟩
      rw [Int.sub_zero]
      have s2 : Step F'' ad' H' F'' ad' (upd H' p (.rng 0 n)) := Step.beside hp
      exact OkV.list (OkV.step s2 ok2) (r''.beside hp) (reps_ints _) hq
    · exact ok2.elim
/-! a written table; max(xs, default=0) -/
theorem tab_key {f : BI} {e : E} {g : D → Sto → R Val} (hf : ∀ ds st, biV f ds st = one ds fun x => g x st) {σ : L2.St} {H : Hp} {Q Q1 : VK} (h : tX C X ew (.bi f (.cons e .nil)) σ H Q)
    (hk : ∀ (x : V) (H1 : Hp) (σ' : L2.St) (F : Hp) (ad : List Addr) (st : Sto) (d : D), RelS X.K F ad st H1 → Rep X.K F ad x d → OkV X.K C.cls (ew σ') F ad H1 (g d st) Q → Q1 x H1) : tX C X ew e σ H Q1 := by
  obtain ⟨F, ad, env, st, r, en, ok⟩ := h
  unfold evX evXs evXs at ok
  refine ⟨F, ad, env, st, r, en, ?_⟩
  cases q : evX (run C.T C.k) e env st with
  | stuck => rw [q] at ok; exact ok
  | err c st' => rw [q] at ok; exact ok
  | ok x st' =>
    rw [q] at ok
    intro F' ad' H' v s r' xr
    obtain ⟨F'', s', r'', xr'⟩ := freezeX s r' xr
    have ok2 : OkV X.K C.cls (ew σ) F'' ad' H' (biV f [x.d] st') Q := OkV.step s' ok
    rw [hf] at ok2
    exact hk _ _ σ F'' ad' st' x.d r'' xr' ok2
theorem sd_tabIn {neg : Bool} {x : Str} {ks : List Str} {vs : List Int} {e : E} {pa : Expr} {p pos : Pos} (g : Good C N X sc ow ew) (hs : glB sc x = true) (hx : okN x = true) (hG : tabG C.G x ks vs = true) (ha : Sd C X ew e pa) :
    Sd C X ew (.bi (.tabIn neg x ks vs) (.cons e .nil)) (.Compare pa [copOf (if neg then .notin else .isin)] [.Name x p] pos) := by
  obtain ⟨a, hm, ⟨es, n, kd⟩, ht⟩ := g.facts.tab x ks vs (tabG_of hG)
  have hp : PE X (.Name x p) (tC (.ref a)) := pe_glob (gl_of g.sc hs) hm rfl (ok1 hx).1
  have key : ∀ {σ : L2.St} {H : Hp} {Q : VK}, tX C X ew (.bi (.tabIn neg x ks vs) (.cons e .nil)) σ H Q →
      tOp (fun x y H Q => ∃ z r, x = V.str z ∧ y = V.ref a ∧ PySem.W.nsIn X.K a z = some r ∧ Q (V.bl (if neg then !r.isSome else r.isSome)) H) (tX C X ew e) (tC (.ref a)) σ H Q := fun {σ H Q} h => by
    refine tab_key (g := tabInV neg ks vs) (fun _ _ => rfl) h fun x H1 σ' F ad st d r xr ok => ?_
    unfold tabInV at ok
    split at ok
    · rename_i z
      cases xr
      obtain ⟨h1, h2⟩ := ht z
      cases q : lookS z ks vs with
      | some i =>
        obtain ⟨t, e1⟩ := h1 i q
        refine ⟨z, _, rfl, rfl, e1, ?_⟩
        rw [q] at ok
        have := ok.val r (.bool _)
        cases neg <;> exact this
      | none =>
        refine ⟨z, _, rfl, rfl, h2 q, ?_⟩
        rw [q] at ok
        have := ok.val r (.bool _)
        cases neg <;> exact this
    · exact ok.elim
  have op : OpR X (compareOp (copOf (if neg then .notin else .isin))) (fun x y H Q => ∃ z r, x = V.str z ∧ y = V.ref a ∧ PySem.W.nsIn X.K a z = some r ∧ Q (V.bl (if neg then !r.isSome else r.isSome)) H) := by
    cases neg
    · exact op_in_kd kd
    · exact op_notIn_kd kd
  have hm : behindInMarks (copOf (if neg then .notin else .isin)) (.Name x p) = false := rfl
  exact ⟨(pe_cmpR op ha.ex hp hm).imp fun σ H Q q => key q, fun _ => (pt_cmpR op ha.ex hp hm).imp fun σ H Q q => key q, fun q => by cases q⟩
theorem sd_tabGet {x : Str} {ks : List Str} {vs : List Int} {e : E} {pb : Expr} {p pos : Pos} (g : Good C N X sc ow ew) (hs : glB sc x = true) (hx : okN x = true) (hG : tabG C.G x ks vs = true) (hi : plainIxB pb = true) (hb : Sd C X ew e pb) :
    Sd C X ew (.bi (.tabGet x ks vs) (.cons e .nil)) (.Subscript (.Name x p) pb pos) := by
  obtain ⟨a, hm, ⟨es, n, kd⟩, ht⟩ := g.facts.tab x ks vs (tabG_of hG)
  have hp : PE X (.Name x p) (tC (.ref a)) := pe_glob (gl_of g.sc hs) hm rfl (ok1 hx).1
  refine Sd.plain ((pe_ix ix_kdict hp hb.ex (plain_ix hi)).imp fun σ H Q h => ?_) rfl
  refine tab_key (g := tabGetV ks vs) (fun _ _ => rfl) h fun x H1 σ' F ad st d r xr ok => ?_
  unfold tabGetV at ok
  split at ok
  · rename_i z
    cases xr
    split at ok
    · rename_i i q
      obtain ⟨t, e1⟩ := (ht z).1 i q
      exact ⟨a, z, .int i, rfl, rfl, ⟨es, n, _, kd.at_, kd.lit, e1, ⟨t, rfl⟩⟩, ok.val r (.int _)⟩
    · exact ok.elim
  · exact ok.elim
theorem lit0 {pv : Expr} (h : litB (.int 0) pv = true) : PE X pv (tC (.int 0)) := by
  simp only [litB] at h
  split at h
  · rw [beq_iff_eq] at h
    subst h
    exact pe_int
  · rw [beq_iff_eq] at h
    rename_i j _ _ _
    have hj : j = 0 := by omega
    subst hj
    exact (pe_un un_neg pe_int).imp fun σ H Q q => ⟨_, rfl, q⟩
  · cases h
theorem sd_maxD0 {e : E} {p pos kp : Pos} {pa pv : Expr} (g : Good C N X sc ow ew) (hs : glB sc "max" = true) (hv : litB (.int 0) pv = true) (ha : Sd C X ew e pa) (ns : starB pa = false) : Sd C X ew (.bi .maxD0 (.cons e .nil)) (.Call (.Name "max" p) [pa] [⟨some "default", pv, kp⟩] pos) := by
  refine Sd.plain ?_ rfl
  have ha2 : PA X [pa] (tCons (tX C X ew e) tNil) := pa_cons ha.ex pa_nil (star_each ns)
  have hk : PE X pv (tC (.int 0)) := lit0 hv
  refine (pe_callBK (r := fun vs zs H Q => ∃ σ', rMaxK X.K C.cls (ew σ') vs zs H Q) (ks := ["default"]) (fun pins s σ H xs zs us ws Q I rv rz ⟨σ', q⟩ => cr_maxD0 g.calm pins s σ H xs zs us ws Q I rv rz q) (gl_of g.sc hs) (g.facts.blt "max" (by decide)) boot_max ha2 (pk_cons hk pk_nil) (by decide) (by decide) (by rw [star_each ns]; rfl) (by rw [star_each ns]; rfl)).imp fun σ H Q h => ?_
  exact tab_key (g := fun d st => onInts d st fun ns => .ok (.v (.int (maxI ns))) st) (fun _ _ => rfl) h fun x H1 σ' F ad st d r xr ok => ⟨σ', rfl, F, ad, st, [d], r, xr.one, ok⟩
/-! methods of lists -/
theorem tyL {K : PySem.W.Frag} {F : Hp} {ad : List Addr} {st : Sto} {H : Hp} {v : V} {d : D} (r : RelS K F ad st H) (h : Rep K F ad v d) (e : (listOf st d).isSome = true) : tyV K "list" v H := by
  cases q : listOf st d with
  | none => rw [q] at e; cases e
  | some xs =>
    obtain ⟨a, vs, rfl, ha, _⟩ := listOf_rep r h q
    exact .inl ⟨rfl, _, SqL.of ha⟩
theorem key_mt {m : MT} {o : E} {es : Es} {σ : L2.St} {H : Hp} {Q : VK} (hm : ∀ d st, mtIs m d st = true → (listOf st d).isSome = true) (h : tX C X ew (.mt m o es) σ H Q) :
    tX C X ew o σ H fun x H1 => tyV X.K "list" x H1 ∧ tXs C X ew es σ H1 fun xs H2 => ∃ σ', rMt X.K C.cls (ew σ') m x xs H2 Q := by
  obtain ⟨F, ad, env, st, r, en, ok⟩ := h
  unfold evX at ok
  refine ⟨F, ad, env, st, r, en, ok.bindF fun x st1 F1 ad1 H1 v s1 r1 x1 ok1 => ?_⟩
  obtain ⟨hi, ok1⟩ := ite_ok (X := X) ok1
  refine ⟨tyL r1 x1 (hm _ _ hi), F1, ad1, env, st1, r1, en.step s1, ok1.bindL fun xs st2 F2 ad2 H2 vs s2 r2 xs2 ok2 => ?_⟩
  exact ⟨σ, F2, ad2, st2, x.d, xs, r2, x1.step s2, xs2, ok2⟩
theorem tyS {K : PySem.W.Frag} {F : Hp} {ad : List Addr} {H : Hp} {v : V} {d : D} (h : Rep K F ad v d) (e : ∃ z, d = .str z) : tyV K "str" v H := by
  obtain ⟨z, rfl⟩ := e
  cases h
  rfl
theorem key_mtS {m : MT} {o : E} {es : Es} {σ : L2.St} {H : Hp} {Q : VK} (hm : ∀ d st, mtIs m d st = true → ∃ z, d = .str z) (h : tX C X ew (.mt m o es) σ H Q) :
    tX C X ew o σ H fun x H1 => tyV X.K "str" x H1 ∧ tXs C X ew es σ H1 fun xs H2 => ∃ σ', rMt X.K C.cls (ew σ') m x xs H2 Q := by
  obtain ⟨F, ad, env, st, r, en, ok⟩ := h
  unfold evX at ok
  refine ⟨F, ad, env, st, r, en, ok.bindF fun x st1 F1 ad1 H1 v s1 r1 x1 ok1 => ?_⟩
  obtain ⟨hi, ok1⟩ := ite_ok (X := X) ok1
  refine ⟨tyS x1 (hm _ _ hi), F1, ad1, env, st1, r1, en.step s1, ok1.bindL fun xs st2 F2 ad2 H2 vs s2 r2 xs2 ok2 => ?_⟩
  exact ⟨σ, F2, ad2, st2, x.d, xs, r2, x1.step s2, xs2, ok2⟩
theorem is_str {d : D} {st : Sto} {m : MT} (hm : ∀ d st, mtIs m d st = (match d with
    | .str _ => true
    | _ => false)) (h : mtIs m d st = true) : ∃ z, d = .str z := by
  rw [hm] at h
  cases d <;> first | exact ⟨_, rfl⟩ | cases h
theorem mt_sindexD {cls : Str → Option Addr} {ew : XK} : MtM X "str.index" (rMt X.K cls ew .sindex) := by
  intro pins s σ H x vs v us Q I rx rv ⟨F, ad, st, d, ds, r, hx, hr, ok⟩
  obtain ⟨w, e, rfl, hy, ok⟩ := one_ok ok hr
  have ok : OkV X.K cls ew F ad H (sindexV d e st) Q := ok
  unfold sindexV at ok
  split at ok
  · cases hx; cases hy
    split at ok
    · rename_i i rest ho
      exact mt_sindex pins s σ H _ _ v us Q I rx rv ⟨_, _, i, rest, rfl, rfl, ho, ok.val r (.int _)⟩
    · exact ok.elim
  · exact ok.elim
theorem sd_mt {m : MT} {o : E} {es : Es} {po : Expr} {y : Str} {apos cpos : Pos} {ps : List Expr} {n : Str} {z : Bool} (g : Good C N X sc ow ew) (hm : mtName m = some (n, z)) (hn : n = y) (hcb : callB po = false) (ho : Sd C X ew o po) (hl : (apos.endLine == cpos.line) = true) (h30 : ps.length < 30) (hz : z = ps.isEmpty) (ha : PA X ps (tXs C X ew es)) (ns : nostar ps = true) (hnil : ps = [] → es = .nil) :
    Sd C X ew (.mt m o es) (.Call (.Attribute po y apos) ps [] cpos) := by
  subst hn
  have go : ∀ {id : String} {p0 : Expr} {pr : List Expr}, ps = p0 :: pr → (∀ d st, mtIs m d st = true → (listOf st d).isSome = true) → Slot "list" n id → typeOf (.builtin id) = pure (.type "method_descriptor") → (∀ cls ew, MtM X id (rMt X.K cls ew m)) → PE X (.Call (.Attribute po n apos) ps [] cpos) (tX C X ew (.mt m o es)) := fun {id p0 pr} e hI hS hty hM => by
    subst e
    have ns2 := ns
    unfold nostar at ns
    simp only [Bool.and_eq_true, Bool.not_eq_true'] at ns
    refine (pe_bm PySem.F.plainAttrs_list hS hty (r := fun x xs H Q => ∃ σ', rMt X.K C.cls (ew σ') m x xs H Q) (fun pins s σ H x xs v us Q I rx rv ⟨σ', q⟩ => hM _ _ pins s σ H x xs v us Q I rx rv q) ho.ex ha (att_base hcb) ?_ hl (star_each ns.1) (back_any ns.2)).imp fun σ H Q q => key_mt hI q
    rw [back_all ns2]
    simp only [Bool.true_and]
    show (([] : List (Option Str × Sem Value)).all (fun x => x.1.isSome) && decide ((p0 :: pr).length + 0 + 0 < 30)) = true
    simpa using h30
  have go0 : ∀ {id : String}, ps = [] → (∀ d st, mtIs m d st = true → (listOf st d).isSome = true) → Slot "list" n id → typeOf (.builtin id) = pure (.type "method_descriptor") → (∀ cls ew, MtM X id (fun x vs H Q => vs = [] ∧ rMt X.K cls ew m x vs H Q)) → PE X (.Call (.Attribute po n apos) ps [] cpos) (tX C X ew (.mt m o es)) := fun {id} e hI hS hty hM => by
    subst e
    have hes := hnil rfl
    subst hes
    refine (pe_bm0 PySem.F.plainAttrs_list hS hty (r := fun x xs H Q => ∃ σ', xs = [] ∧ rMt X.K C.cls (ew σ') m x xs H Q) (fun pins s σ H x xs v us Q I rx rv ⟨σ', q⟩ => hM _ _ pins s σ H x xs v us Q I rx rv q) ho.ex (att_base hcb) hl).imp fun σ H Q q => ?_
    refine tX_mono (key_mt hI q) fun x H1 ⟨h1, F, ad, env, st, r, en, ok⟩ => ⟨h1, ?_⟩
    unfold evXs at ok
    obtain ⟨σ', q⟩ := ok F ad _ [] (Step.refl _ _ _) r .nil
    exact ⟨σ', rfl, q⟩
  have goS : ∀ {id : String} {p0 : Expr} {pr : List Expr}, ps = p0 :: pr → (∀ d st, mtIs m d st = true → ∃ z, d = .str z) → Slot "str" n id → typeOf (.builtin id) = pure (.type "method_descriptor") → (∀ cls ew, MtM X id (rMt X.K cls ew m)) → PE X (.Call (.Attribute po n apos) ps [] cpos) (tX C X ew (.mt m o es)) := fun {id p0 pr} e hI hS hty hM => by
    subst e
    have ns2 := ns
    unfold nostar at ns
    simp only [Bool.and_eq_true, Bool.not_eq_true'] at ns
    refine (pe_bm PySem.F.plainAttrs_str hS hty (r := fun x xs H Q => ∃ σ', rMt X.K C.cls (ew σ') m x xs H Q) (fun pins s σ H x xs v us Q I rx rv ⟨σ', q⟩ => hM _ _ pins s σ H x xs v us Q I rx rv q) ho.ex ha (att_base hcb) ?_ hl (star_each ns.1) (back_any ns.2)).imp fun σ H Q q => key_mtS hI q
    rw [back_all ns2]
    simp only [Bool.true_and]
    show (([] : List (Option Str × Sem Value)).all (fun x => x.1.isSome) && decide ((p0 :: pr).length + 0 + 0 < 30)) = true
    simpa using h30
  have two : (z = false → ∃ p0 pr, ps = p0 :: pr) ∧ (z = true → ps = []) := by
    subst hz
    cases ps with
    | nil => exact ⟨fun z => (nomatch z), fun _ => rfl⟩
    | cons p0 pr => exact ⟨fun _ => ⟨_, _, rfl⟩, fun z => (nomatch z)⟩
  refine Sd.plain ?_ rfl
  cases m with
  | append =>
    cases hm
    obtain ⟨p0, pr, e⟩ := two.1 rfl
    exact go e (fun _ _ h => h) PySem.F.slot_list_append PySem.F.type_list_append fun cls ew => mt_appendD
  | extend =>
    cases hm
    obtain ⟨p0, pr, e⟩ := two.1 rfl
    exact go e (fun _ _ h => h) PySem.F.slot_list_extend PySem.F.type_list_extend fun cls ew => mt_extendD
  | pop0 =>
    cases hm
    exact go0 (two.2 rfl) (fun _ _ h => h) PySem.F.slot_list_pop PySem.F.type_list_pop fun cls ew => mt_pop0D
  | popAt =>
    cases hm
    obtain ⟨p0, pr, e⟩ := two.1 rfl
    exact go e (fun _ _ h => h) PySem.F.slot_list_pop PySem.F.type_list_pop fun cls ew => mt_popAtD
  | insert =>
    cases hm
    obtain ⟨p0, pr, e⟩ := two.1 rfl
    exact go e (fun _ _ h => h) PySem.F.slot_list_insert PySem.F.type_list_insert fun cls ew => mt_insertD
  | reverse =>
    cases hm
    exact go0 (two.2 rfl) (fun _ _ h => h) PySem.F.slot_list_reverse PySem.F.type_list_reverse fun cls ew => fun pins s σ H x xs v us Q I rx rv ⟨_, q⟩ => mt_reverseD pins s σ H x xs v us Q I rx rv q
  | clear =>
    cases hm
    exact go0 (two.2 rfl) (fun _ _ h => h) PySem.F.slot_list_clear PySem.F.type_list_clear fun cls ew => fun pins s σ H x xs v us Q I rx rv ⟨_, q⟩ => mt_clearD pins s σ H x xs v us Q I rx rv q
  | index =>
    cases hm
    obtain ⟨p0, pr, e⟩ := two.1 rfl
    exact go e (fun _ _ h => h) PySem.F.slot_list_index PySem.F.type_list_index fun cls ew => mt_indexD' (units_ok g)
  | sindex =>
    cases hm
    obtain ⟨p0, pr, e⟩ := two.1 rfl
    exact goS e (fun _ _ h => is_str (fun _ _ => rfl) h) PySem.F.slot_str_index PySem.F.type_str_index fun cls ew => mt_sindexD
  | _ => cases hm
end
end MP

/-! What is walked; comprehensions. -/
namespace MP
open PySem PySem.Spec PyProof.Rows L2

section
variable {K : PySem.W.Frag} {cls : Str → Option Addr} {ew : XK} {F F1 : Hp} {ad ad1 : List Addr} {H H1 : Hp} {st st1 : Sto} {Q : VK}
theorem OkI.bindF {r : R Val} {f : Val → Sto → R (D × List D)} {QI : MP.D → List MP.D → Hp → List Addr → Hp → Prop} (h : OkI K cls ew F ad H (r.bind f) QI) {Q' : VK}
    (k : ∀ x st' F' ad' H' v, Step F ad H F' ad' H' → RelS K F' ad' st' H' → Rep K F' ad' v x.d → OkI K cls ew F' ad' H' (f x st') QI → Q' v H') : OkV K cls ew F ad H r Q' := by
  cases r with
  | ok x st' =>
    intro F' ad' H' v s r q
    obtain ⟨F'', s', r', q'⟩ := freezeX s r q
    refine k x st' F'' ad' H' v s' r' q' ?_
    have h' : OkI K cls ew F ad H (f x st') QI := h
    cases e : f x st' with
    | ok y st2 => rw [e] at h'; exact fun F' ad' H' s2 r2 => h' F' ad' H' (s'.trans s2) r2
    | err c st2 => rw [e] at h'; exact fun F' ad' H' a s2 r2 ec => h' F' ad' H' a (s'.trans s2) r2 ec
    | stuck => rw [e] at h'; exact h'
  | err c st' => exact h
  | stuck => exact h
theorem OkV.bindI {r : R (D × List D)} {f : D × List D → Sto → R Val} {QI : MP.D → List MP.D → Hp → List Addr → Hp → Prop} (h : OkV K cls ew F ad H (r.bind f) Q)
    (k : ∀ x st' F' ad' H', Step F ad H F' ad' H' → RelS K F' ad' st' H' → OkV K cls ew F' ad' H' (f x st') Q → QI x.1 x.2 F' ad' H') : OkI K cls ew F ad H r QI := by
  cases r with
  | ok x st' => exact fun F' ad' H' s r => k x st' F' ad' H' s r (OkV.step s h)
  | err c st' => exact h
  | stuck => exact h
theorem RelS.aside {p : Addr} {o : HO} (r : RelS K F ad st H) (hf : F p = none) (ha : p ∉ ad) : RelS K F ad st (upd H p o) where
  sub := fun a u h => by
    have : a ≠ p := fun e => by rw [e, hf] at h; cases h
    rw [upd_ne this]; exact r.sub a u h
  nd := r.nd
  out := r.out
  len := r.len
  live := fun a h => by
    have : a ≠ p := fun e => ha (e ▸ h)
    rw [upd_ne this]; exact r.live a h
  cell := fun n c a h1 h2 => by
    have hne : a ≠ p := fun e => ha (e ▸ List.mem_of_getElem? h2)
    cases c with
    | lst xs => obtain ⟨vs, g1, g2⟩ := r.cell n _ a h1 h2; exact ⟨vs, by rw [upd_ne hne]; exact g1, g2⟩
    | dk ks xs => obtain ⟨vs, g1, g2⟩ := r.cell n _ a h1 h2; exact ⟨vs, by rw [upd_ne hne]; exact g1, g2⟩
    | dt ks xs => obtain ⟨vs, g1, g2⟩ := r.cell n _ a h1 h2; exact ⟨vs, by rw [upd_ne hne]; exact g1, g2⟩
    | dead => obtain ⟨vs, g1, g2⟩ := r.cell n _ a h1 h2; exact ⟨vs, g1, by rw [upd_ne hne]; exact g2⟩
theorem Step.aside {p : Addr} {o : HO} (s : Step F ad H F1 ad1 H1) (h0 : H p = none) : Step F ad H F1 ad1 (upd H1 p o) where
  le := s.le
  pre := s.pre
  newF := s.newF
  newA := s.newA
  keep := fun a u h1 h2 => by
    have : a ≠ p := fun e => by rw [e, h0] at h2; cases h2
    rw [upd_ne this]; exact s.keep a u h1 h2
  dom := fun a h => by
    by_cases e : a = p
    · rw [e]; exact h0
    · rw [upd_ne e] at h; exact s.dom a h
end

section
variable {C : Con} {N : List Str} {X : Cx} {sc : Scope} {ow : Str → Bool} {ew : L2.St → XK}
theorem pi_seqD {tg : Expr} {e : E} {pe : Expr} (he : Sd C X ew e pe) : PI X tg pe (tI C X ew (.seq e)) := (pi_seq he.ex).imp fun σ H R ⟨F, ad, env, st, r, en, ok⟩ => by
  unfold evI at ok
  refine ⟨F, ad, env, st, r, en, ok.bindF fun x st1 F1 ad1 H1 v s1 r1 x1 ok1 => ?_⟩
  split at ok1
  · rename_i ds e
    have ok2 := ok1 F1 ad1 H1 (Step.refl _ _ _) r1
    rcases items_jok r1 x1 e with ⟨a, ws, e1, e2, e3⟩ | ⟨a, ws, e1, e2, e3⟩ | ⟨z, e1, e3⟩
    · exact .inl ⟨a, ws, e1, e2, ok2 _ e3⟩
    · exact .inr (.inl ⟨a, ws, e1, e2, ok2 _ e3⟩)
    · exact .inr (.inr ⟨z, e1, ok2 _ e3⟩)
  · exact ok1.elim
theorem pi_r1D {tg : Expr} {a : E} {pa : Expr} {p pos : Pos} (g : Good C N X sc ow ew) (hs : glB sc "range" = true) (ha : Sd C X ew a pa) (ns : starB pa = false) : PI X tg (.Call (.Name "range" p) [pa] [] pos) (tI C X ew (.range1 a)) := by
  refine (pi_range1 (gl_of g.sc hs) (g.facts.blt "range" (by decide)) (pa_cons ha.ex pa_nil (star_each ns)) (star_each ns)).imp fun σ H R ⟨F, ad, env, st, r, en, ok⟩ => ?_
  unfold evI at ok
  show tX C X ew a σ H fun x H1 => ∃ j : Int, [x] = [V.int j] ∧ -(2 ^ 62) ≤ j ∧ j < 2 ^ 62 ∧ R (Itr 0 j.toNat) H1
  refine ⟨F, ad, env, st, r, en, ok.bindF fun x st1 F1 ad1 H1 v s1 r1 x1 ok1 => ?_⟩
  split at ok1
  · rename_i n
    cases x1
    split at ok1
    · rename_i hz
      have hsz : sizeLine = 16777216 := sizeLine_eq
      have ok2 := ok1 F1 ad1 H1 (Step.refl _ _ _) r1
      exact ⟨n, rfl, hz.2, by omega, ok2 _ jok_range⟩
    · exact ok1.elim
  · exact ok1.elim
theorem pi_r2D {tg : Expr} {a b : E} {pa pb : Expr} {p pos : Pos} (g : Good C N X sc ow ew) (hs : glB sc "range" = true) (ha : Sd C X ew a pa) (hb : Sd C X ew b pb) (ns : starB pa = false) (ns2 : starB pb = false) : PI X tg (.Call (.Name "range" p) [pa, pb] [] pos) (tI C X ew (.range2 a b)) := by
  refine (pi_range2 (gl_of g.sc hs) (g.facts.blt "range" (by decide)) (pa_cons ha.ex (pa_cons hb.ex pa_nil (star_each ns2)) (star_each ns)) (by rw [star_each ns, star_each ns2]; rfl) (by rw [star_each ns2]; rfl)).imp fun σ H R ⟨F, ad, env, st, r, en, ok⟩ => ?_
  unfold evI at ok
  show tX C X ew a σ H fun x H1 => tX C X ew b σ H1 fun y H2 => ∃ i j : Int, [x, y] = [V.int i, V.int j] ∧ (-(2 ^ 62) ≤ i ∧ i < 2 ^ 62 ∧ -(2 ^ 62) ≤ j ∧ j < 2 ^ 62) ∧ R (Itr i (j - i).toNat) H2
  refine ⟨F, ad, env, st, r, en, ok.bindF fun x st1 F1 ad1 H1 v s1 r1 x1 ok1 => ?_⟩
  refine ⟨F1, ad1, env, st1, r1, en.step s1, ok1.bindF fun y st2 F2 ad2 H2 w s2 r2 y2 ok2 => ?_⟩
  have x2 := x1.step s2
  split at ok2
  · rename_i i j
    cases x2
    cases y2
    split at ok2
    · rename_i hz
      have ok3 := ok2 F2 ad2 H2 (Step.refl _ _ _) r2
      exact ⟨i, j, rfl, hz.2, ok3 _ jok_range⟩
    · exact ok2.elim
  · exact ok2.elim
theorem pi_zipD {elts : List Expr} {kk : Nat} {tpos : Pos} {a b : E} {pa pb : Expr} {p pos : Pos} (g : Good C N X sc ow ew) (hs : glB sc "zip" = true) (ha : Sd C X ew a pa) (hb : Sd C X ew b pb) (ns : starB pa = false) (ns2 : starB pb = false) : PI X (.Tuple elts kk tpos) (.Call (.Name "zip" p) [pa, pb] [] pos) (tI C X ew (.zip a b)) := by
  refine (pi_zip (gl_of g.sc hs) (g.facts.blt "zip" (by decide)) (pa_cons ha.ex (pa_cons hb.ex pa_nil (star_each ns2)) (star_each ns)) (star_each ns) (by rw [star_each ns2]; rfl)).imp fun σ H R ⟨F, ad, env, st, r, en, ok⟩ => ?_
  unfold evI at ok
  show tX C X ew a σ H fun x H1 => tX C X ew b σ H1 fun y H2 => ∃ a b xs ys, [x, y] = [V.ref a, V.ref b] ∧ SqL X.K H2 a xs ∧ SqL X.K H2 b ys ∧ R (Itz X.K a b) H2
  refine ⟨F, ad, env, st, r, en, ok.bindF fun x st1 F1 ad1 H1 v s1 r1 x1 ok1 => ?_⟩
  refine ⟨F1, ad1, env, st1, r1, en.step s1, ok1.bindF fun y st2 F2 ad2 H2 w s2 r2 y2 ok2 => ?_⟩
  have x2 := x1.step s2
  generalize x.d = xd at *
  generalize y.d = yd at *
  split at ok2
  · cases x2 with
    | list h1 h2 =>
      cases y2 with
      | list h3 h4 =>
        have ok3 := ok2 F2 ad2 H2 (Step.refl _ _ _) r2
        exact ⟨_, _, _, _, rfl, SqL.of (r2.sub _ _ h1), SqL.of (r2.sub _ _ h3), ok3 _ (jok_zip h1 h2 h3 h4)⟩
  · exact ok2.elim

/-! targets -/
theorem loc_of {sc : Scope} {x : Str} (g : Good C N X sc ow ew) (h : locB sc ow x = true) : Loc X.env.scope x ∧ (X.fn x = true ∨ X.env.scope.names.lookup x = some .local) := by
  unfold locB at h
  rw [g.sc]
  split at h
  · exact ⟨.inl (by assumption), .inr (by assumption)⟩
  · exact ⟨.inr (by assumption), .inl (g.ow x h)⟩
  · cases h
theorem pgs_of (g : Good C N X sc ow ew) : ∀ {is : List Nat} {ps : List Expr}, chkNames N sc ow is ps = true → PGs X ps (gNames is) ∧ (assignEach ps X.env).length = is.length ∧ (assignEach ps X.env).findIdx? (·.1) = none
  | [], [], _ => ⟨pgs_nil, rfl, rfl⟩
  | [], _ :: _, h => by simp [chkNames] at h
  | _ :: _, [], h => by simp [chkNames] at h
  | i :: is, p :: ps, h => by
    unfold chkNames at h
    split at h
    · rename_i e; cases e
    · rename_i i' is' x pos ps' e1 e2
      cases e1; cases e2
      simp only [Bool.and_eq_true, beq_iff_eq] at h
      obtain ⟨⟨h1, h2⟩, h3⟩ := h
      obtain ⟨g1, g2, g3⟩ := pgs_of g h3
      obtain ⟨l1, l2⟩ := loc_of g h2
      have e : assignEach (.Name x pos :: ps) X.env = (false, assign (.Name x pos) X.env) :: assignEach ps X.env := rfl
      refine ⟨pgs_cons (pg_name (by rw [g.hN]; exact g.nd) (by rw [g.hN]; exact h1) l1 l2) g1 rfl, by rw [e, List.length_cons, g2]; rfl, ?_⟩
      rw [e, List.findIdx?_cons, g3]; rfl
    · cases h
theorem pg_of (g : Good C N X sc ow ew) {tg : Tg} {pe : Expr} (h : chkTg N sc ow tg pe = true) : PG X pe (tT X.K tg) := by
  unfold chkTg at h
  split at h
  · split at h
    · simp only [Bool.and_eq_true, beq_iff_eq] at h
      obtain ⟨l1, l2⟩ := loc_of g h.2
      exact pg_name (by rw [g.hN]; exact g.nd) (by rw [g.hN]; exact h.1) l1 l2
    · cases h
  · split at h
    · obtain ⟨g1, g2, g3⟩ := pgs_of g h
      exact pg_tup g.calm g1 g2 g3
    · cases h
theorem ownP_snd (N : List Str) (own : List Nat) : (ownP N own).map (·.2) = own := by
  unfold ownP
  rw [List.map_map]
  have : ((fun x : Str × Nat => x.2) ∘ fun i => ((N[i]?).getD "", i)) = id := rfl
  rw [this, List.map_id]
abbrev E9 : L2.St → XK := fun _ => E0
theorem Good.blk (g : Good C N X sc ow ew) (s : Shared) (H : Hp) (scope : Scope) (cl : List (Str × Addr)) (Cc : Addr) (fp : List Addr) : Good C N (X.blk s H scope (compEnvC scope cl Cc X.env) fp) (relS scope sc) (owB scope) E9 where
  hN := g.hN
  nd := g.nd
  sc := by rw [← g.sc]; rfl
  calm := g.calm
  room := g.room
  pass := fun σ => fun _ _ _ _ _ _ h => by
    obtain ⟨_, _, _, _, _, _, _, _, _, _, _, _, z⟩ := h
    exact z.elim
  ow := fun x h => h
  facts := g.facts
/-- the test of a comprehension -/
def tC9 (C : Con) (X : Cx) (cond : E) : TT := fun σ H Q => tX C X E9 cond σ H fun x H1 => ∃ c, x = .bl c ∧ Q c H1
theorem comp_key {elt cond : E} {tg : Tg} {it : It} {own : List Nat} (hsub : ∀ i ∈ tgIx tg, i ∈ own) {σ : L2.St} {H : Hp} {Q : VK} (h : tX C X ew (.comp elt tg it cond own) σ H Q) :
    tLc (tI C X ew it) (tT X.K tg) (tC9 C X cond) (tX C X E9 elt) own σ H Q := by
  obtain ⟨F, ad, env, st, r, en, ok⟩ := h
  unfold evX at ok
  refine ⟨F, ad, env, st, r, en, ok.bindI fun x st1 F1 ad1 H1 s1 r1 ok1 => ?_⟩
  intro J hJ D hD
  obtain ⟨src, ds⟩ := x
  dsimp only at ok1 hJ ⊢
  have en1 := en.step s1
  clear ok r en
  by_cases hst : stands src ds st1 = true
  case neg =>
    rw [if_pos (by simpa using hst)] at ok1; exact ok1.elim
  rw [if_neg (by simpa using hst)] at ok1
  generalize hf : (fun d st => match bindT (wipeE env own) tg d with
        | some env' => (evX (run C.T C.k) cond env' st).bind fun c st => (match c with
          | .v (.bool true) => (evX (run C.T C.k) elt env' st).bind fun y st => .ok (some y.d) st
          | .v (.bool false) => .ok Option.none st
          | _ => .stuck)
        | Option.none => (.stuck : R (Option MP.D))) = f at ok1
  cases hl : loopC (stands src ds) f ds st1 with
  | err c st2 => rw [hl] at ok1; exact ok1.elim
  | stuck => rw [hl] at ok1; exact ok1.elim
  | ok ys st2 =>
  rw [hl] at ok1
  obtain ⟨hlen, ok1⟩ := ite_ok (X := X) ok1
  have hFD : F1 D = none := by
    cases e : F1 D with
    | none => rfl
    | some o => rw [r1.sub D o e] at hD; cases hD
  have hAD : D ∉ ad1 := fun hm => r1.live D hm hD
  let Wc : Nat → Hp → Prop := fun i H => i ≤ ds.length ∧ ∃ F' ad' st' acc done rest, Step F1 ad1 H1 F' ad' H ∧ RelS X.K F' ad' st' H ∧ H D = some (.lst acc) ∧ F' D = none ∧ D ∉ ad' ∧ Reps X.K F' ad' acc done ∧ stands src ds st' = true ∧ loopC (stands src ds) f (ds.drop i) st' = .ok rest st2 ∧ done ++ rest = ys
  refine ⟨fun i m H => m = ds.length - i ∧ Wc i H, ⟨ds.length, by simp, Nat.zero_le _, F1, ad1, st1, [], [], ys, Step.beside hD, r1.beside hD, upd_same, hFD, hAD, .nil, hst, by simpa using hl, rfl⟩, ?_⟩
  rintro i m H2 ⟨rfl, hi, F2, ad2, st', acc, done, rest, s2, r2, hacc, hF2, hA2, hr2, hst2, hl2, hys⟩
  by_cases hlt : i < ds.length
  · obtain ⟨jgo, jyld⟩ := hJ.go i F2 ad2 st' H2 s2 r2 hst2 hlt
    refine .inr ⟨jgo, Wc (i + 1), fun H' w => ⟨ds.length - (i + 1), by omega, rfl, w⟩, fun x H' hy => ?_⟩
    obtain ⟨F3, s3, r3, d, hd, x3⟩ := jyld x H' hy
    have hdrop : ds.drop i = d :: ds.drop (i + 1) := by
      rw [List.drop_eq_getElem_cons hlt]
      congr 1
      rw [List.getElem?_eq_getElem hlt] at hd
      exact Option.some.inj hd
    rw [hdrop] at hl2
    unfold loopC at hl2
    cases hfd : f d st' with
    | err c q => rw [hfd] at hl2; cases hl2
    | stuck => rw [hfd] at hl2; cases hl2
    | ok ro st4 =>
    rw [hfd] at hl2
    dsimp only at hl2
    by_cases hst4 : stands src ds st4 = true
    case neg =>
      rw [if_neg hst4] at hl2; cases hl2
    rw [if_pos hst4] at hl2
    cases hl4 : loopC (stands src ds) f (ds.drop (i + 1)) st4 with
    | err c q => rw [hl4] at hl2; cases hl2
    | stuck => rw [hl4] at hl2; cases hl2
    | ok rest4 st5 =>
    rw [hl4] at hl2
    dsimp only at hl2
    rw [← hf] at hfd
    dsimp only at hfd
    cases hb : bindT (wipeE env own) tg d with
    | none => rw [hb] at hfd; cases hfd
    | some env' =>
    rw [hb] at hfd
    dsimp only at hfd
    have en3 : EnvRel X.K F3 ad2 (wipeE env own) (wipe σ own) := ((en1.step s2).step s3).wipe2 own
    refine tT_ok r3 x3 en3 hb fun σ2 en4 hw => ⟨by rw [hw own hsub, wipe_wipe], ?_⟩
    refine ⟨F3, ad2, env', st', r3, en4, ?_⟩
    cases hc : evX (run C.T C.k) cond env' st' with
    | err c q => rw [hc] at hfd; cases hfd
    | stuck => rw [hc] at hfd; cases hfd
    | ok cv st6 =>
    rw [hc] at hfd
    rw [R.bind_ok] at hfd
    intro F6 ad6 H6 v6 s6 r6 x6
    -- what is common
    have hH6 : ∀ {F7 ad7 H7}, Step F2 ad2 H2 F7 ad7 H7 → H7 D = some (.lst acc) ∧ F7 D = none ∧ D ∉ ad7 := fun {F7 ad7 H7} sS => by
      refine ⟨sS.keep D _ hA2 hacc, ?_, fun hm => ?_⟩
      · cases e : F7 D with
        | none => rfl
        | some o =>
          have z := (sS.newF D hF2 (by rw [e]; simp)).resolve_right hA2
          rw [hacc] at z; cases z
      · have z := sS.newA D hm hA2
        rw [hacc] at z; cases z
    split at hfd
    · cases x6
      refine ⟨true, rfl, ?_⟩
      refine iteT ?_
      refine ⟨F6, ad6, env', st6, r6, en4.step s6, ?_⟩
      cases he : evX (run C.T C.k) elt env' st6 with
      | err c q => rw [he] at hfd; cases hfd
      | stuck => rw [he] at hfd; cases hfd
      | ok y st7 =>
      rw [he] at hfd
      rw [R.bind_ok] at hfd
      cases hfd
      cases hl2
      intro F7 ad7 H7 v7 s7 r7 x7
      obtain ⟨F8, s8, r8, x8⟩ := freezeX s7 r7 x7
      have sS : Step F2 ad2 H2 F8 ad7 H7 := s3.trans (s6.trans s8)
      obtain ⟨k1, k2, k3⟩ := hH6 sS
      refine ⟨acc, k1, ?_, ?_⟩
      · have z := hr2.length
        have z2 := congrArg List.length hys
        simp only [List.length_append, List.length_cons] at z2
        omega
      · refine ⟨hlt, F8, ad7, st4, acc ++ [v7], done ++ [y.d], rest4, (s2.trans sS).aside hD, r8.aside k2 k3, upd_same, k2, k3, (hr2.step sS).append (Reps.one x8), hst4, hl4, ?_⟩
        rw [← hys]
        simp
    · cases x6
      refine ⟨false, rfl, ?_⟩
      refine iteF ?_
      cases hfd
      cases hl2
      have sS : Step F2 ad2 H2 F6 ad6 H6 := s3.trans s6
      obtain ⟨k1, k2, k3⟩ := hH6 sS
      exact ⟨hlt, F6, ad6, st4, acc, done, rest4, s2.trans sS, r6, k1, k2, k3, hr2.step sS, hst4, hl4, hys⟩
    · cases hfd
  · have e : i = ds.length := by omega
    subst e
    refine .inl ⟨hJ.stop _ F2 ad2 st' H2 s2 r2 hst2 (Nat.le_refl _), ?_⟩
    rw [List.drop_length] at hl2
    unfold loopC at hl2
    cases hl2
    rw [List.append_nil] at hys
    subst hys
    exact ok1 F2 ad2 H2 _ s2 r2 ⟨D, acc, rfl, hD, hacc, hF2, hA2, hr2⟩
end
end MP

/-! All expressions that the check lets by are sound. -/
namespace MP
open PySem PySem.Spec PyProof.Rows L2

section
variable {C : Con} {N : List Str} {X : Cx} {sc : Scope} {ow : Str → Bool} {ew : L2.St → XK}
theorem cell_key {e : E} {σ : L2.St} {H : Hp} {Q : VK} (h : tX C X ew (.cell e) σ H Q) : tX C X ew e σ H Q := by
  obtain ⟨F, ad, env, st, r, en, ok⟩ := h
  unfold evX at ok
  refine ⟨F, ad, env, st, r, en, ok.bindX fun x st1 F1 ad1 H1 v s1 r1 x1 ok1 => ?_⟩
  split at ok1
  · obtain ⟨p, h1, h2, h3⟩ := cellX s1 r1 x1
    exact ok1 _ _ _ _ h1 h2 h3
  · exact ok1.elim
theorem sd_cell {e : E} {pe : Expr} (h : Sd C X ew e pe) : Sd C X ew (.cell e) pe :=
  ⟨h.ex.imp fun σ H Q q => cell_key q, fun t => (h.tst t).imp fun σ H Q q => cell_key q, fun t => (h.who t).imp fun σ H Q q => cell_key q⟩
theorem nat_all {l own : List Nat} (h : l.all (fun i => own.contains i) = true) : ∀ i ∈ l, i ∈ own := fun i hi => by
  have := List.all_eq_true.mp h i hi
  simpa using this
/-- the parts of a comprehension -/
structure CompOk (C : Con) (N : List Str) (X : Cx) (sc : Scope) (ew : L2.St → XK) (elt cond : E) (tg : Tg) (it : It) (own : List Nat) (pelt ptg pit : Expr) (pifs : List Expr) (scope : Scope) : Prop where
  blk : BlkOk X.N X.env.scope scope (ownP N own)
  itp : PI X ptg pit (tI C X ew it)
  tgp : ∀ (s : Shared) (H : Hp) (Cc : Addr) (cl : List (Str × Addr)) (fp : List Addr), PG (X.blk s H scope (compEnvC scope cl Cc X.env) fp) ptg (tT X.K tg)
  tt : ∀ (s : Shared) (H : Hp) (Cc : Addr) (cl : List (Str × Addr)) (fp : List Addr), PTs (X.blk s H scope (compEnvC scope cl Cc X.env) fp) pifs (tC9 C X cond)
  te : ∀ (s : Shared) (H : Hp) (Cc : Addr) (cl : List (Str × Addr)) (fp : List Addr), PE (X.blk s H scope (compEnvC scope cl Cc X.env) fp) pelt (tX C X E9 elt)
  ns : ∀ x, foldedSetIterable pit X.env x = pure x
  sub : ∀ i ∈ tgIx tg, i ∈ own
theorem sd_comp {elt cond : E} {tg : Tg} {it : It} {own : List Nat} {pelt ptg pit : Expr} {pifs : List Expr} {scope : Scope} {pos : Pos} (g : Good C N X sc ow ew) (h : CompOk C N X sc ew elt cond tg it own pelt ptg pit pifs scope) :
    Sd C X ew (.comp elt tg it cond own) (.ListComp pelt [⟨ptg, pit, pifs, 0⟩] scope pos) := by
  refine Sd.plain ((pe_lc g.calm (by rw [g.hN]; exact g.nd) h.itp h.blk h.tgp h.tt h.te h.ns).imp fun σ H Q q => ?_) rfl
  rw [ownP_snd]
  exact comp_key h.sub q
mutual
theorem sndE : ∀ (e : E) {X : Cx} {sc : Scope} {ow : Str → Bool} {ew : L2.St → XK} {pe : Expr}, chkE C.T C.G N sc ow e pe = true → Good C N X sc ow ew → Sd C X ew e pe
  | .var i, _, _, _, _, _, h, g => sd_var g h
  | .lit d, _, _, _, _, _, h, g => sd_lit (by unfold chkE at h; exact h)
  | .glob x d, _, _, _, _, _, h, g => sd_glob g h
  | .bin o a b, _, _, _, _, _, h, g => by
    unfold chkE at h
    split at h
    · simp only [Bool.and_eq_true, decide_eq_true_eq] at h
      obtain ⟨⟨h1, h2⟩, h3⟩ := h
      subst h1
      exact sd_bin (sndE a h2 g) (sndE b h3 g)
    · cases h
  | .cmp o a b, _, _, _, _, _, h, g => by
    unfold chkE at h
    split at h
    · simp only [Bool.and_eq_true, decide_eq_true_eq, Bool.not_eq_true'] at h
      obtain ⟨⟨⟨h1, h2⟩, h3⟩, h4⟩ := h
      subst h1
      exact sd_cmp g (sndE a h3 g) (sndE b h4 g) h2
    · cases h
  | .chain o p a b c, _, _, _, _, _, h, g => by
    unfold chkE at h
    split at h
    · simp only [Bool.and_eq_true, decide_eq_true_eq, Bool.not_eq_true'] at h
      obtain ⟨⟨⟨⟨⟨h1, h2⟩, h3⟩, h4⟩, h5⟩, h6⟩ := h
      subst h1
      subst h2
      exact sd_chain g (sndE a h4 g) (sndE b h5 g) (sndE c h6 g) h3
    · cases h
  | .land a b, _, _, _, _, _, h, g => by
    unfold chkE at h
    split at h
    · simp only [Bool.and_eq_true] at h
      obtain ⟨⟨⟨h1, h2⟩, h3⟩, h4⟩ := h
      have hb := sndE b h4 g
      exact sd_land (sndE a h3 g) h1 (pe_one hb.ex) (pw_and1 (hb.tst h2))
    · simp only [Bool.and_eq_true] at h
      obtain ⟨⟨h1, h3⟩, h4⟩ := h
      have hb := sndE b h4 g
      exact sd_land (sndE a h3 g) h1 hb.ex (hb.who rfl)
    · cases h
  | .lor a b, _, _, _, _, _, h, g => by
    unfold chkE at h
    split at h
    · simp only [Bool.and_eq_true] at h
      obtain ⟨⟨⟨h1, h2⟩, h3⟩, h4⟩ := h
      have hb := sndE b h4 g
      exact sd_lor (sndE a h3 g) h1 (pe_one hb.ex) (pw_or1 (hb.tst h2))
    · simp only [Bool.and_eq_true] at h
      obtain ⟨⟨h1, h3⟩, h4⟩ := h
      have hb := sndE b h4 g
      exact sd_lor (sndE a h3 g) h1 hb.ex (hb.who rfl)
    · cases h
  | .lnot a, _, _, _, _, _, h, g => by
    unfold chkE at h
    split at h
    · simp only [Bool.and_eq_true] at h
      exact sd_lnot (sndE a h.2 g) h.1
    · cases h
  | .ite c a b, _, _, _, _, _, h, g => by
    unfold chkE at h
    split at h
    · simp only [Bool.and_eq_true] at h
      obtain ⟨⟨⟨h1, h2⟩, h3⟩, h4⟩ := h
      exact sd_ite (sndE c h2 g) h1 (sndE a h3 g) (sndE b h4 g)
    · cases h
  | .tup es, _, _, _, _, _, h, g => by
    unfold chkE at h
    split at h
    · exact sd_tup (sndEs es h g).1
    · cases h
  | .list es, _, _, _, _, _, h, g => by
    unfold chkE at h
    split at h
    · exact sd_list (sndEs es h g).1
    · cases h
  | .ix a b, _, _, _, _, _, h, g => by
    unfold chkE at h
    split at h
    · simp only [Bool.and_eq_true] at h
      obtain ⟨⟨h1, h2⟩, h3⟩ := h
      exact sd_ix (sndE a h2 g) (sndE b h3 g) h1
    · cases h
  | .sl a lo hi, _, _, _, _, _, h, g => by
    unfold chkE at h
    split at h
    · rename_i pa plo phi p2 pos
      simp only [Bool.and_eq_true] at h
      obtain ⟨⟨h1, h2⟩, h3⟩ := h
      refine sd_sl (sndE a h1 g) ?_ ?_
      · cases plo with
        | none => exact h2
        | some p =>
          simp only [Bool.and_eq_true, Bool.not_eq_true'] at h2
          exact ⟨h2.1, sndE lo h2.2 g⟩
      · cases phi with
        | none => exact h3
        | some p =>
          simp only [Bool.and_eq_true, Bool.not_eq_true'] at h3
          exact ⟨h3.1, sndE hi h3.2 g⟩
    · cases h
  | .call f es, _, _, _, _, _, h, g => by
    unfold chkE at h
    split at h
    · split at h
      · rename_i d hd
        simp only [Bool.and_eq_true, beq_iff_eq] at h
        obtain ⟨⟨⟨h1, h2⟩, h3⟩, h4⟩ := h
        obtain ⟨k1, k2, k3⟩ := sndEs es h4 g
        exact sd_callG g hd h1 h2 h3 k1 k2 k3 fun σ H Q q => key_call q
      · cases h
    · cases h
  | .callC f es, _, _, _, _, _, h, g => by
    unfold chkE at h
    split at h
    · split at h
      · rename_i d hd
        simp only [Bool.and_eq_true, beq_iff_eq] at h
        obtain ⟨⟨⟨h1, h2⟩, h3⟩, h4⟩ := h
        obtain ⟨k1, k2, k3⟩ := sndEs es h4 g
        exact sd_callG g hd h1 h2 h3 k1 k2 k3 fun σ H Q q => key_callC q
      · cases h
    · cases h
  | .callS f es, _, _, _, _, _, h, g => by
    unfold chkE at h
    split at h
    · split at h
      · rename_i d hd
        simp only [Bool.and_eq_true, beq_iff_eq] at h
        obtain ⟨⟨⟨h1, h2⟩, h3⟩, h4⟩ := h
        obtain ⟨k1, k2, k3⟩ := sndEs es h4 g
        exact sd_callG g hd h1 h2 h3 k1 k2 k3 fun σ H Q q => key_callS q
      · cases h
    · cases h
  | .bi f es, _, _, _, _, _, h, g => by
    unfold chkE at h
    split at h
    · split at h
      · simp only [Bool.and_eq_true, beq_iff_eq, Bool.not_eq_true'] at h
        obtain ⟨⟨⟨⟨⟨h1, h2⟩, h3⟩, h4⟩, h5⟩, h6⟩ := h
        subst h1
        subst h2
        split at h6
        · rename_i e
          exact sd_lrange g h3 h4 (sndE e h6 g) h5
        · cases h6
      · cases h
    · split at h
      · simp only [Bool.and_eq_true, beq_iff_eq, Bool.not_eq_true'] at h
        obtain ⟨⟨⟨⟨⟨h1, h2⟩, h3⟩, h4⟩, h5⟩, h6⟩ := h
        subst h1
        split at h6
        · rename_i e
          exact sd_isi g h2 h3 h4 (sndE e h6 g) h5
        · cases h6
      · cases h
    · split at h
      · simp only [Bool.and_eq_true, beq_iff_eq, decide_eq_true_eq] at h
        obtain ⟨⟨⟨⟨⟨h1, h2⟩, h3⟩, h4⟩, h5⟩, h6⟩ := h
        subst h1
        subst h2
        split at h6
        · rename_i e
          exact sd_tabIn g h3 h4 h5 (sndE e h6 g)
        · cases h6
      · cases h
    · split at h
      · simp only [Bool.and_eq_true, beq_iff_eq] at h
        obtain ⟨⟨⟨⟨⟨h1, h2⟩, h3⟩, h4⟩, h5⟩, h6⟩ := h
        subst h1
        split at h6
        · rename_i e
          exact sd_tabGet g h2 h3 h4 h5 (sndE e h6 g)
        · cases h6
      · cases h
    · split at h
      · simp only [Bool.and_eq_true, beq_iff_eq, Bool.not_eq_true'] at h
        obtain ⟨⟨⟨⟨⟨h1, h2⟩, h3⟩, h4⟩, h5⟩, h6⟩ := h
        subst h1
        subst h2
        split at h6
        · rename_i e
          exact sd_maxD0 g h4 h3 (sndE e h6 g) h5
        · cases h6
      · cases h
    · split at h
      · simp only [Bool.and_eq_true, Bool.not_eq_true'] at h
        obtain ⟨⟨⟨h1, h2⟩, h3⟩, h4⟩ := h
        obtain ⟨k1, k2, k3⟩ := sndEs es h4 g
        exact sd_bi g h1 h2 k1 k2
      · cases h
  | .mt m o es, _, _, _, _, _, h, g => by
    unfold chkE at h
    split at h
    · split at h
      · rename_i n z hm
        simp only [Bool.and_eq_true, beq_iff_eq, Bool.not_eq_true', decide_eq_true_eq] at h
        obtain ⟨⟨⟨⟨⟨⟨h1, h2⟩, h3⟩, h4⟩, h5⟩, h6⟩, h7⟩ := h
        obtain ⟨k1, k2, k3⟩ := sndEs es h7 g
        exact sd_mt g hm h1 h2 (sndE o h3 g) (by simpa using h4) h5 h6 k1 k2 k3
      · cases h
    · cases h
  | .comp elt tg it cond own, X, sc, ow, ew, _, h, g => by
    unfold chkE at h
    split at h
    · rename_i pelt ptg pit pifs scope pos
      simp only [Bool.and_eq_true, Bool.not_eq_true'] at h
      obtain ⟨⟨⟨⟨⟨⟨h1, h2⟩, h3⟩, h4⟩, h5⟩, h6⟩, h7⟩ := h
      refine sd_comp g ⟨by rw [g.hN, g.sc]; exact blkOk_by h1, sndI it h2 g ptg (fun z => z), fun s H Cc cl fp => pg_of (g.blk s H scope cl Cc fp) h5, fun s H Cc cl fp => ?_, fun s H Cc cl fp => (sndE elt h6 (g.blk s H scope cl Cc fp)).ex, not_set h3, nat_all h4⟩
      cases pifs with
      | nil =>
        have e1 : cond = .lit (.bool true) := by
          simp only at h7
          unfold isTrueLit at h7
          split at h7
          · rfl
          · cases h7
        subst e1
        refine ⟨fun pins s σ H Q I q => pts_nil.run pins s σ H Q I ?_⟩
        obtain ⟨F, ad, env, st, r, en, ok⟩ := q
        unfold evX at ok
        obtain ⟨c, e, q⟩ := ok.val r (.bool true)
        cases e
        exact q
      | cons pc r =>
        cases r with
        | nil =>
          simp only [Bool.and_eq_true] at h7
          exact pts_one ((sndE cond h7.2 (g.blk s H scope cl Cc fp)).tst h7.1)
        | cons _ _ => cases h7
    · cases h
  | .cell e, _, _, _, _, _, h, g => sd_cell (sndE e (by unfold chkE at h; exact h) g)
  | .dnew _, _, _, _, _, _, h, g => by unfold chkE at h; cases h
theorem sndEs : ∀ (es : Es) {X : Cx} {sc : Scope} {ow : Str → Bool} {ew : L2.St → XK} {ps : List Expr}, chkEs C.T C.G N sc ow es ps = true → Good C N X sc ow ew → PA X ps (tXs C X ew es) ∧ nostar ps = true ∧ (ps = [] → es = .nil)
  | .nil, _, _, _, _, ps, h, g => by
    unfold chkEs at h
    have e : ps = [] := by simpa using h
    subst e
    exact ⟨sd_nil, rfl, fun _ => rfl⟩
  | .cons e es, _, _, _, _, ps, h, g => by
    unfold chkEs at h
    split at h
    · simp only [Bool.and_eq_true, Bool.not_eq_true'] at h
      obtain ⟨⟨h1, h2⟩, h3⟩ := h
      obtain ⟨k1, k2, k3⟩ := sndEs es h3 g
      refine ⟨sd_cons (sndE e h2 g) k1 h1, ?_, fun z => by cases z⟩
      unfold nostar
      rw [h1, k2]; rfl
    · cases h
theorem sndI : ∀ (it : It) {X : Cx} {sc : Scope} {ow : Str → Bool} {ew : L2.St → XK} {tup : Bool} {pe : Expr}, chkI C.T C.G N sc ow tup it pe = true → Good C N X sc ow ew → ∀ ptg, (tup = true → tupB ptg = true) → PI X ptg pe (tI C X ew it)
  | .seq e, _, _, _, _, _, _, h, g, ptg, ht => pi_seqD (sndE e (by unfold chkI at h; exact h) g)
  | .range1 a, _, _, _, _, _, _, h, g, ptg, ht => by
    unfold chkI at h
    split at h
    · simp only [Bool.and_eq_true, beq_iff_eq, Bool.not_eq_true'] at h
      obtain ⟨⟨⟨h1, h2⟩, h3⟩, h4⟩ := h
      subst h1
      exact pi_r1D g h2 (sndE a h4 g) h3
    · cases h
  | .range2 a b, _, _, _, _, _, _, h, g, ptg, ht => by
    unfold chkI at h
    split at h
    · simp only [Bool.and_eq_true, beq_iff_eq, Bool.not_eq_true'] at h
      obtain ⟨⟨⟨⟨⟨h1, h2⟩, h3⟩, h4⟩, h5⟩, h6⟩ := h
      subst h1
      exact pi_r2D g h2 (sndE a h5 g) (sndE b h6 g) h3 h4
    · cases h
  | .zip a b, _, _, _, _, _, _, h, g, ptg, ht => by
    unfold chkI at h
    split at h
    · simp only [Bool.and_eq_true, beq_iff_eq, Bool.not_eq_true'] at h
      obtain ⟨⟨⟨⟨⟨⟨h0, h1⟩, h2⟩, h3⟩, h4⟩, h5⟩, h6⟩ := h
      subst h1
      have z := ht h0
      cases ptg <;> first | exact pi_zipD g h2 (sndE a h5 g) (sndE b h6 g) h3 h4 | (cases z)
    · cases h
end
end
end MP

/-! Statements. -/
namespace MP
open PySem PySem.Spec PyProof.Rows L2

/-- an own exception class -/
structure ExcOk (K : PySem.W.Frag) (mg : Str → Option Value) (c : Str) (a : Addr) : Prop where
  ex : ∃ B newId initId bmB, ExcBaseFacts B newId initId bmB ∧ PySem.W.excIn K a bmB newId = true
  gl : mg c = some (.ref a)
  kp : PySem.W.keepIn K (.ref a) = true
  sub : PySem.W.subIn K (.ref a) (.type "BaseException") = some true
  ty : PySem.W.typeIn K (.ref a) = some (.type "type")
structure GoodS (C : Con) (N : List Str) (X : Cx) (sc : Scope) (ow : Str → Bool) (W : WX) : Prop where
  g : Good C N X sc ow (WE W)
  own : PassesOwn (model X.prog X.w) X.A X.env X.xe
  tk : Takes X W
  exc : ∀ c a, C.cls c = some a → ExcOk X.K X.mg c a
  kind : sc.kind = .function

def OkX (K : PySem.W.Frag) (cls : Str → Option Addr) (W : WX) (F : Hp) (ad : List Addr) (H : Hp) (r : MP.X) (D : Ends) : Prop := match r with
  | .nx env st => ∀ F' ad' H' σ', Step F ad H F' ad' H' → RelS K F' ad' st H' → EnvRel K F' ad' env σ' → D.nx σ' H'
  | .rt d st => ∀ F' ad' H' v, Step F ad H F' ad' H' → RelS K F' ad' st H' → Rep K F' ad' v d → D.rt v H'
  | .err c env st => ∀ F' ad' H' σ' a, Step F ad H F' ad' H' → RelS K F' ad' st H' → EnvRel K F' ad' env σ' → cls c = some a → W (.ref a) none σ' H'
  | .stuck => False
section
variable {K : PySem.W.Frag} {cls : Str → Option Addr} {W : WX} {F F1 : Hp} {ad ad1 : List Addr} {H H1 : Hp} {st st1 : Sto} {D D' : Ends}
theorem OkX.step (s : Step F ad H F1 ad1 H1) {r : MP.X} (h : OkX K cls W F ad H r D) : OkX K cls W F1 ad1 H1 r D := by
  cases r with
  | nx env st' => exact fun F' ad' H' v s' r' x' => h F' ad' H' v (s.trans s') r' x'
  | rt d st' => exact fun F' ad' H' v s' r' x' => h F' ad' H' v (s.trans s') r' x'
  | err c env st' => exact fun F' ad' H' σ' a s' r' x' e => h F' ad' H' σ' a (s.trans s') r' x' e
  | stuck => exact h
/-- an expression, then the rest -/
theorem OkX.bindE {cf : CF} {e : E} {env : MP.Env} {σ : L2.St} {f : MP.D → Sto → MP.X} (h : OkX K cls W F ad H ((evE cf e env st).toX env f) D) (en : EnvRel K F ad env σ) {Q : VK}
    (k : ∀ d st' F' ad' H' v, Step F ad H F' ad' H' → RelS K F' ad' st' H' → Rep K F' ad' v d → OkX K cls W F' ad' H' (f d st') D → Q v H') : OkV K cls (WE W σ) F ad H (evX cf e env st) Q := by
  unfold evE at h
  cases q : evX cf e env st with
  | ok x st' =>
    rw [q] at h
    intro F' ad' H' v s r xr
    obtain ⟨F'', s', r', q'⟩ := freezeX s r xr
    exact k x.d st' F'' ad' H' v s' r' q' (OkX.step s' h)
  | err c st' =>
    rw [q] at h
    exact fun F' ad' H' a s r e => h F' ad' H' σ a s r (en.step s) e
  | stuck => rw [q] at h; exact h
theorem OkX.bindIt {cf : CF} {it : It} {env : MP.Env} {σ : L2.St} {f : MP.D × List MP.D → Sto → MP.X} (h : OkX K cls W F ad H ((evI cf it env st).toX env f) D) (en : EnvRel K F ad env σ) {QI : MP.D → List MP.D → Hp → List Addr → Hp → Prop}
    (k : ∀ p st' F' ad' H', Step F ad H F' ad' H' → RelS K F' ad' st' H' → OkX K cls W F' ad' H' (f p st') D → QI p.1 p.2 F' ad' H') : OkI K cls (WE W σ) F ad H (evI cf it env st) QI := by
  cases q : evI cf it env st with
  | ok x st' =>
    rw [q] at h
    intro F' ad' H' s r
    exact k x st' F' ad' H' s r (OkX.step s h)
  | err c st' =>
    rw [q] at h
    exact fun F' ad' H' a s r e => h F' ad' H' σ a s r (en.step s) e
  | stuck => rw [q] at h; exact h
end
def tS (C : Con) (X : Cx) (W : WX) (s : S) : TS := fun D σ H => ∃ F ad env st, RelS X.K F ad st H ∧ EnvRel X.K F ad env σ ∧ OkX X.K C.cls W F ad H (exS (run C.T C.k) s env st) D
def tSs (C : Con) (X : Cx) (W : WX) (ss : List S) : TS := fun D σ H => ∃ F ad env st, RelS X.K F ad st H ∧ EnvRel X.K F ad env σ ∧ OkX X.K C.cls W F ad H (exL (run C.T C.k) ss env st) D
theorem _root_.L2.PS.imp {X : Cx} {e : Stmt} {t t' : TS} (h : PS X e t) (i : ∀ D σ H, t' D σ H → t D σ H) : PS X e t' := ⟨fun pins s σ H Q I q => h.run pins s σ H Q I (i _ _ _ q)⟩
theorem _root_.L2.PSs.imp {X : Cx} {e : List Stmt} {t t' : TS} (h : PSs X e t) (i : ∀ D σ H, t' D σ H → t D σ H) : PSs X e t' := ⟨fun pins s σ H Q I q => h.run pins s σ H Q I (i _ _ _ q)⟩

/-! ### the check -/
def localB (sc : Scope) (x : Str) : Bool := sc.names.lookup x == some .local
/-- name = [..] stores as it goes -/
def swapB (sc : Scope) (x : Str) (px : Pos) : Expr → Bool
  | .ListComp _ _ scope p => localB sc x && (px.line == p.line) && !(scope.names.any fun (n, k) => n == x && (k == .local || k == .cell))
  | _ => false
def compB : Expr → Bool
  | .ListComp _ _ _ _ => true
  | .SetComp _ _ _ _ => true
  | .DictComp _ _ _ _ _ => true
  | _ => false
def compB2 : Expr → Bool
  | .SetComp _ _ _ _ => true
  | .DictComp _ _ _ _ _ => true
  | _ => false
def nmL (N : List Str) (sc : Scope) (i : Nat) : Expr → Bool
  | .Name x _ => (N[i]? == some x) && localB sc x
  | _ => false
def lineOf : Expr → Nat
  | .Name _ p => p.line
  | _ => 0
def isComp : E → Option (E × Tg × It × E × List Nat)
  | .comp elt tg it cond own => some (elt, tg, it, cond, own)
  | .cell (.comp elt tg it cond own) => some (elt, tg, it, cond, own)
  | _ => none
mutual
def chkS (T : Nat → Option Def) (G : Str → Option D) (cls : Str → Option Addr) (N : List Str) (sc : Scope) (ow : Str → Bool) : S → Stmt → Bool
  | .set i e, ps => (match ps with
    | .Assign [.Name x px] pe _ => (N[i]? == some x) && locB sc ow x && chkE T G N sc ow e pe && !compB2 pe && (!swapB sc x px pe || (isComp e).isSome)
    | _ => false)
  | .unpack is e, ps => (match ps with
    | .Assign [.Tuple qs _ _] pe _ => chkNames N sc ow is qs && chkE T G N sc ow e pe && !tupB pe
    | _ => false)
  | .par2 i j a b, ps => (match ps with
    | .Assign [.Tuple [qx, qy] _ _] (.Tuple [pa, pb] _ _) _ => nmL N sc i qx && nmL N sc j qy && decide (i ≠ j) && (lineOf qx == lineOf qy) && !starB pa && !starB pb && !([pa, pb].all (foldedForSure 8)) && !([pa, pb].all (constantsAlone 8)) && chkE T G N sc ow a pa && chkE T G N sc ow b pb
    | _ => false)
  | .par3 i j k a b c, ps => (match ps with
    | .Assign [.Tuple [qx, qy, qz] _ _] (.Tuple [pa, pb, pc] _ _) _ => nmL N sc i qx && nmL N sc j qy && nmL N sc k qz && decide (i ≠ j) && decide (i ≠ k) && decide (j ≠ k) && (lineOf qx == lineOf qy) && (lineOf qx == lineOf qz) && !starB pa && !starB pb && !starB pc && !([pa, pb, pc].all (foldedForSure 8)) && !([pa, pb, pc].all (constantsAlone 8)) && chkE T G N sc ow a pa && chkE T G N sc ow b pb && chkE T G N sc ow c pc
    | _ => false)
  | .put o i v, ps => (match ps with
    | .Assign [.Subscript po pi _] pe _ => plainIxB pi && chkE T G N sc ow v pe && chkE T G N sc ow o po && chkE T G N sc ow i pi
    | _ => false)
  | .expr e, ps => (match ps with
    | .Expr pe _ => !compB pe && chkE T G N sc ow e pe
    | _ => false)
  | .ret e, ps => (match ps with
    | .Return (some pe) _ => chkE T G N sc ow e pe
    | _ => false)
  | .retN, ps => (match ps with
    | .Return none _ => true
    | _ => false)
  | .ife c a b, ps => (match ps with
    | .If pc pa pb _ => tokB pc && chkE T G N sc ow c pc && chkL T G cls N sc ow a pa && chkL T G cls N sc ow b pb
    | _ => false)
  | .for_ tg it body tmp trim, ps => (match ps with
    | .For ptg pit pb [] _ => chkTg N sc ow tg ptg && chkI T G N sc ow (tupB ptg) it pit && !setB pit && chkL T G cls N sc ow body pb
    | _ => false)
  | .while_ c body tmp trim, ps => (match ps with
    | .While pc pb [] _ => tokB pc && chkE T G N sc ow c pc && chkL T G cls N sc ow body pb
    | _ => false)
  | .raise c, ps => (match ps with
    | .Raise (some (.Call (.Name x _) [.Constant (.str _) _ _] [] _)) none _ => c == x && (cls c).isSome && glB sc x && okN x
    | _ => false)
  | .fz _, _ => false
def chkL (T : Nat → Option Def) (G : Str → Option D) (cls : Str → Option Addr) (N : List Str) (sc : Scope) (ow : Str → Bool) : List S → List Stmt → Bool
  | [], ps => (match ps with
    | [] => true
    | _ => false)
  | s :: ss, ps => if isFz s then chkL T G cls N sc ow ss ps else (match ps with
    | p :: ps => chkS T G cls N sc ow s p && chkL T G cls N sc ow ss ps
    | [] => false)
end

section
variable {C : Con} {N : List Str} {X : Cx} {sc : Scope} {ow : Str → Bool} {W : WX}
theorem block_fn {env : PySem.Env} (h : env.scope.kind = .function) : env.blockKind = .function := by
  unfold Env.blockKind; rw [h]; rfl
theorem swap_eq {env : PySem.Env} {pe : Expr} {x : Str} {px : Pos} {l : Nat} (hk : env.scope.kind = .function) (hc : compB2 pe = false) : swapsWith pe (some (.Name x px)) l env = pure (swapB env.scope x px pe) := by
  cases pe <;> first
    | rfl
    | (cases hc; done)
    | skip
  unfold swapsWith swapB localB
  simp only [block_fn hk]
  rfl
theorem comp_of {e : E} {pe : Expr} (g : Good C N X sc ow (WE W)) (h : chkE C.T C.G N sc ow e pe = true) {elt cond : E} {tg : Tg} {it : It} {own : List Nat} (hc : isComp e = some (elt, tg, it, cond, own)) :
    ∃ pelt ptg pit pifs scope pos, pe = .ListComp pelt [⟨ptg, pit, pifs, 0⟩] scope pos ∧ CompOk C N X sc (WE W) elt cond tg it own pelt ptg pit pifs scope ∧ ∀ σ H Q, tX C X (WE W) e σ H Q → tX C X (WE W) (.comp elt tg it cond own) σ H Q := by
  have main : ∀ {pe}, chkE C.T C.G N sc ow (.comp elt tg it cond own) pe = true → ∃ pelt ptg pit pifs scope pos, pe = .ListComp pelt [⟨ptg, pit, pifs, 0⟩] scope pos ∧ CompOk C N X sc (WE W) elt cond tg it own pelt ptg pit pifs scope := fun {pe} h => by
    unfold chkE at h
    split at h
    · rename_i pelt ptg pit pifs scope pos
      simp only [Bool.and_eq_true, Bool.not_eq_true'] at h
      obtain ⟨⟨⟨⟨⟨⟨h1, h2⟩, h3⟩, h4⟩, h5⟩, h6⟩, h7⟩ := h
      refine ⟨pelt, ptg, pit, pifs, scope, pos, rfl, ⟨by rw [g.hN, g.sc]; exact blkOk_by h1, sndI it h2 g ptg (fun z => z), fun s H Cc cl fp => pg_of (g.blk s H scope cl Cc fp) h5, fun s H Cc cl fp => ?_, fun s H Cc cl fp => (sndE elt h6 (g.blk s H scope cl Cc fp)).ex, not_set h3, nat_all h4⟩⟩
      cases pifs with
      | nil =>
        have e1 : cond = .lit (.bool true) := by
          simp only at h7
          unfold isTrueLit at h7
          split at h7
          · rfl
          · cases h7
        subst e1
        refine ⟨fun pins s σ H Q I q => pts_nil.run pins s σ H Q I ?_⟩
        obtain ⟨F, ad, env, st, r, en, ok⟩ := q
        unfold evX at ok
        obtain ⟨c, e, q⟩ := ok.val r (.bool true)
        cases e
        exact q
      | cons pc r =>
        cases r with
        | nil =>
          simp only [Bool.and_eq_true] at h7
          exact pts_one ((sndE cond h7.2 (g.blk s H scope cl Cc fp)).tst h7.1)
        | cons _ _ => cases h7
    · cases h
  unfold isComp at hc
  split at hc
  · cases hc
    obtain ⟨a1, a2, a3, a4, a5, a6, a7, a8⟩ := main h
    exact ⟨a1, a2, a3, a4, a5, a6, a7, a8, fun σ H Q q => q⟩
  · cases hc
    unfold chkE at h
    obtain ⟨a1, a2, a3, a4, a5, a6, a7, a8⟩ := main h
    exact ⟨a1, a2, a3, a4, a5, a6, a7, a8, fun σ H Q q => cell_key q⟩
  · cases hc
theorem set_key {i : Nat} {e : E} {D : Ends} {σ : L2.St} {H : Hp} (h : tS C X W (.set i e) D σ H) : tX C X (WE W) e σ H fun x H1 => D.nx (σ.set i (some x)) H1 := by
  obtain ⟨F, ad, env, st, r, en, ok⟩ := h
  unfold exS at ok
  exact ⟨F, ad, env, st, r, en, ok.bindE en fun d st' F' ad' H' v s r' x ok' => ok' _ _ _ _ (Step.refl _ _ _) r' ((en.step s).set i x)⟩
theorem ss_set {i : Nat} {e : E} {ps : Stmt} (g : GoodS C N X sc ow W) (h : chkS C.T C.G C.cls N sc ow (.set i e) ps = true) : PS X ps (tS C X W (.set i e)) := by
  unfold chkS at h
  split at h
  · rename_i x px pe pos
    simp only [Bool.and_eq_true, beq_iff_eq, Bool.not_eq_true'] at h
    obtain ⟨⟨⟨⟨h1, h2⟩, h3⟩, h4⟩, h5⟩ := h
    obtain ⟨l1, l2⟩ := loc_of g.g h2
    have hk : X.env.scope.kind = .function := by rw [g.g.sc]; exact g.kind
    have hsw := swap_eq (x := x) (px := px) (l := pos.line) hk h4
    rw [g.g.sc] at hsw
    cases hs : swapB sc x px pe with
    | false =>
      rw [hs] at hsw
      exact (ps_set (by rw [g.g.hN]; exact g.g.nd) (by rw [g.g.hN]; exact h1) l1 (sndE e h3 g.g).ex hsw l2).imp fun D σ H q => set_key q
    | true =>
      rw [hs] at h5 hsw
      simp only [Bool.not_true, Bool.false_or] at h5
      obtain ⟨⟨elt, tg, it, cond, own⟩, hc⟩ := Option.isSome_iff_exists.mp h5
      obtain ⟨pelt, ptg, pit, pifs, scope, pos', e1, ok, key⟩ := comp_of g.g h3 hc
      subst e1
      have hl : X.env.scope.names.lookup x = some .local := by
        unfold swapB localB at hs
        simp only [Bool.and_eq_true, beq_iff_eq] at hs
        rw [g.g.sc]; exact hs.1.1
      refine (ps_setLc g.g.calm (by rw [g.g.hN]; exact g.g.nd) (by rw [g.g.hN]; exact h1) hl hsw ok.itp ok.blk ok.tgp ok.tt ok.te ok.ns).imp fun D σ H q => ?_
      show tLc _ _ _ _ _ σ H fun x H1 => gName i x σ H1 D.nx
      rw [ownP_snd]
      exact comp_key ok.sub (key _ _ _ (set_key q))
  · cases h
theorem ss_unpack {is : List Nat} {e : E} {ps : Stmt} (g : GoodS C N X sc ow W) (h : chkS C.T C.G C.cls N sc ow (.unpack is e) ps = true) : PS X ps (tS C X W (.unpack is e)) := by
  unfold chkS at h
  split at h
  · rename_i qs k pt pe pos
    simp only [Bool.and_eq_true, Bool.not_eq_true'] at h
    obtain ⟨⟨h1, h2⟩, h3⟩ := h
    obtain ⟨g1, g2, g3⟩ := pgs_of g.g h1
    refine (ps_asg (sndE e h2 g.g).ex (pg_tup g.g.calm g1 g2 g3) (by cases pe <;> rfl) (by cases pe <;> first | rfl | cases h3) rfl).imp fun D σ H q => ?_
    obtain ⟨F, ad, env, st, r, en, ok⟩ := q
    unfold exS at ok
    refine ⟨F, ad, env, st, r, en, ok.bindE en fun d st' F' ad' H' v s r' x ok' => ?_⟩
    split at ok'
    · rename_i env' e'
      exact tT_ok (tg := .many is) r' x (en.step s) e' fun σ' en' _ => ok' _ _ _ _ (Step.refl _ _ _) r' en'
    · exact ok'.elim
  · cases h
theorem sw2 {env : PySem.Env} {x y : Str} {px py pt pt2 : Pos} {kt k2} {pa pb : Expr} (hk : env.scope.kind = .function) (hx : env.scope.names.lookup x = some .local) (hy : env.scope.names.lookup y = some .local) (hl : px.line = py.line) (hne : x ≠ y)
    (sa : starB pa = false) (sb : starB pb = false) (hf : ([pa, pb].all (foldedForSure 8)) = false) (hc : ([pa, pb].all (constantsAlone 8)) = false) :
    swappedStores [.Tuple [.Name x px, .Name y py] kt pt] (.Tuple [pa, pb] k2 pt2) env = pure (some [x, y]) := by
  have kx : env.kindOf x = some .local := hx
  have ky : env.kindOf y = some .local := hy
  unfold swappedStores
  simp [block_fn hk, kx, ky, hl, hf, hc, Expr.pos, List.eraseDups]
  rw [if_neg, if_pos]
  · have e1 : (y == x) = false := by simpa using Ne.symm hne
    simp [List.eraseDupsBy, List.eraseDupsBy.loop, e1]
  · intro h
    rcases h with h | h
    · split at h
      · cases sa
      · cases h
    · split at h
      · cases sb
      · cases h
theorem sw3 {env : PySem.Env} {x y z : Str} {px py pz pt pt2 : Pos} {kt k2} {pa pb pc : Expr} (hk : env.scope.kind = .function) (hx : env.scope.names.lookup x = some .local) (hy : env.scope.names.lookup y = some .local) (hz : env.scope.names.lookup z = some .local) (hl : px.line = py.line) (hl2 : px.line = pz.line) (hne : x ≠ y) (hne2 : x ≠ z) (hne3 : y ≠ z)
    (sa : starB pa = false) (sb : starB pb = false) (sc : starB pc = false) (hf : ([pa, pb, pc].all (foldedForSure 8)) = false) (hc : ([pa, pb, pc].all (constantsAlone 8)) = false) :
    swappedStores [.Tuple [.Name x px, .Name y py, .Name z pz] kt pt] (.Tuple [pa, pb, pc] k2 pt2) env = pure (some [x, y, z]) := by
  have kx : env.kindOf x = some .local := hx
  have ky : env.kindOf y = some .local := hy
  have kz : env.kindOf z = some .local := hz
  unfold swappedStores
  simp [block_fn hk, kx, ky, kz, ← hl, ← hl2, hf, hc, Expr.pos, List.eraseDups]
  rw [if_neg, if_pos]
  · have e1 : (y == x) = false := by simpa using Ne.symm hne
    have e2 : (z == x) = false := by simpa using Ne.symm hne2
    have e3 : (z == y) = false := by simpa using Ne.symm hne3
    simp [List.eraseDupsBy, List.eraseDupsBy.loop, e1, e2, e3]
  · intro h
    rcases h with h | h | h
    · split at h
      · cases sa
      · cases h
    · split at h
      · cases sb
      · cases h
    · split at h
      · cases sc
      · cases h
theorem nmL_of {i : Nat} {q : Expr} (h : nmL N sc i q = true) : ∃ x p, q = .Name x p ∧ N[i]? = some x ∧ sc.names.lookup x = some .local := by
  unfold nmL at h
  split at h
  · rename_i x p
    unfold localB at h
    simp only [Bool.and_eq_true, beq_iff_eq] at h
    exact ⟨x, p, rfl, h.1, h.2⟩
  · cases h
theorem nm_ne {i j : Nat} {x y : Str} (nd : N.Nodup) (hi : N[i]? = some x) (hj : N[j]? = some y) (h : i ≠ j) : x ≠ y := fun e => by
  subst e
  exact h (nodup_ix nd hi hj)
theorem ss_par2 {i j : Nat} {a b : E} {ps : Stmt} (g : GoodS C N X sc ow W) (h : chkS C.T C.G C.cls N sc ow (.par2 i j a b) ps = true) : PS X ps (tS C X W (.par2 i j a b)) := by
  unfold chkS at h
  split at h
  · rename_i qx qy k1 p1 pa pb k2 p2 pos
    simp only [Bool.and_eq_true, beq_iff_eq, Bool.not_eq_true', decide_eq_true_eq] at h
    obtain ⟨⟨⟨⟨⟨⟨⟨⟨⟨h1, h2⟩, h3⟩, h4⟩, h5⟩, h6⟩, h7⟩, h8⟩, h9⟩, h10⟩ := h
    obtain ⟨x, px, rfl, n1, l1⟩ := nmL_of h1
    obtain ⟨y, py, rfl, n2, l2⟩ := nmL_of h2
    have hsc := g.g.sc
    have hN := g.g.hN
    have hk : X.env.scope.kind = .function := by rw [hsc]; exact g.kind
    refine (ps_par g.g.calm (by rw [hN]; exact g.g.nd) (by rw [hN]; exact n1) (by rw [hN]; exact n2) h3 (by rw [hsc]; exact l1) (by rw [hsc]; exact l2) (pa_cons (sndE a h9 g.g).ex (pa_cons (sndE b h10 g.g).ex pa_nil (star_each h6)) (star_each h5))
      (sw2 hk (by rw [hsc]; exact l1) (by rw [hsc]; exact l2) h4 (nm_ne g.g.nd n1 n2 h3) h5 h6 h7 h8)).imp fun D σ H q => ?_
    obtain ⟨F, ad, env, st, r, en, ok⟩ := q
    unfold exS at ok
    show tX C X (WE W) a σ H fun u H1 => tX C X (WE W) b σ H1 fun v H2 => ∃ v' w', [u, v] = [v', w'] ∧ D.nx ((σ.set i (some v')).set j (some w')) H2
    refine ⟨F, ad, env, st, r, en, ok.bindE en fun d st1 F1 ad1 H1 v s1 r1 x1 ok1 => ?_⟩
    refine ⟨F1, ad1, env, st1, r1, en.step s1, ok1.bindE (en.step s1) fun d2 st2 F2 ad2 H2 w s2 r2 x2 ok2 => ?_⟩
    exact ⟨_, _, rfl, ok2 _ _ _ _ (Step.refl _ _ _) r2 ((((en.step s1).step s2).set i (x1.step s2)).set j x2)⟩
  · cases h
theorem ss_par3 {i j k : Nat} {a b c : E} {ps : Stmt} (g : GoodS C N X sc ow W) (h : chkS C.T C.G C.cls N sc ow (.par3 i j k a b c) ps = true) : PS X ps (tS C X W (.par3 i j k a b c)) := by
  unfold chkS at h
  split at h
  · rename_i qx qy qz k1 p1 pa pb pc k2 p2 pos
    simp only [Bool.and_eq_true, beq_iff_eq, Bool.not_eq_true', decide_eq_true_eq] at h
    obtain ⟨⟨⟨⟨⟨⟨⟨⟨⟨⟨⟨⟨⟨⟨⟨h1, h2⟩, h3⟩, e1⟩, e2⟩, e3⟩, l4⟩, l5⟩, h4⟩, h5⟩, h6⟩, h7⟩, h8⟩, h9⟩, h10⟩, h11⟩ := h
    obtain ⟨x, px, rfl, n1, l1⟩ := nmL_of h1
    obtain ⟨y, py, rfl, n2, l2⟩ := nmL_of h2
    obtain ⟨z, pz, rfl, n3, l3⟩ := nmL_of h3
    have hsc := g.g.sc
    have hN := g.g.hN
    have hk : X.env.scope.kind = .function := by rw [hsc]; exact g.kind
    refine (ps_par3 g.g.calm (by rw [hN]; exact g.g.nd) (by rw [hN]; exact n1) (by rw [hN]; exact n2) (by rw [hN]; exact n3) e1 e2 e3 (by rw [hsc]; exact l1) (by rw [hsc]; exact l2) (by rw [hsc]; exact l3) (pa_cons (sndE a h9 g.g).ex (pa_cons (sndE b h10 g.g).ex (pa_cons (sndE c h11 g.g).ex pa_nil (star_each h6)) (star_each h5)) (star_each h4))
      (sw3 hk (by rw [hsc]; exact l1) (by rw [hsc]; exact l2) (by rw [hsc]; exact l3) l4 l5 (nm_ne g.g.nd n1 n2 e1) (nm_ne g.g.nd n1 n3 e2) (nm_ne g.g.nd n2 n3 e3) h4 h5 h6 h7 h8)).imp fun D σ H q => ?_
    obtain ⟨F, ad, env, st, r, en, ok⟩ := q
    unfold exS at ok
    show tX C X (WE W) a σ H fun u H1 => tX C X (WE W) b σ H1 fun v H2 => tX C X (WE W) c σ H2 fun w H3 => ∃ u' v' w', [u, v, w] = [u', v', w'] ∧ D.nx (((σ.set i (some u')).set j (some v')).set k (some w')) H3
    refine ⟨F, ad, env, st, r, en, ok.bindE en fun d st1 F1 ad1 H1 v s1 r1 x1 ok1 => ?_⟩
    refine ⟨F1, ad1, env, st1, r1, en.step s1, ok1.bindE (en.step s1) fun d2 st2 F2 ad2 H2 w s2 r2 x2 ok2 => ?_⟩
    have en2 := (en.step s1).step s2
    refine ⟨F2, ad2, env, st2, r2, en2, ok2.bindE en2 fun d3 st3 F3 ad3 H3 w3 s3 r3 x3 ok3 => ?_⟩
    exact ⟨_, _, _, rfl, ok3 _ _ _ _ (Step.refl _ _ _) r3 ((((en2.step s3).set i ((x1.step s2).step s3)).set j (x2.step s3)).set k x3)⟩
  · cases h
theorem ixN_len {n m : Nat} {k : Int} {j : Nat} (e : n = m) (h : ixN n k = some j) : ixN m k = some j := by subst e; exact h
theorem ss_put {o i v : E} {ps : Stmt} (g : GoodS C N X sc ow W) (h : chkS C.T C.G C.cls N sc ow (.put o i v) ps = true) : PS X ps (tS C X W (.put o i v)) := by
  unfold chkS at h
  split at h
  · rename_i po pi p1 pe pos
    simp only [Bool.and_eq_true] at h
    obtain ⟨⟨⟨h1, h2⟩, h3⟩, h4⟩ := h
    refine (ps_asg (sndE v h2 g.g).ex (pg_sub (sndE o h3 g.g).ex (sndE i h4 g.g).ex set_list (fun v => by cases pi <;> first | rfl | cases h1)) (by cases pe <;> rfl) (by cases pe <;> rfl) rfl).imp fun D σ H q => ?_
    obtain ⟨F, ad, env, st, r, en, ok⟩ := q
    unfold exS at ok
    refine ⟨F, ad, env, st, r, en, ok.bindE en fun d st1 F1 ad1 H1 v s1 r1 x1 ok1 => ?_⟩
    refine ⟨F1, ad1, env, st1, r1, en.step s1, ok1.bindE (en.step s1) fun d2 st2 F2 ad2 H2 w s2 r2 x2 ok2 => ?_⟩
    have en2 := (en.step s1).step s2
    refine ⟨F2, ad2, env, st2, r2, en2, ok2.bindE en2 fun d3 st3 F3 ad3 H3 w3 s3 r3 x3 ok3 => ?_⟩
    have y2 := x2.step s3
    have y1 := (x1.step s2).step s3
    split at ok3
    · rename_i st' e
      unfold putV at e
      split at e
      · cases x3
        cases y2 with
        | ref ha =>
          rename_i n k a
          split at e
          · rename_i xs hx
            obtain ⟨vs, g1, g2⟩ := r3.cell _ _ _ hx ha
            split at e
            · rename_i j hj
              cases e
              refine ⟨a, vs, _, j, rfl, rfl, g1, ixN_len g2.length.symm hj, ?_⟩
              exact ok3 _ _ _ _ (Step.write ha) (r3.write ⟨ha, by rw [hx]; intro z; cases z⟩ ⟨_, upd_same, g2.set j y1⟩) (en2.step s3)
            · cases e
          · cases e
      · cases e
    · exact ok3.elim
  · cases h
theorem ss_expr {e : E} {ps : Stmt} (g : GoodS C N X sc ow W) (h : chkS C.T C.G C.cls N sc ow (.expr e) ps = true) : PS X ps (tS C X W (.expr e)) := by
  unfold chkS at h
  split at h
  · rename_i pe pos
    simp only [Bool.and_eq_true, Bool.not_eq_true'] at h
    refine (ps_expr (sndE e h.2 g.g).ex (by cases pe <;> first | rfl | (exact absurd h.1 (by simp [compB])))).imp fun D σ H q => ?_
    obtain ⟨F, ad, env, st, r, en, ok⟩ := q
    unfold exS at ok
    exact ⟨F, ad, env, st, r, en, ok.bindE en fun d st1 F1 ad1 H1 v s1 r1 x1 ok1 => ok1 _ _ _ _ (Step.refl _ _ _) r1 (en.step s1)⟩
  · cases h
theorem ss_ret {e : E} {ps : Stmt} (g : GoodS C N X sc ow W) (h : chkS C.T C.G C.cls N sc ow (.ret e) ps = true) : PS X ps (tS C X W (.ret e)) := by
  unfold chkS at h
  split at h
  · rename_i pe pos
    refine (ps_ret (sndE e h g.g).ex).imp fun D σ H q => ?_
    obtain ⟨F, ad, env, st, r, en, ok⟩ := q
    unfold exS at ok
    exact ⟨F, ad, env, st, r, en, ok.bindE en fun d st1 F1 ad1 H1 v s1 r1 x1 ok1 => ok1 _ _ _ _ (Step.refl _ _ _) r1 x1⟩
  · cases h
theorem ss_retN {ps : Stmt} (h : chkS C.T C.G C.cls N sc ow .retN ps = true) : PS X ps (tS C X W .retN) := by
  unfold chkS at h
  split at h
  · refine ps_retN.imp fun D σ H q => ?_
    obtain ⟨F, ad, env, st, r, en, ok⟩ := q
    unfold exS at ok
    exact ok _ _ _ _ (Step.refl _ _ _) r .none
  · cases h
theorem ss_raise {c : Str} {ps : Stmt} (g : GoodS C N X sc ow W) (h : chkS C.T C.G C.cls N sc ow (.raise c) ps = true) : PS X ps (tS C X W (.raise c)) := by
  unfold chkS at h
  split at h
  · simp only [Bool.and_eq_true, beq_iff_eq] at h
    obtain ⟨⟨⟨h1, h2⟩, h3⟩, h4⟩ := h
    subst h1
    obtain ⟨a, ha⟩ := Option.isSome_iff_exists.mp h2
    obtain ⟨⟨B, newId, initId, bmB, k1, k2⟩, k3, k4, k5, k6⟩ := g.exc _ _ ha
    refine (ps_raise g.g.calm g.tk (pmk_own k1 k2 k3 k4 (raises_own k5 k6) (gl_of g.g.sc h3) (ok1 h4).1)).imp fun D σ H q => ?_
    obtain ⟨F, ad, env, st, r, en, ok⟩ := q
    unfold exS at ok
    exact ok _ _ _ _ a (Step.refl _ _ _) r en ha
  · cases h
end
end MP

/-! Tests, loops, bodies. -/
namespace MP
open PySem PySem.Spec PyProof.Rows L2

section
variable {K : PySem.W.Frag} {cls : Str → Option Addr} {W : WX} {F F1 : Hp} {ad ad1 : List Addr} {H H1 : Hp} {st st1 : Sto} {D D' : Ends}
theorem CellAt.lowT {n : Nat} {a : Addr} : ∀ {c : Cell}, CellAt K F ad H a c → c.low n = true → CellAt K F (ad.take n) H a c
  | .lst _, ⟨vs, h, r⟩, l => ⟨vs, h, r.lowT l⟩
  | .dk _ _, ⟨vs, h, e, r⟩, l => ⟨vs, h, e, r.lowT l⟩
  | .dt _ _, ⟨vs, h, e, r⟩, l => ⟨vs, h, e, r.lowT l⟩
  | .dead, h, _ => h
theorem RelS.takeT {n : Nat} (r : RelS K F ad st H) (l : (st.take n).all (Cell.low n) = true) : RelS K F (ad.take n) (st.take n) H where
  sub := r.sub
  nd := r.nd.sublist (List.take_sublist _ _)
  out := fun m a h hd => by
    have hm : m < n := by
      have := (List.getElem?_eq_some_iff.mp h).1
      simp only [List.length_take] at this
      omega
    rw [List.getElem?_take_of_lt hm] at h hd
    exact r.out m a h hd
  len := by simp [r.len]
  live := fun a h => r.live a (List.mem_of_mem_take h)
  cell := fun m c a h1 h2 => by
    have hc := List.all_eq_true.mp l c (List.mem_of_getElem? h1)
    have hm : m < n := by
      have := (List.getElem?_eq_some_iff.mp h1).1
      simp only [List.length_take] at this
      omega
    rw [List.getElem?_take_of_lt hm] at h1 h2
    exact (r.cell m c a h1 h2).lowT hc
theorem envBelow_at {n : Nat} : ∀ {env : MP.Env} {i : Nat} {d : MP.D}, envBelow n env = true → env[i]? = some (some d) → d.low n = true
  | some x :: r, 0, d, h, e => by
    simp only [envBelow, Bool.and_eq_true] at h
    simp only [List.getElem?_cons_zero, Option.some.injEq] at e
    subst e
    exact h.1
  | none :: r, 0, d, h, e => by simp at e
  | some x :: r, i + 1, d, h, e => by
    simp only [envBelow, Bool.and_eq_true] at h
    exact envBelow_at h.2 (by simpa using e)
  | none :: r, i + 1, d, h, e => by
    simp only [envBelow] at h
    exact envBelow_at h (by simpa using e)
  | [], i, d, h, e => by simp at e
theorem fin_ok {trim : Bool} {n : Nat} {tmp : List Nat} {env env' : MP.Env} {st' : Sto} {σ : L2.St} {F0 : Hp} {ad0 : List Addr} {H0 : Hp} (hn : n = ad0.length) (s : Step F0 ad0 H0 F ad H) (r : RelS K F ad st H) (en : EnvRel K F ad env σ) (e : fin trim n tmp env st = some (env', st')) :
    ∃ ad', Step F0 ad0 H0 F ad' H ∧ RelS K F ad' st' H ∧ EnvRel K F ad' env' σ := by
  unfold fin at e
  cases trim with
  | false =>
    rw [if_neg (by decide)] at e
    cases e
    exact ⟨ad, s, r, en.wipeL tmp⟩
  | true =>
    rw [if_pos rfl] at e
    split at e
    · rename_i hb
      rw [Bool.and_eq_true] at hb
      cases e
      obtain ⟨more, em⟩ := s.pre
      have e0 : ad.take n = ad0 := by rw [em, hn]; simp
      refine ⟨ad.take n, ⟨s.le, ⟨[], by rw [e0]; simp⟩, s.newF, fun a h1 h2 => absurd (by rw [e0] at h1; exact h1) h2, s.keep, s.dom⟩, r.takeT hb.2, ⟨by rw [wipeE_len]; exact en.len, fun i d h => ?_⟩⟩
      obtain ⟨v, h1, h2⟩ := (en.wipeL tmp).at_ i d h
      exact ⟨v, h1, h2.lowT (envBelow_at hb.1 h)⟩
    · cases e
theorem OkX.imp {r : MP.X} (h : OkX K cls W F ad H r D) (hn : ∀ σ H, D.nx σ H → D'.nx σ H) (hr : ∀ v H, D.rt v H → D'.rt v H) : OkX K cls W F ad H r D' := by
  cases r with
  | nx env st' => exact fun F' ad' H' v s' r' x' => hn _ _ (h F' ad' H' v s' r' x')
  | rt d st' => exact fun F' ad' H' v s' r' x' => hr _ _ (h F' ad' H' v s' r' x')
  | err c env st' => exact h
  | stuck => exact h
end
section
variable {C : Con} {N : List Str} {X : Cx} {sc : Scope} {ow : Str → Bool} {W : WX}
theorem ss_nil : PSs X [] (tSs C X W []) := pss_nil.imp fun D σ H ⟨F, ad, env, st, r, en, ok⟩ => by
  unfold exL at ok
  exact ok _ _ _ _ (Step.refl _ _ _) r en
theorem fz_step {n : Nat} {a : Addr} {vs : List V} {xs : List MP.D} {F : Hp} {ad : List Addr} {st : Sto} {H : Hp} (r : RelS X.K F ad st H) (ha : ad[n]? = some a) (hn : st[n]? = some (.lst xs)) (h1 : H a = some (.lst vs)) (h2 : Reps X.K F ad vs xs) :
    RelS X.K (upd F a (.lst vs)) ad (st.set n .dead) H ∧ Step F ad H (upd F a (.lst vs)) ad H := by
  have hF : F a = none := r.out n a ha (by rw [hn]; intro z; cases z)
  have hlt : n < st.length := (List.getElem?_eq_some_iff.mp hn).1
  have uniq : ∀ {m : Nat} {b : Addr}, ad[m]? = some b → m ≠ n → b ≠ a := fun {m b} hb hne z => by
    subst z
    obtain ⟨l1, e1⟩ := List.getElem?_eq_some_iff.mp hb
    obtain ⟨l2, e2⟩ := List.getElem?_eq_some_iff.mp ha
    exact hne ((List.getElem_inj r.nd).mp (e1.trans e2.symm))
  refine ⟨⟨fun b o h => ?_, r.nd, fun m b hb hd => ?_, by simp [r.len], r.live, fun m c b hc hb => ?_⟩, ⟨up_frozen hF, ⟨[], by simp⟩, fun b h1 h2 => ?_, fun b h1 h2 => absurd h1 h2, fun _ _ _ h => h, fun _ h => h⟩⟩
  · by_cases e : b = a
    · rw [e, upd_same] at h; cases h; rw [e]; exact h1
    · rw [upd_ne e] at h; exact r.sub b o h
  · have hne : m ≠ n := fun e => by
      subst e
      rw [List.getElem?_set_self hlt] at hd
      exact hd rfl
    rw [upd_ne (uniq hb hne)]
    exact r.out m b hb (by rw [List.getElem?_set_ne (Ne.symm hne)] at hd; exact hd)
  · by_cases e : m = n
    · subst e
      rw [List.getElem?_set_self hlt] at hc
      cases hc
      rw [ha] at hb
      cases hb
      exact ⟨vs, upd_same, h1⟩
    · rw [List.getElem?_set_ne (Ne.symm e)] at hc
      exact (r.cell m c b hc hb).up (up_frozen hF) (fun _ _ h => h) fun _ h => h
  · by_cases e : b = a
    · rw [e]; exact .inr (List.mem_of_getElem? ha)
    · rw [upd_ne e] at h2; exact absurd h1 h2
theorem ss_fz {i : Nat} {ss : List S} {ps : List Stmt} (h2 : PSs X ps (tSs C X W ss)) : PSs X ps (tSs C X W (.fz i :: ss)) := by
  refine h2.imp fun D σ H ⟨F, ad, env, st, r, en, ok⟩ => ?_
  unfold exL exS fzX at ok
  cases hv : env[i]? with
  | none => rw [hv] at ok; exact ok.elim
  | some o =>
  cases o with
  | none => rw [hv] at ok; exact ok.elim
  | some d0 =>
  cases d0 with
  | ref n =>
    rw [hv] at ok
    dsimp only at ok
    obtain ⟨v, hv1, hv2⟩ := en.at_ i _ hv
    cases hv2 with
    | ref ha =>
      cases hn : st[n]? with
      | none => rw [hn] at ok; exact ok.elim
      | some c =>
      cases c with
      | lst xs =>
        rw [hn] at ok
        dsimp only at ok
        obtain ⟨vs, h1, h2⟩ := r.cell _ _ _ hn ha
        obtain ⟨r', s'⟩ := fz_step r ha hn h1 h2
        refine ⟨_, ad, _, _, r', ⟨by simp [en.len], fun j d hj => ?_⟩, OkX.step s' ok⟩
        by_cases e : j = i
        · subst e
          rw [List.getElem?_set_self (List.getElem?_eq_some_iff.mp hv).1] at hj
          cases hj
          exact ⟨_, hv1, .list upd_same (h2.step s')⟩
        · rw [List.getElem?_set_ne (Ne.symm e)] at hj
          obtain ⟨w, hw1, hw2⟩ := en.at_ j d hj
          exact ⟨w, hw1, hw2.step s'⟩
      | _ => rw [hn] at ok; exact ok.elim
  | _ => rw [hv] at ok; exact ok.elim
theorem ss_cons {s : S} {ss : List S} {p : Stmt} {ps : List Stmt} (h1 : PS X p (tS C X W s)) (h2 : PSs X ps (tSs C X W ss)) : PSs X (p :: ps) (tSs C X W (s :: ss)) := by
  refine (pss_cons h1 h2).imp fun D σ H ⟨F, ad, env, st, r, en, ok⟩ => ?_
  show tS C X W s { D with nx := tSs C X W ss D } σ H
  unfold exL at ok
  refine ⟨F, ad, env, st, r, en, ?_⟩
  cases q : exS (run C.T C.k) s env st with
  | nx env' st' =>
    rw [q] at ok
    exact fun F' ad' H' σ' s' r' en' => ⟨F', ad', env', st', r', en', OkX.step s' ok⟩
  | rt d st' => rw [q] at ok; exact ok
  | err c env' st' => rw [q] at ok; exact ok
  | stuck => rw [q] at ok; exact ok
theorem ss_ife {c : E} {a b : List S} {pc : Expr} {pa pb : List Stmt} {pos : Pos} (hc : Sd C X (WE W) c pc) (tc : tokB pc = true) (ha : PSs X pa (tSs C X W a)) (hb : PSs X pb (tSs C X W b)) : PS X (.If pc pa pb pos) (tS C X W (.ife c a b)) := by
  refine (ps_if (hc.tst tc) ha hb).imp fun D σ H ⟨F, ad, env, st, r, en, ok⟩ => ?_
  unfold exS at ok
  refine ⟨F, ad, env, st, r, en, ok.bindE en fun d st1 F1 ad1 H1 v s1 r1 x1 ok1 => ?_⟩
  split at ok1
  · cases x1
    exact ⟨true, rfl, iteT ⟨F1, ad1, env, st1, r1, en.step s1, ok1⟩⟩
  · cases x1
    exact ⟨false, rfl, iteF ⟨F1, ad1, env, st1, r1, en.step s1, ok1⟩⟩
  · exact ok1.elim
theorem ss_for {tg : Tg} {it : It} {body : List S} {tmp : List Nat} {trim : Bool} {ptg pit : Expr} {pb : List Stmt} {pos : Pos} (g : GoodS C N X sc ow W) (hi : PI X ptg pit (tI C X (WE W) it)) (hg : PG X ptg (tT X.K tg)) (hb : PSs X pb (tSs C X W body)) (hs : setB pit = false) :
    PS X (.For ptg pit pb [] pos) (tS C X W (.for_ tg it body tmp trim)) := by
  refine (ps_for g.own g.g.calm hi hg hb (not_set hs)).imp fun D σ H ⟨F, ad, env, st, r, en, ok⟩ => ?_
  unfold exS at ok
  refine ⟨F, ad, env, st, r, en, ok.bindIt en fun p st1 F1 ad1 H1 s1 r1 ok1 => ?_⟩
  intro J hJ
  obtain ⟨src, ds⟩ := p
  dsimp only at ok1 hJ ⊢
  have en1 := en.step s1
  clear ok r en
  by_cases hst : stands src ds st1 = true
  case neg =>
    rw [if_pos (by simpa using hst)] at ok1; exact ok1.elim
  rw [if_neg (by simpa using hst)] at ok1
  have hn : st1.length = ad1.length := r1.len.symm
  let bodyF : MP.D → MP.Env → Sto → MP.X := fun d env st => match bindT env tg d with
        | some env' => exL (run C.T C.k) body env' st
        | Option.none => .stuck
  let Wc : Nat → L2.St → Hp → Prop := fun i σ H => i ≤ ds.length ∧ ∃ F' ad' env' st', Step F1 ad1 H1 F' ad' H ∧ RelS X.K F' ad' st' H ∧ EnvRel X.K F' ad' env' σ ∧ stands src ds st' = true ∧ OkX X.K C.cls W F1 ad1 H1 (loopF (stands src ds) trim st1.length tmp bodyF (ds.drop i) env' st') D
  refine ⟨fun i m σ H => m = ds.length - i ∧ Wc i σ H, ⟨ds.length, by simp, Nat.zero_le _, F1, ad1, env, st1, Step.refl _ _ _, r1, en1, hst, by rw [List.drop_zero]; exact ok1⟩, ?_⟩
  rintro i m σ2 H2 ⟨rfl, hi, F2, ad2, env2, st2, s2, r2, en2, hst2, ok2⟩
  by_cases hlt : i < ds.length
  · obtain ⟨jgo, jyld⟩ := hJ.go i F2 ad2 st2 H2 s2 r2 hst2 hlt
    refine .inr ⟨jgo, Wc (i + 1), fun σ' H' w => ⟨ds.length - (i + 1), by omega, rfl, w⟩, fun x H' hy => ?_⟩
    obtain ⟨F3, s3, r3, d, hd, x3⟩ := jyld x H' hy
    have hdrop : ds.drop i = d :: ds.drop (i + 1) := by
      rw [List.drop_eq_getElem_cons hlt]
      congr 1
      rw [List.getElem?_eq_getElem hlt] at hd
      exact Option.some.inj hd
    rw [hdrop] at ok2
    unfold loopF at ok2
    have hbd : bodyF d env2 st2 = (match bindT env2 tg d with
        | some env' => exL (run C.T C.k) body env' st2
        | Option.none => .stuck) := rfl
    rw [hbd] at ok2
    cases hb2 : bindT env2 tg d with
    | none => rw [hb2] at ok2; exact ok2.elim
    | some env3 =>
    rw [hb2] at ok2
    dsimp only at ok2
    refine tT_ok r3 x3 (en2.step s3) hb2 fun σ3 en3 _ => ?_
    have s13 := s2.trans s3
    refine ⟨F3, ad2, env3, st2, r3, en3, ?_⟩
    cases q : exL (run C.T C.k) body env3 st2 with
    | nx env4 st4 =>
      rw [q] at ok2
      dsimp only at ok2
      intro F4 ad4 H4 σ4 s4 r4 en4
      cases hf : fin trim st1.length tmp env4 st4 with
      | none => rw [hf] at ok2; exact ok2.elim
      | some p =>
      obtain ⟨env5, st5⟩ := p
      rw [hf] at ok2
      dsimp only at ok2
      by_cases hst5 : stands src ds st5 = true
      case neg =>
        rw [if_neg hst5] at ok2; exact ok2.elim
      rw [if_pos hst5] at ok2
      obtain ⟨ad5, s5, r5, en5⟩ := fin_ok hn (s13.trans s4) r4 en4 hf
      exact ⟨hlt, F4, ad5, env5, st5, s5, r5, en5, hst5, ok2⟩
    | rt d4 st4 =>
      rw [q] at ok2
      exact fun F4 ad4 H4 v s4 r4 x4 => ok2 F4 ad4 H4 v (s13.trans s4) r4 x4
    | err c env4 st4 =>
      rw [q] at ok2
      exact fun F4 ad4 H4 σ4 a s4 r4 en4 e => ok2 F4 ad4 H4 σ4 a (s13.trans s4) r4 en4 e
    | stuck => rw [q] at ok2; exact ok2.elim
  · have e : i = ds.length := by omega
    subst e
    refine .inl ⟨hJ.stop _ F2 ad2 st2 H2 s2 r2 hst2 (Nat.le_refl _), ?_⟩
    rw [List.drop_length] at ok2
    unfold loopF at ok2
    exact ok2 F2 ad2 H2 σ2 s2 r2 en2
theorem ss_while {c : E} {body : List S} {tmp : List Nat} {trim : Bool} {pc : Expr} {pb : List Stmt} {pos : Pos} (g : GoodS C N X sc ow W) (hc : Sd C X (WE W) c pc) (tc : tokB pc = true) (hb : PSs X pb (tSs C X W body)) :
    PS X (.While pc pb [] pos) (tS C X W (.while_ c body tmp trim)) := by
  refine (ps_while g.own (hc.tst tc) hb).imp fun D σ H ⟨F, ad, env, st, r, en, ok⟩ => ?_
  unfold exS at ok
  have hn : st.length = ad.length := r.len.symm
  generalize wmost = wm at ok
  refine ⟨fun m σ' H' => ∃ F' ad' env' st', Step F ad H F' ad' H' ∧ RelS X.K F' ad' st' H' ∧ EnvRel X.K F' ad' env' σ' ∧
    OkX X.K C.cls W F ad H (loopW trim st.length tmp (fun env st => (evE (run C.T C.k) c env st).bind boolR) (fun env st => exL (run C.T C.k) body env st) m env' st') D, ⟨wm, F, ad, env, st, Step.refl _ _ _, r, en, ok⟩, ?_⟩
  rintro m σ2 H2 ⟨F2, ad2, env2, st2, s2, r2, en2, ok2⟩
  cases m with
  | zero => exact ok2.elim
  | succ m =>
  unfold loopW at ok2
  refine ⟨F2, ad2, env2, st2, r2, en2, ?_⟩
  cases q : evX (run C.T C.k) c env2 st2 with
  | stuck =>
    rw [show evE (run C.T C.k) c env2 st2 = .stuck by unfold evE; rw [q]; rfl] at ok2; exact ok2.elim
  | err e st3 =>
    rw [show evE (run C.T C.k) c env2 st2 = .err e st3 by unfold evE; rw [q]; rfl] at ok2
    exact fun F3 ad3 H3 a s3 r3 ec => ok2 F3 ad3 H3 σ2 a (s2.trans s3) r3 (en2.step s3) ec
  | ok x st3 =>
  rw [show evE (run C.T C.k) c env2 st2 = .ok x.d st3 by unfold evE; rw [q]; rfl, R.bind_ok] at ok2
  intro F3 ad3 H3 v s3 r3 xr
  obtain ⟨F4, s4, r4, x4⟩ := freezeX s3 r3 xr
  generalize x.d = xd at *
  cases x4 with
  | bool b =>
   cases b with
   | true =>
    rw [show boolR (MP.D.bool true) st3 = .ok true st3 from rfl] at ok2
    dsimp only at ok2
    refine ⟨true, rfl, iteT ⟨fun σ' H' => ∃ F' ad' env' st', Step F ad H F' ad' H' ∧ RelS X.K F' ad' st' H' ∧ EnvRel X.K F' ad' env' σ' ∧
      OkX X.K C.cls W F ad H (loopW trim st.length tmp (fun env st => (evE (run C.T C.k) c env st).bind boolR) (fun env st => exL (run C.T C.k) body env st) m env' st') D, fun σ' H' w => ⟨m, by omega, w⟩, ?_⟩⟩
    refine ⟨F4, ad3, env2, st3, r4, en2.step s4, ?_⟩
    have s14 := s2.trans s4
    cases q5 : exL (run C.T C.k) body env2 st3 with
    | nx env5 st5 =>
      rw [q5] at ok2
      dsimp only at ok2
      intro F5 ad5 H5 σ5 s5 r5 en5
      cases hf : fin trim st.length tmp env5 st5 with
      | none => rw [hf] at ok2; exact ok2.elim
      | some p =>
      obtain ⟨env6, st6⟩ := p
      rw [hf] at ok2
      dsimp only at ok2
      obtain ⟨ad6, s6, r6, en6⟩ := fin_ok hn (s14.trans s5) r5 en5 hf
      exact ⟨F5, ad6, env6, st6, s6, r6, en6, ok2⟩
    | rt d5 st5 =>
      rw [q5] at ok2
      exact fun F5 ad5 H5 v s5 r5 x5 => ok2 F5 ad5 H5 v (s14.trans s5) r5 x5
    | err c env5 st5 =>
      rw [q5] at ok2
      exact fun F5 ad5 H5 σ5 a s5 r5 en5 e => ok2 F5 ad5 H5 σ5 a (s14.trans s5) r5 en5 e
    | stuck => rw [q5] at ok2; exact ok2.elim
   | false =>
    refine ⟨false, rfl, iteF ?_⟩
    exact ok2 F4 ad3 H3 σ2 (s2.trans s4) r4 (en2.step s4)
  | _ => exact ok2.elim
mutual
theorem sndS : ∀ (s : S) {p : Stmt}, GoodS C N X sc ow W → chkS C.T C.G C.cls N sc ow s p = true → PS X p (tS C X W s)
  | .set i e, _, g, h => ss_set g h
  | .unpack is e, _, g, h => ss_unpack g h
  | .par2 i j a b, _, g, h => ss_par2 g h
  | .par3 i j k a b c, _, g, h => ss_par3 g h
  | .put o i v, _, g, h => ss_put g h
  | .expr e, _, g, h => ss_expr g h
  | .ret e, _, g, h => ss_ret g h
  | .retN, _, g, h => ss_retN h
  | .ife c a b, _, g, h => by
    unfold chkS at h
    split at h
    · simp only [Bool.and_eq_true] at h
      obtain ⟨⟨⟨h1, h2⟩, h3⟩, h4⟩ := h
      exact ss_ife (sndE c h2 g.g) h1 (sndL a g h3) (sndL b g h4)
    · cases h
  | .for_ tg it body tmp trim, _, g, h => by
    unfold chkS at h
    split at h
    · simp only [Bool.and_eq_true, Bool.not_eq_true'] at h
      obtain ⟨⟨⟨h1, h2⟩, h3⟩, h4⟩ := h
      exact ss_for g (sndI it h2 g.g _ fun z => z) (pg_of g.g h1) (sndL body g h4) h3
    · cases h
  | .while_ c body tmp trim, _, g, h => by
    unfold chkS at h
    split at h
    · simp only [Bool.and_eq_true] at h
      obtain ⟨⟨h1, h2⟩, h3⟩ := h
      exact ss_while g (sndE c h2 g.g) h1 (sndL body g h3)
    · cases h
  | .raise c, _, g, h => ss_raise g h
  | .fz i, _, g, h => by
    unfold chkS at h
    cases h
theorem sndL : ∀ (ss : List S) {ps : List Stmt}, GoodS C N X sc ow W → chkL C.T C.G C.cls N sc ow ss ps = true → PSs X ps (tSs C X W ss)
  | [], ps, g, h => by
    unfold chkL at h
    split at h
    · exact ss_nil
    · cases h
  | s :: ss, ps, g, h => by
    unfold chkL at h
    by_cases hz : isFz s = true
    · rw [if_pos hz] at h
      have : ∃ i, s = .fz i := by
        cases s <;> first | exact ⟨_, rfl⟩ | cases hz
      obtain ⟨i, rfl⟩ := this
      exact ss_fz (sndL ss g h)
    rw [if_neg hz] at h
    split at h
    · simp only [Bool.and_eq_true] at h
      exact ss_cons (sndS s g h.1) (sndL ss g h.2)
    · cases h
end
end
end MP

/-! Defs; the end. -/
namespace MP
open PySem PySem.Spec PyProof.Rows L2

/-- a body, its text ahead of it left out -/
def chkB (T : Nat → Option Def) (G : Str → Option D) (cls : Str → Option Addr) (N : List Str) (sc : Scope) (ss : List S) : List Stmt → Bool
  | .Expr (.Constant (.str _) _ _) _ :: ps => chkL T G cls N sc (fun _ => true) ss ps
  | ps => chkL T G cls N sc (fun _ => true) ss ps
structure DefP (T : Nat → Option Def) (G : Str → Option D) (exc : List Str) (d : Def) (e : He.DefD) : Prop where
  at_ : e.at_ = (d.name, none)
  dfl : e.dfl = []
  kwd : e.kwd = []
  sc : FnScope d.locs d.pars e.scope
  chk : ∀ cls : Str → Option Addr, (∀ c ∈ exc, (cls c).isSome = true) → chkB T G cls d.locs e.scope d.body e.body = true
  bind : ∀ (kV doc pm : Value) (an : Option Addr) (cdv ct : Value) (us : List Value), us.length = d.pars.length → bindArgs (PySem.W.fnOf e.name e.qual e.params e.body e.scope .none kV doc pm an cdv ct) ⟨us, []⟩ = pure (d.pars.zip us)
/-- the check without the classes' addresses -/
theorem chkB_cls {T : Nat → Option Def} {G : Str → Option D} {N : List Str} {sc : Scope} {ss : List S} {ps : List Stmt} {exc : List Str} (h : chkB T G (fun c => if exc.contains c then some 0 else none) N sc ss ps = true) :
    ∀ cls : Str → Option Addr, (∀ c ∈ exc, (cls c).isSome = true) → chkB T G cls N sc ss ps = true := fun cls hc => by
  unfold chkB at h ⊢
  split at h <;> exact go hc _ h
where
  goS {cls : Str → Option Addr} {ow : Str → Bool} (hc : ∀ c ∈ exc, (cls c).isSome = true) : ∀ (s : S) {p : Stmt}, chkS T G (fun c => if exc.contains c then some 0 else none) N sc ow s p = true → chkS T G cls N sc ow s p = true
    | .set i e, _, h => by unfold chkS at h ⊢; exact h
    | .unpack is e, _, h => by unfold chkS at h ⊢; exact h
    | .par2 i j a b, _, h => by unfold chkS at h ⊢; exact h
    | .par3 i j k a b c, _, h => by unfold chkS at h ⊢; exact h
    | .put o i v, _, h => by unfold chkS at h ⊢; exact h
    | .expr e, _, h => by unfold chkS at h ⊢; exact h
    | .ret e, _, h => by unfold chkS at h ⊢; exact h
    | .retN, _, h => by unfold chkS at h ⊢; exact h
    | .ife c a b, _, h => by
      unfold chkS at h ⊢
      split at h
      · simp only [Bool.and_eq_true] at h ⊢
        obtain ⟨⟨⟨h1, h2⟩, h3⟩, h4⟩ := h
        exact ⟨⟨⟨h1, h2⟩, go hc a h3⟩, go hc b h4⟩
      · cases h
    | .for_ tg it body tmp trim, _, h => by
      unfold chkS at h ⊢
      split at h
      · simp only [Bool.and_eq_true] at h ⊢
        obtain ⟨⟨⟨h1, h2⟩, h3⟩, h4⟩ := h
        exact ⟨⟨⟨h1, h2⟩, h3⟩, go hc body h4⟩
      · cases h
    | .while_ c body tmp trim, _, h => by
      unfold chkS at h ⊢
      split at h
      · simp only [Bool.and_eq_true] at h ⊢
        obtain ⟨⟨h1, h2⟩, h3⟩ := h
        exact ⟨⟨h1, h2⟩, go hc body h3⟩
      · cases h
    | .fz _, _, h => by unfold chkS at h; cases h
    | .raise c, _, h => by
      unfold chkS at h ⊢
      split at h
      · simp only [Bool.and_eq_true, beq_iff_eq] at h ⊢
        obtain ⟨⟨⟨h1, h2⟩, h3⟩, h4⟩ := h
        refine ⟨⟨⟨h1, hc c ?_⟩, h3⟩, h4⟩
        by_cases q : exc.contains c = true
        · simpa using q
        · rw [if_neg q] at h2; cases h2
      · cases h
  go {cls : Str → Option Addr} {ow : Str → Bool} (hc : ∀ c ∈ exc, (cls c).isSome = true) : ∀ (ss : List S) {ps : List Stmt}, chkL T G (fun c => if exc.contains c then some 0 else none) N sc ow ss ps = true → chkL T G cls N sc ow ss ps = true
    | [], ps, h => by unfold chkL at h ⊢; exact h
    | s :: ss, ps, h => by
      unfold chkL at h ⊢
      by_cases hz : isFz s = true
      · rw [if_pos hz] at h ⊢
        exact go hc ss h
      rw [if_neg hz] at h ⊢
      split at h
      · simp only [Bool.and_eq_true] at h ⊢
        exact ⟨goS hc s h.1, go hc ss h.2⟩
      · cases h
section
variable {P : Program} {w : World} {K : PySem.W.Frag} {mg : Str → Option Value} {base : Heap} {T : Nat → Option Def} {G : Str → Option D} {cls : Str → Option Addr}
theorem sndB {C : Con} {N : List Str} {X : Cx} {sc : Scope} {W : WX} {ss : List S} {ps : List Stmt} (g : GoodS C N X sc (fun _ => true) W) (h : chkB C.T C.G C.cls N sc ss ps = true) : PSs X ps (tSs C X W ss) := by
  unfold chkB at h
  split at h
  · exact (pss_cons ps_doc (sndL ss g h)).imp fun D σ H q => q
  · exact sndL ss g h
theorem run_len {k f : Nat} {d : Def} {ds : List D} {st : Sto} (hT : T f = some d) (h : run T k f ds st ≠ .stuck) : ds.length = d.pars.length := by
  cases k with
  | zero => exact absurd rfl h
  | succ k =>
    unfold run at h
    rw [hT] at h
    dsimp only at h
    unfold runD at h
    by_cases q : ds.length = d.pars.length
    · exact q
    · rw [if_neg q] at h; exact absurd rfl h
theorem sp_len {C : Con} {k f : Nat} {d : Def} (hT : C.T f = some d) : ∀ vs H Q E, spF C K k f vs H Q E → vs.length = d.pars.length := fun vs H Q E ⟨F, ad, st, ds, r, rs, ok⟩ => by
  rw [rs.length]
  refine run_len (T := C.T) (k := k) (f := f) (st := st) hT fun e => ?_
  rw [e] at ok
  exact ok
theorem start_env {F : Hp} {ad : List Addr} {vs : List V} {ds : List D} {N : List Str} (h : Reps K F ad vs ds) : EnvRel K F ad (ds.map some ++ List.replicate (N.length - ds.length) Option.none) (L2.start N vs) := by
  have hl := h.length
  refine ⟨by simp [L2.start, hl], fun i d e => ?_⟩
  by_cases hi : i < ds.length
  · rw [List.getElem?_append_left (by simpa using hi), List.getElem?_map] at e
    cases q : ds[i]? with
    | none => rw [q] at e; cases e
    | some d' =>
      rw [q] at e
      cases e
      obtain ⟨v, h1, h2⟩ := h.get q
      refine ⟨v, ?_, h2⟩
      unfold L2.start
      rw [List.getElem?_append_left (by simp [hl, hi]), List.getElem?_map, h1]; rfl
  · rw [List.getElem?_append_right (by simpa using hi), List.getElem?_replicate] at e
    split at e <;> cases e
/-- what the head tells -/
structure Told (K : PySem.W.Frag) (w : World) (mg : Str → Option Value) (T : Nat → Option Def) (G : Str → Option D) (exc : List Str) (cls : Str → Option Addr) : Prop where
  defs : ∀ f d, T f = some d → ∃ e a fd, DefP T G exc d e ∧ FunD K e.name e.qual e.params e.body e.scope (e.dvs K) (e.kws K) a fd ∧ mg d.name = some (.ref a)
  glo : ∀ x d, G x = some d → d.isDk = false → ∃ u v, mg x = some u ∧ RelV v u ∧ ∀ F ad, Rep K F ad v d
  tab : ∀ x ks vs, G x = some (.dk (ks.map Sum.inr) (vs.map D.int)) → ∃ a, mg x = some (.ref a) ∧ TabK K w a ks vs
  blt : ∀ x, x ∈ bnames → mg x = none
  exo : ∀ c a, cls c = some a → ExcOk K mg c a
  all : ∀ c ∈ exc, (cls c).isSome = true
theorem fns_all {exc : List Str} (t : Told K w mg T G exc cls) : ∀ (k f : Nat) (d : Def), T f = some d → ∃ a fd, (∀ (P : Program) (base : Heap), FnOk P w K mg base (L2.CX P w) k a fd d.pars (spF ⟨T, cls, G, k⟩ K k f)) ∧ mg d.name = some (.ref a) ∧ PySem.W.keepIn K (.ref a) = true ∧ Binds K fd d.pars [] ∧ ∀ (s : Shared) (us : List Value), us.length = d.pars.length → BindsTo s fd ⟨us, []⟩ (d.pars.zip us)
  | 0, f, d, hT => by
    obtain ⟨e, a, fd, dp, F, hm⟩ := t.defs f d hT
    have e1 : e.dvs K = [] := by unfold He.DefD.dvs; rw [dp.dfl]; rfl
    rw [e1] at F
    refine ⟨a, fd, fun _ _ => ⟨sp_len hT, fun A outer s H args us vs Q E _ _ _ _ ⟨_, _, _, _, _, _, ok⟩ => ok.elim⟩, hm, F.kp, F.bindsN dp.bind, F.bindsA dp.bind⟩
  | k + 1, f, d, hT => by
    obtain ⟨e, a, fd, dp, F, hm⟩ := t.defs f d hT
    have e1 : e.dvs K = [] := by unfold He.DefD.dvs; rw [dp.dfl]; rfl
    rw [e1] at F
    have ih := fns_all t k
    refine ⟨a, fd, fun P base => F.ok dp.sc (sp_len hT) (fun cdv A outer s H vs Q E hr hsp => ?_), hm, F.kp, F.bindsN dp.bind, F.bindsA dp.bind⟩
    have g : GoodS ⟨T, cls, G, k⟩ d.locs (cxOf (L2.CX P w) P w K mg base d.locs e.qual e.scope a cdv A outer s H E) e.scope (fun _ => true) (fun c dd _ H => E c dd H) := by
      have tk : Takes (cxOf (L2.CX P w) P w K mg base d.locs e.qual e.scope a cdv A outer s H E) (fun c dd _ H => E c dd H) := takes_of rfl rfl rfl rfl
      exact ⟨⟨rfl, dp.sc.nd, rfl, rfl, hr, fun σ => passAt tk σ, fun x h => h, ⟨fun f d h => let ⟨a, fd, h1, h2, h3, h4, _⟩ := ih f d h; ⟨a, fd, h1 _ _, h2, h3, h4⟩, t.glo, t.tab, t.blt⟩⟩, passes_of rfl, tk, t.exo, dp.sc.kind⟩
    refine ⟨_, sndB g (dp.chk cls t.all), ?_⟩
    obtain ⟨F, ad, st, ds, r, rs, ok⟩ := hsp
    have hl : ds.length = d.pars.length := run_len (T := T) (k := k + 1) (f := f) (st := st) hT fun q => by
      dsimp only at ok
      rw [q] at ok; exact ok
    refine ⟨F, ad, ds.map some ++ List.replicate (d.locs.length - ds.length) Option.none, st, r, start_env rs, ?_⟩
    dsimp only at ok ⊢
    unfold run at ok
    rw [hT] at ok
    dsimp only at ok
    unfold runD at ok
    rw [if_pos hl] at ok
    cases q : exL (run T k) d.body (ds.map some ++ List.replicate (d.locs.length - ds.length) Option.none) st with
    | nx env st' =>
      rw [q] at ok
      exact fun F' ad' H' σ' s' r' _ => ok F' ad' H' .non s' r' .none
    | rt x st' => rw [q] at ok; exact ok
    | err c env st' =>
      rw [q] at ok
      exact fun F' ad' H' σ' a s' r' _ e => ok F' ad' H' a s' r' e
    | stuck => rw [q] at ok; exact ok.elim
/-- a call's exception, whatever the world -/
def CXa (P : Program) : CXT := fun o H s E u s' => ∃ w, L2.CX P w o H s E u s'
theorem FnOk_any {k : Nat} {f : Addr} {fd : FuncData} {ps : List Str} {sp : Sp} (F : FnOk P w K mg base (L2.CX P w) k f fd ps sp) : FnOk P w K mg base (CXa P) k f fd ps sp :=
  ⟨F.len, fun A outer s H args us vs Q E hr he hb hv hs => codeAny_mono (F.run A outer s H args us vs Q E hr he hb hv hs) fun r s' h => by
    cases r with
    | error e => exact ⟨w, h⟩
    | ok fl => cases fl <;> exact h⟩
theorem cxa_no {H : Hp} {s : Shared} {e : Value} {s' : Shared} (h : CXa P [] H s (fun _ _ _ => False) e s') : False := by
  obtain ⟨w, _, _, _, _, _, _, _, _, _, _, _, _, z⟩ := h
  exact z
/-- the law: what it computes is True -/
theorem law_sp {C : Con} {k f : Nat} {n : Nat} (h : ∀ ns : List Int, ns.length ≤ n → ∃ st, run C.T k f [.scr ns] [] = .ok (.bool true) st) (H : Hp) (a : Addr) (ns : List Int) (hn : ns.length ≤ n) (hS : SqL K H a (ns.map V.int)) :
    spF C K k f [.ref a] H (fun v _ => v = .bl true) fun _ _ _ => False := by
  obtain ⟨st, e⟩ := h ns hn
  refine ⟨H, [], [], [.scr ns], start_rel fun _ _ h => h, .cons (.scr hS) .nil, ?_⟩
  rw [e]
  intro F' ad' H' v s r x
  cases x
  rfl
end
end MP

/-! What the terms compute: loops over lists. -/
namespace MP
open PySem PySem.Spec PyProof.Rows L2

/-- a body's end -/
def endR (r : MP.X) : R D := match r with
  | .nx _ st => .ok .none st
  | .rt x st => .ok x st
  | .err c _ st => .err c st
  | .stuck => .stuck
@[simp] theorem endR_nx (env : MP.Env) (st : Sto) : endR (.nx env st) = .ok .none st := rfl
@[simp] theorem endR_rt (d : D) (st : Sto) : endR (.rt d st) = .ok d st := rfl
@[simp] theorem endR_err (c : Str) (env : MP.Env) (st : Sto) : endR (.err c env st) = .err c st := rfl
theorem run_at {T : Nat → Option Def} {k f : Nat} {d : Def} {args : List D} {st : Sto} (h : T f = some d) (hl : args.length = d.pars.length) :
    run T (k + 1) f args st = endR (exL (run T k) d.body (args.map some ++ List.replicate (d.locs.length - args.length) Option.none) st) := by
  show (match T f with
    | some d => runD (run T k) d args st
    | Option.none => .stuck) = _
  rw [h]
  dsimp only
  unfold runD
  rw [if_pos hl]
  rfl
theorem atI_pos {α : Type} {xs : List α} {i : Int} (h : 0 ≤ i) (h2 : i < xs.length) : atI xs i = xs[i.toNat]? := by
  unfold atI ixN
  rw [if_pos h, if_pos h2]; rfl
theorem atI_neg {α : Type} {xs : List α} {i : Int} (h : i < 0) (h2 : -(xs.length : Int) ≤ i) : atI xs i = xs[(i + xs.length).toNat]? := by
  unfold atI ixN
  rw [if_neg (by omega), if_pos h2]; rfl
/-! ### one step of each form -/
section
variable {cf : CF} {env : MP.Env} {st : Sto}
@[simp] theorem evX_var (i : Nat) : evX cf (.var i) env st = (match env[i]? with
    | some (some d) => .ok (.v d) st
    | _ => .stuck) := by unfold evX <;> rfl
@[simp] theorem evX_lit (d : D) : evX cf (.lit d) env st = .ok (.v d) st := by unfold evX <;> rfl
@[simp] theorem evX_glob (x : Str) (d : D) : evX cf (.glob x d) env st = .ok (.v d) st := by unfold evX <;> rfl
@[simp] theorem evX_bin (o : BOp) (a b : E) : evX cf (.bin o a b) env st = (evX cf a env st).bind fun x st => (evX cf b env st).bind fun y st => binV o x.d y.d st := by rw [evX]
/-- a comparison's end -/
def cmpR (o : COp) (x y : D) (st : Sto) : R Val := match cmpV o st x y with
  | some c => .ok (.v (.bool c)) st
  | Option.none => .stuck
@[simp] theorem evX_cmp (o : COp) (a b : E) : evX cf (.cmp o a b) env st = (evX cf a env st).bind fun x st => (evX cf b env st).bind fun y st => cmpR o x.d y.d st := by rw [evX] <;> rfl
def chainR (c : Option Bool) (r : Sto → R Val) (st : Sto) : R Val := match c with
  | some true => r st
  | some false => .ok (.v (.bool false)) st
  | Option.none => .stuck
@[simp] theorem chainR_b (b : Bool) (r : Sto → R Val) : chainR (some b) r st = if b = true then r st else .ok (.v (.bool false)) st := by cases b <;> rfl
@[simp] theorem evX_chain (o p : COp) (a b c : E) : evX cf (.chain o p a b c) env st = (evX cf a env st).bind fun x st => (evX cf b env st).bind fun y st => chainR (cmpV o st x.d y.d) (fun st => (evX cf c env st).bind fun z st => cmpR p y.d z.d st) st := by rw [evX] <;> rfl
def landR (x : Val) (r : Sto → R Val) (st : Sto) : R Val := match x with
  | .v (.bool true) => r st
  | .v (.bool false) => .ok (.v (.bool false)) st
  | _ => .stuck
def lorR (x : Val) (r : Sto → R Val) (st : Sto) : R Val := match x with
  | .v (.bool false) => r st
  | .v (.bool true) => .ok (.v (.bool true)) st
  | _ => .stuck
def notR (x : Val) (st : Sto) : R Val := match x with
  | .v (.bool c) => .ok (.v (.bool (!c))) st
  | _ => .stuck
def iteR (x : Val) (r s : Sto → R Val) (st : Sto) : R Val := match x with
  | .v (.bool true) => r st
  | .v (.bool false) => s st
  | _ => .stuck
@[simp] theorem landR_b (b : Bool) (r : Sto → R Val) : landR (.v (.bool b)) r st = if b = true then r st else .ok (.v (.bool false)) st := by cases b <;> rfl
@[simp] theorem lorR_b (b : Bool) (r : Sto → R Val) : lorR (.v (.bool b)) r st = if b = true then .ok (.v (.bool true)) st else r st := by cases b <;> rfl
@[simp] theorem notR_b (b : Bool) : notR (.v (.bool b)) st = .ok (.v (.bool (!b))) st := rfl
@[simp] theorem iteR_b (b : Bool) (r s : Sto → R Val) : iteR (.v (.bool b)) r s st = if b = true then r st else s st := by cases b <;> rfl
@[simp] theorem evX_land (a b : E) : evX cf (.land a b) env st = (evX cf a env st).bind fun x st => landR x (fun st => evX cf b env st) st := by rw [evX] <;> rfl
@[simp] theorem evX_lor (a b : E) : evX cf (.lor a b) env st = (evX cf a env st).bind fun x st => lorR x (fun st => evX cf b env st) st := by rw [evX] <;> rfl
@[simp] theorem evX_lnot (a : E) : evX cf (.lnot a) env st = (evX cf a env st).bind fun x st => notR x st := by rw [evX] <;> rfl
@[simp] theorem evX_ite (c a b : E) : evX cf (.ite c a b) env st = (evX cf c env st).bind fun x st => iteR x (fun st => evX cf a env st) (fun st => evX cf b env st) st := by rw [evX] <;> rfl
@[simp] theorem evX_tup (es : Es) : evX cf (.tup es) env st = (evXs cf es env st).bind fun ds st => if ds.length ≤ sizeLine then .ok (.v (.tup ds)) st else .stuck := by rw [evX]
@[simp] theorem evX_list (es : Es) : evX cf (.list es) env st = (evXs cf es env st).bind fun ds st => if ds.length ≤ sizeLine then .ok (.new ds) st else .stuck := by rw [evX]
def ixR (x y : D) (st : Sto) : R Val := match ixV st x y with
  | some d => .ok (.v d) st
  | Option.none => .stuck
@[simp] theorem evX_ix (a b : E) : evX cf (.ix a b) env st = (evX cf a env st).bind fun x st => (evX cf b env st).bind fun y st => ixR x.d y.d st := by rw [evX] <;> rfl
@[simp] theorem evX_sl (a lo hi : E) : evX cf (.sl a lo hi) env st = (evX cf a env st).bind fun x st => (evX cf lo env st).bind fun l st => (match partOf lo l.d with
    | some l => (evX cf hi env st).bind fun u st => (match partOf hi u.d with
      | some u => slV x.d l u st
      | Option.none => .stuck)
    | Option.none => .stuck) := by rw [evX] <;> rfl
@[simp] theorem evX_call (f : Nat) (es : Es) : evX cf (.call f es) env st = (evXs cf es env st).bind fun ds st => callP cf f ds st := by rw [evX]
@[simp] theorem evX_callC (f : Nat) (es : Es) : evX cf (.callC f es) env st = (evXs cf es env st).bind fun ds st => callC cf f ds st := by rw [evX]
@[simp] theorem evX_callS (f : Nat) (es : Es) : evX cf (.callS f es) env st = (evXs cf es env st).bind fun ds st => callS cf f ds st := by rw [evX]
@[simp] theorem evX_bi (f : BI) (es : Es) : evX cf (.bi f es) env st = (evXs cf es env st).bind fun ds st => biV f ds st := by rw [evX]
@[simp] theorem evX_mt (m : MT) (o : E) (es : Es) : evX cf (.mt m o es) env st = (evX cf o env st).bind fun x st => if mtIs m x.d st then (evXs cf es env st).bind fun ds st => mtV m x.d ds st else .stuck := by rw [evX]
/-- a turn of a comprehension -/
def turnC (cf : CF) (elt : E) (tg : Tg) (cond : E) (env : MP.Env) (d : D) (st : Sto) : R (Option D) := match bindT env tg d with
  | some env' => (evX cf cond env' st).bind fun c st => (match c with
    | .v (.bool true) => (evX cf elt env' st).bind fun y st => .ok (some y.d) st
    | .v (.bool false) => .ok Option.none st
    | _ => .stuck)
  | Option.none => .stuck
def compR (ok : Sto → Bool) (f : D → Sto → R (Option D)) (ds : List D) (st : Sto) : R Val := if !ok st then .stuck else match loopC ok f ds st with
  | .ok ys st => if ys.length ≤ sizeLine then .ok (.new ys) st else .stuck
  | _ => .stuck
@[simp] theorem evX_comp (elt : E) (tg : Tg) (it : It) (cond : E) (own : List Nat) : evX cf (.comp elt tg it cond own) env st = (evI cf it env st).bind fun p st => compR (stands p.1 p.2) (turnC cf elt tg cond (wipeE env own)) p.2 st := by rw [evX] <;> rfl
def cellR (x : Val) (st : Sto) : R Val := match x with
  | .new ds => .ok (.v (.ref st.length)) (st ++ [.lst ds])
  | _ => .stuck
@[simp] theorem cellR_new (ds : List D) : cellR (.new ds) st = .ok (.v (.ref st.length)) (st ++ [.lst ds]) := rfl
@[simp] theorem evX_cell (e : E) : evX cf (.cell e) env st = (evX cf e env st).bind fun x st => cellR x st := by rw [evX] <;> rfl
@[simp] theorem evXs_nil : evXs cf .nil env st = .ok [] st := by unfold evXs <;> rfl
@[simp] theorem evXs_cons (e : E) (es : Es) : evXs cf (.cons e es) env st = (evX cf e env st).bind fun x st => (evXs cf es env st).bind fun xs st => .ok (x.d :: xs) st := by rw [evXs]
def itR (d : D) (st : Sto) : R (D × List D) := match items st d with
  | some ds => .ok (d, ds) st
  | Option.none => .stuck
@[simp] theorem evI_seq (e : E) : evI cf (.seq e) env st = (evX cf e env st).bind fun x st => itR x.d st := by rw [evI] <;> rfl
@[simp] theorem evI_range1 (a : E) : evI cf (.range1 a) env st = (evX cf a env st).bind fun x st => (match x with
    | .v (.int n) => if n ≤ sizeLine ∧ -(2 ^ 62) ≤ n then .ok (.none, (rangeI 0 n.toNat).map D.int) st else .stuck
    | _ => .stuck) := by rw [evI] <;> rfl
@[simp] theorem evI_range2 (a b : E) : evI cf (.range2 a b) env st = (evX cf a env st).bind fun x st => (evX cf b env st).bind fun y st => (match x, y with
    | .v (.int i), .v (.int j) => if j - i ≤ sizeLine ∧ -(2 ^ 62) ≤ i ∧ i < 2 ^ 62 ∧ -(2 ^ 62) ≤ j ∧ j < 2 ^ 62 then .ok (.none, (rangeI i (j - i).toNat).map D.int) st else .stuck
    | _, _ => .stuck) := by rw [evI] <;> rfl
@[simp] theorem evE_eq (e : E) : evE cf e env st = (evX cf e env st).bind fun x st => .ok x.d st := rfl
/-! statements -/
@[simp] theorem exS_set (i : Nat) (e : E) : exS cf (.set i e) env st = (evE cf e env st).toX env fun d st => .nx (env.set i (some d)) st := by rw [exS]
def unR (is : List Nat) (env : MP.Env) (d : D) (st : Sto) : MP.X := match bindT env (.many is) d with
  | some env' => .nx env' st
  | Option.none => .stuck
@[simp] theorem exS_unpack (is : List Nat) (e : E) : exS cf (.unpack is e) env st = (evE cf e env st).toX env fun d st => unR is env d st := by rw [exS] <;> rfl
@[simp] theorem exS_par2 (i j : Nat) (a b : E) : exS cf (.par2 i j a b) env st = (evE cf a env st).toX env fun x st => (evE cf b env st).toX env fun y st => .nx ((env.set i (some x)).set j (some y)) st := by rw [exS]
@[simp] theorem exS_par3 (i j k : Nat) (a b c : E) : exS cf (.par3 i j k a b c) env st = (evE cf a env st).toX env fun x st => (evE cf b env st).toX env fun y st => (evE cf c env st).toX env fun z st => .nx (((env.set i (some x)).set j (some y)).set k (some z)) st := by rw [exS]
def putR (env : MP.Env) (x y z : D) (st : Sto) : MP.X := match putV x y z st with
  | some st' => .nx env st'
  | Option.none => .stuck
@[simp] theorem exS_put (o i v : E) : exS cf (.put o i v) env st = (evE cf v env st).toX env fun z st => (evE cf o env st).toX env fun x st => (evE cf i env st).toX env fun y st => putR env x y z st := by rw [exS] <;> rfl
@[simp] theorem exS_expr (e : E) : exS cf (.expr e) env st = (evE cf e env st).toX env fun _ st => .nx env st := by rw [exS]
@[simp] theorem exS_ret (e : E) : exS cf (.ret e) env st = (evE cf e env st).toX env fun d st => .rt d st := by rw [exS]
@[simp] theorem exS_retN : exS cf .retN env st = .rt .none st := by unfold exS <;> rfl
@[simp] theorem exS_raise (c : Str) : exS cf (.raise c) env st = .err c env st := by unfold exS <;> rfl
def ifR (d : D) (a b : Sto → MP.X) (st : Sto) : MP.X := match d with
  | .bool true => a st
  | .bool false => b st
  | _ => .stuck
@[simp] theorem ifR_b (c : Bool) (a b : Sto → MP.X) : ifR (.bool c) a b st = if c = true then a st else b st := by cases c <;> rfl
@[simp] theorem exS_ife (c : E) (a b : List S) : exS cf (.ife c a b) env st = (evE cf c env st).toX env fun d st => ifR d (fun st => exL cf a env st) (fun st => exL cf b env st) st := by rw [exS] <;> rfl
/-- a turn of a loop -/
noncomputable def turnF (cf : CF) (tg : Tg) (body : List S) (d : D) (env : MP.Env) (st : Sto) : MP.X := match bindT env tg d with
  | some env' => exL cf body env' st
  | Option.none => .stuck
def forR (ok : Sto → Bool) (trim : Bool) (n : Nat) (tmp : List Nat) (body : D → MP.Env → Sto → MP.X) (ds : List D) (env : MP.Env) (st : Sto) : MP.X := if !ok st then .stuck else loopF ok trim n tmp body ds env st
@[simp] theorem exS_for (tg : Tg) (it : It) (body : List S) (tmp : List Nat) (trim : Bool) : exS cf (.for_ tg it body tmp trim) env st = (evI cf it env st).toX env fun p st => forR (stands p.1 p.2) trim st.length tmp (turnF cf tg body) p.2 env st := by rw [exS] <;> rfl
def sqX (r : MP.X) (f : MP.Env → Sto → MP.X) : MP.X := match r with
  | .nx env st => f env st
  | x => x
@[simp] theorem sqX_nx (f : MP.Env → Sto → MP.X) : sqX (.nx env st) f = f env st := rfl
@[simp] theorem sqX_rt (d : D) (f : MP.Env → Sto → MP.X) : sqX (.rt d st) f = .rt d st := rfl
@[simp] theorem sqX_err (c : Str) (f : MP.Env → Sto → MP.X) : sqX (.err c env st) f = .err c env st := rfl
@[simp] theorem exL_nil : exL cf [] env st = .nx env st := by unfold exL <;> rfl
@[simp] theorem exL_cons (s : S) (ss : List S) : exL cf (s :: ss) env st = sqX (exS cf s env st) fun env st => exL cf ss env st := by
  rw [exL]
  unfold sqX
  rfl
end
/-! ### operations on known values -/
section
variable {st : Sto}
@[simp] theorem add_ii (i j : Int) : binV .add (.int i) (.int j) st = .ok (.v (.int (i + j))) st := rfl
@[simp] theorem sub_ii (i j : Int) : binV .sub (.int i) (.int j) st = .ok (.v (.int (i - j))) st := rfl
@[simp] theorem mul_ii (i j : Int) : binV .mul (.int i) (.int j) st = if L2.CMul i j then .ok (.v (.int (i * j))) st else .stuck := rfl
@[simp] theorem fdiv_ii (i j : Int) : binV .fdiv (.int i) (.int j) st = if L2.CDivN i j then .ok (.v (.int (i.fdiv j))) st else .stuck := rfl
@[simp] theorem mod_ii (i j : Int) : binV .mod (.int i) (.int j) st = if j ≠ 0 then .ok (.v (.int (i.fmod j))) st else .stuck := rfl
@[simp] theorem pow_ii (i j : Int) : binV .pow (.int i) (.int j) st = if L2.CPow i j then .ok (.v (.int (i ^ j.toNat))) st else .stuck := rfl
@[simp] theorem lt_ii (i j : Int) : cmpV .lt st (.int i) (.int j) = some (decide (i < j)) := rfl
@[simp] theorem le_ii (i j : Int) : cmpV .le st (.int i) (.int j) = some (decide (i ≤ j)) := rfl
@[simp] theorem gt_ii (i j : Int) : cmpV .gt st (.int i) (.int j) = some (decide (j < i)) := rfl
@[simp] theorem ge_ii (i j : Int) : cmpV .ge st (.int i) (.int j) = some (decide (j ≤ i)) := rfl
@[simp] theorem ge_ss (i j : Str) : cmpV .ge st (.str i) (.str j) = some (!decide (i.cps.toList < j.cps.toList)) := rfl
@[simp] theorem lt_ss (i j : Str) : cmpV .lt st (.str i) (.str j) = some (decide (i.cps.toList < j.cps.toList)) := rfl
@[simp] theorem in_ss (i j : Str) : cmpV .isin st (.str i) (.str j) = some (strIn i j) := rfl
@[simp] theorem frz_int (i : Int) : frz st (.int i) = some (.int i) := rfl
@[simp] theorem frz_str (i : Str) : frz st (.str i) = some (.str i) := rfl
@[simp] theorem frz_bool (i : Bool) : frz st (.bool i) = some (.bool i) := rfl
@[simp] theorem frz_none : frz st .none = some .none := rfl
theorem frz_of {d : D} (h : d.noref = true) : frz st d = some d := D.noref_map h
theorem frzs_of {ds : List D} (h : norefs ds = true) : frzs st ds = some ds := norefs_map h
@[simp] theorem shp_int (i : Int) : (D.int i).shp = true := rfl
theorem shp_str (i : Str) (h : i.cps.all (· < 0x110000) = true) : (D.str i).shp = true := by
  show (PyData.canLay0 (.str i) && decide (PyData.depth (.str i) ≤ 64)) = true
  simp only [PyData.canLay0, PyData.depth]
  simpa [PyData.strOk] using h
@[simp] theorem shp_bool (i : Bool) : (D.bool i).shp = true := rfl
@[simp] theorem shp_none : D.none.shp = true := rfl
@[simp] theorem eq_ii (i j : Int) : eqD (.int i) (.int j) = decide (i = j) := by
  show PyData.eqv (.int i) (.int j) = _
  simp only [PyData.eqv]
  rfl
end
theorem loopC_map {α : Type} {ok : Sto → Bool} {f : D → Sto → R (Option D)} {enc : α → D} {r : α → Option D} {st : Sto} (hok : ok st = true) : ∀ {xs : List α}, (∀ x ∈ xs, f (enc x) st = .ok (r x) st) → loopC ok f (xs.map enc) st = .ok (xs.filterMap r) st
  | [], _ => rfl
  | x :: xs, h => by
    rw [List.map_cons]
    unfold loopC
    rw [h x List.mem_cons_self]
    dsimp only
    rw [if_pos hok, loopC_map hok fun y hy => h y (List.mem_cons_of_mem _ hy)]
    cases e : r x with
    | none => simp [e]
    | some y => simp [e]
/-- a loop that may end by a return; else all is as it was -/
theorem loopF_find {α : Type} {ok : Sto → Bool} {trim : Bool} {n : Nat} {tmp : List Nat} {body : D → MP.Env → Sto → MP.X} {enc : α → D} {env : MP.Env} {st : Sto} {r : α → Option D} (hok : ok st = true) :
    ∀ {xs : List α}, (∀ x ∈ xs, match r x with
      | some d => body (enc x) env st = .rt d st
      | Option.none => ∃ env', body (enc x) env st = .nx env' st ∧ fin trim n tmp env' st = some (env, st)) →
    loopF ok trim n tmp body (xs.map enc) env st = (match xs.findSome? r with
      | some d => .rt d st
      | Option.none => .nx env st)
  | [], _ => rfl
  | x :: xs, h => by
    rw [List.map_cons]
    unfold loopF
    have h1 := h x List.mem_cons_self
    rw [List.findSome?_cons]
    cases e : r x with
    | some d =>
      rw [e] at h1
      dsimp only at h1
      rw [h1]
    | none =>
      rw [e] at h1
      obtain ⟨env', h1, h2⟩ := h1
      rw [h1]
      dsimp only
      rw [h2]
      dsimp only
      rw [if_pos hok]
      exact loopF_find hok fun y hy => h y (List.mem_cons_of_mem _ hy)
/-- .. by the same value each time -/
theorem loopF_all {α : Type} {ok : Sto → Bool} {trim : Bool} {n : Nat} {tmp : List Nat} {body : D → MP.Env → Sto → MP.X} {enc : α → D} {env : MP.Env} {st : Sto} (p : α → Bool) (d : D) (hok : ok st = true) :
    ∀ {xs : List α}, (∀ x ∈ xs, (p x = false → body (enc x) env st = .rt d st) ∧ (p x = true → ∃ env', body (enc x) env st = .nx env' st ∧ fin trim n tmp env' st = some (env, st))) →
    loopF ok trim n tmp body (xs.map enc) env st = if xs.all p = true then .nx env st else .rt d st
  | [], _ => rfl
  | x :: xs, h => by
    rw [List.map_cons]
    unfold loopF
    obtain ⟨h1, h2⟩ := h x List.mem_cons_self
    rw [List.all_cons]
    cases e : p x with
    | false => rw [h1 e]; rfl
    | true =>
      obtain ⟨env', h3, h4⟩ := h2 e
      rw [h3]
      dsimp only
      rw [h4]
      dsimp only
      rw [if_pos hok, Bool.true_and]
      exact loopF_all p d hok fun y hy => h y (List.mem_cons_of_mem _ hy)
/-- a loop with a state that is some state each time -/
theorem loopF_ex {α β : Type} {ok : Sto → Bool} {trim : Bool} {n : Nat} {tmp : List Nat} {body : D → MP.Env → Sto → MP.X} {enc : α → D} (I : Nat → β → Prop) (envOf : β → MP.Env) (stOf : β → Sto) (hok : ∀ s, ok (stOf s) = true) :
    ∀ {xs : List α} {j : Nat} {s : β}, I j s → (∀ i x s, xs[i]? = some x → I (j + i) s → ∃ s' env' st', I (j + i + 1) s' ∧ body (enc x) (envOf s) (stOf s) = .nx env' st' ∧ fin trim n tmp env' st' = some (envOf s', stOf s')) →
    ∃ s', loopF ok trim n tmp body (xs.map enc) (envOf s) (stOf s) = .nx (envOf s') (stOf s') ∧ I (j + xs.length) s'
  | [], j, s, i, _ => ⟨s, rfl, i⟩
  | x :: xs, j, s, i, h => by
    obtain ⟨s', env', st', i', h1, h2⟩ := h 0 x s rfl i
    obtain ⟨s2, e2, i2⟩ := loopF_ex I envOf stOf hok (xs := xs) (j := j + 1) (s := s') i' fun i y s hy hi => by
      obtain ⟨s', env', st', a, b, c⟩ := h (i + 1) y s (by simpa using hy) (by rw [show j + (i + 1) = j + 1 + i by omega]; exact hi)
      exact ⟨s', env', st', by rw [show j + 1 + i + 1 = j + (i + 1) + 1 by omega]; exact a, b, c⟩
    refine ⟨s2, ?_, by rw [List.length_cons, show j + (xs.length + 1) = j + 1 + xs.length by omega]; exact i2⟩
    rw [List.map_cons]
    unfold loopF
    rw [h1]
    dsimp only
    rw [h2]
    dsimp only
    rw [if_pos (hok _)]
    exact e2
/-- a loop with a state -/
theorem loopF_fold {α β : Type} {ok : Sto → Bool} {trim : Bool} {n : Nat} {tmp : List Nat} {body : D → MP.Env → Sto → MP.X} {enc : α → D} (I : β → Prop) (envOf : β → MP.Env) (stOf : β → Sto) (g : β → α → β) (hok : ∀ s, ok (stOf s) = true) :
    ∀ {xs : List α} {s : β}, I s → (∀ x ∈ xs, ∀ s, I s → I (g s x) ∧ ∃ env' st', body (enc x) (envOf s) (stOf s) = .nx env' st' ∧ fin trim n tmp env' st' = some (envOf (g s x), stOf (g s x))) →
    loopF ok trim n tmp body (xs.map enc) (envOf s) (stOf s) = .nx (envOf (xs.foldl g s)) (stOf (xs.foldl g s)) ∧ I (xs.foldl g s)
  | [], s, i, _ => ⟨rfl, i⟩
  | x :: xs, s, i, h => by
    rw [List.map_cons]
    unfold loopF
    obtain ⟨i', env', st', h1, h2⟩ := h x List.mem_cons_self s i
    rw [h1]
    dsimp only
    rw [h2]
    dsimp only
    rw [if_pos (hok _)]
    exact loopF_fold I envOf stOf g hok i' fun y hy => h y (List.mem_cons_of_mem _ hy)
/-! ### typed lists -/
def eL {α : Type} (f : α → D) (l : List α) : D := .list (l.map f)
section
variable {α : Type} {f : α → D} {l m : List α} {st : Sto}
@[simp] theorem eL_fold : D.list (l.map f) = eL f l := rfl
@[simp] theorem listOf_eL : listOf st (eL f l) = some (l.map f) := rfl
@[simp] theorem seqOf_eL : seqOf st (eL f l) = some (l.map f) := rfl
@[simp] theorem items_eL : items st (eL f l) = some (l.map f) := rfl
@[simp] theorem stands_eL (ds : List D) : stands (eL f l) ds st = true := rfl
@[simp] theorem stands_none (ds : List D) : stands .none ds st = true := rfl
@[simp] theorem len_eL : lenV (eL f l) st = .ok (.v (.int l.length)) st := by
  show (match seqOf st (eL f l) with
    | some xs => R.ok (Val.v (D.int xs.length)) st
    | Option.none => R.stuck) = _
  rw [seqOf_eL]
  simp
@[simp] theorem len_scr (ns : List Int) : lenV (.scr ns) st = .ok (.v (.int ns.length)) st := by
  show R.ok (Val.v (D.int (ns.map D.int).length)) st = _
  simp
theorem len_str {z : Str} (h : z.length ≤ sizeLine) : lenV (.str z) st = .ok (.v (.int z.length)) st := by
  show (if z.length ≤ sizeLine then R.ok (Val.v (D.int z.length)) st else R.stuck) = _
  rw [if_pos h]
@[simp] theorem bi_len (d : D) : biV .len [d] st = lenV d st := rfl
theorem ix_eL {i : Int} {x : α} (h : atI l i = some x) : ixR (eL f l) (.int i) st = .ok (.v (f x)) st := by
  have e : ixV st (eL f l) (.int i) = some (f x) := by
    show atI (l.map f) i = some (f x)
    unfold atI at h ⊢
    rw [List.length_map]
    cases q : ixN l.length i with
    | none => rw [q] at h; cases h
    | some j =>
      rw [q] at h
      show (l.map f)[j]? = some (f x)
      have h' : l[j]? = some x := h
      rw [List.getElem?_map, h']; rfl
  unfold ixR
  rw [e]
theorem ix_scr {ns : List Int} {i : Int} {x : Int} (h : atI ns i = some x) : ixR (.scr ns) (.int i) st = .ok (.v (.int x)) st := by
  have e : ixV st (.scr ns) (.int i) = some (.int x) := by
    show atI (ns.map D.int) i = some (.int x)
    unfold atI at h ⊢
    rw [List.length_map]
    cases q : ixN ns.length i with
    | none => rw [q] at h; cases h
    | some j =>
      rw [q] at h
      show (ns.map D.int)[j]? = some (.int x)
      have h' : ns[j]? = some x := h
      rw [List.getElem?_map, h']; rfl
  unfold ixR
  rw [e]
theorem norefs_map_of (h : ∀ x ∈ l, (f x).noref = true) : norefs (l.map f) = true := by
  induction l with
  | nil => rfl
  | cons a r ih =>
    show ((f a).noref && norefs (r.map f)) = true
    rw [h a List.mem_cons_self, ih fun x hx => h x (List.mem_cons_of_mem _ hx)]; rfl
theorem noref_eL (h : ∀ x ∈ l, (f x).noref = true) : (eL f l).noref = true := norefs_map_of h
theorem canLays (h : ∀ x ∈ l, (f x).py.canLay0 = true) : PyData.canLayAll0 (pys (l.map f)) = true := by
  induction l with
  | nil => rfl
  | cons a r ih =>
    show ((f a).py.canLay0 && PyData.canLayAll0 (pys (r.map f))) = true
    rw [h a List.mem_cons_self, ih fun x hx => h x (List.mem_cons_of_mem _ hx)]; rfl
theorem depths {n : Nat} (h : ∀ x ∈ l, (f x).py.depth ≤ n) : PyData.depthAll (pys (l.map f)) ≤ n := by
  induction l with
  | nil => exact Nat.zero_le _
  | cons a r ih =>
    show max (f a).py.depth (PyData.depthAll (pys (r.map f))) ≤ n
    have h1 := h a List.mem_cons_self
    have h2 := ih fun x hx => h x (List.mem_cons_of_mem _ hx)
    omega
theorem eqs_map [DecidableEq α] (h : ∀ x ∈ l, ∀ y ∈ m, eqD (f x) (f y) = decide (x = y)) : PyData.eqvAll (pys (l.map f)) (pys (m.map f)) = decide (l = m) := by
  induction l generalizing m with
  | nil =>
    cases m with
    | nil => simp [pys, PyData.eqvAll]
    | cons b r => simp [pys, PyData.eqvAll]
  | cons a r ih =>
    cases m with
    | nil => simp [pys, PyData.eqvAll]
    | cons b s =>
      have e := h a List.mem_cons_self b List.mem_cons_self
      have e2 := ih (m := s) fun x hx y hy => h x (List.mem_cons_of_mem _ hx) y (List.mem_cons_of_mem _ hy)
      unfold eqD at e
      simp only [List.map_cons, pys, PyData.eqvAll, e, e2]
      by_cases q : a = b <;> by_cases q2 : r = s <;> simp [q, q2]
end
/-- what may be compared: no cells, strs in order, not deep -/
structure Cmp (d : D) (n : Nat) : Prop where
  nr : d.noref = true
  lay : d.py.canLay0 = true
  dep : d.py.depth ≤ n
theorem Cmp.shp {d : D} {n : Nat} (h : Cmp d n) (hn : n ≤ 64) : d.shp = true := by
  show (d.py.canLay0 && decide (d.py.depth ≤ 64)) = true
  rw [h.lay]
  simpa using Nat.le_trans h.dep hn
theorem cmp_int (i : Int) : Cmp (.int i) 0 := ⟨rfl, rfl, Nat.le_refl _⟩
theorem cmp_bool (i : Bool) : Cmp (.bool i) 0 := ⟨rfl, rfl, Nat.le_refl _⟩
theorem cmp_none : Cmp .none 0 := ⟨rfl, rfl, Nat.le_refl _⟩
def sOk (x : Str) : Prop := x.cps.all (· < 0x110000) = true
theorem cmp_str {x : Str} (h : sOk x) : Cmp (.str x) 0 := ⟨rfl, by simpa [D.py, PyData.canLay0, PyData.strOk] using (show x.cps.all (· < 0x110000) = true from h), by simp [D.py, PyData.depth]⟩
theorem cmp_eL {α : Type} {f : α → D} {l : List α} {n : Nat} (h : ∀ x ∈ l, Cmp (f x) n) : Cmp (eL f l) (n + 1) :=
  ⟨noref_eL fun x hx => (h x hx).nr, by
    show PyData.canLay0 (.list (pys (l.map f))) = true
    simp only [PyData.canLay0]
    exact canLays fun x hx => (h x hx).lay, by
    show PyData.depth (.list (pys (l.map f))) ≤ n + 1
    simp only [PyData.depth]
    have := depths (f := f) (l := l) fun x hx => (h x hx).dep
    omega⟩
theorem cmp_eq {a b : D} {n m : Nat} {st : Sto} (ha : Cmp a n) (hb : Cmp b m) (hn : n ≤ 64) (hm : m ≤ 64) : cmpR .eq a b st = .ok (.v (.bool (eqD a b))) st := by
  unfold cmpR cmpV
  simp only [frz_of ha.nr, frz_of hb.nr, ha.shp hn, hb.shp hm, Bool.and_self, if_true]
theorem cmp_ne {a b : D} {n m : Nat} {st : Sto} (ha : Cmp a n) (hb : Cmp b m) (hn : n ≤ 64) (hm : m ≤ 64) : cmpR .ne a b st = .ok (.v (.bool (!eqD a b))) st := by
  unfold cmpR cmpV
  simp only [frz_of ha.nr, frz_of hb.nr, ha.shp hn, hb.shp hm, Bool.and_self, if_true]
@[simp] theorem cmp_eq_ii (i j : Int) (st : Sto) : cmpR .eq (.int i) (.int j) st = .ok (.v (.bool (decide (i = j)))) st := by
  rw [cmp_eq (cmp_int i) (cmp_int j) (by decide) (by decide), eq_ii]
@[simp] theorem cmp_ne_ii (i j : Int) (st : Sto) : cmpR .ne (.int i) (.int j) st = .ok (.v (.bool (!decide (i = j)))) st := by
  rw [cmp_ne (cmp_int i) (cmp_int j) (by decide) (by decide), eq_ii]
theorem eq_str (a b : Str) : eqD (.str a) (.str b) = decide (a = b) := by
  show PyData.eqv (.str a) (.str b) = _
  simp only [PyData.eqv]
  rfl
theorem eq_eL {α : Type} [DecidableEq α] {f : α → D} {l m : List α} (h : ∀ x ∈ l, ∀ y ∈ m, eqD (f x) (f y) = decide (x = y)) : eqD (eL f l) (eL f m) = decide (l = m) := by
  show PyData.eqv (.list (pys (l.map f))) (.list (pys (m.map f))) = _
  simp only [PyData.eqv]
  exact eqs_map h
theorem eq_int (a b : Int) : eqD (.int a) (.int b) = decide (a = b) := eq_ii a b
def ltS (a b : Str) : Bool := decide (a.cps.toList < b.cps.toList)
section
variable {st : Sto}
@[simp] theorem r_lt_ii (i j : Int) : cmpR .lt (.int i) (.int j) st = .ok (.v (.bool (decide (i < j)))) st := rfl
@[simp] theorem r_le_ii (i j : Int) : cmpR .le (.int i) (.int j) st = .ok (.v (.bool (decide (i ≤ j)))) st := rfl
@[simp] theorem r_gt_ii (i j : Int) : cmpR .gt (.int i) (.int j) st = .ok (.v (.bool (decide (j < i)))) st := rfl
@[simp] theorem r_ge_ii (i j : Int) : cmpR .ge (.int i) (.int j) st = .ok (.v (.bool (decide (j ≤ i)))) st := rfl
@[simp] theorem r_in_ss (i j : Str) : cmpR .isin (.str i) (.str j) st = .ok (.v (.bool (strIn i j))) st := rfl
@[simp] theorem r_ge_ss (i j : Str) : cmpR .ge (.str i) (.str j) st = .ok (.v (.bool (!ltS i j))) st := rfl
@[simp] theorem r_lt_ss (i j : Str) : cmpR .lt (.str i) (.str j) st = .ok (.v (.bool (ltS i j))) st := rfl
@[simp] theorem noref_int (i : Int) : (D.int i).noref = true := rfl
@[simp] theorem noref_str (i : Str) : (D.str i).noref = true := rfl
@[simp] theorem noref_bool (i : Bool) : (D.bool i).noref = true := rfl
@[simp] theorem noref_none : D.none.noref = true := rfl
@[simp] theorem noref_scr (i : List Int) : (D.scr i).noref = true := rfl
@[simp] theorem noref_eI (l : List Int) : (eL D.int l).noref = true := noref_eL fun _ _ => rfl
@[simp] theorem noref_eS (l : List Str) : (eL D.str l).noref = true := noref_eL fun _ _ => rfl
@[simp] theorem noref_eB (l : List Bool) : (eL D.bool l).noref = true := noref_eL fun _ _ => rfl
@[simp] theorem noref_eII (l : List (List Int)) : (eL (eL D.int) l).noref = true := noref_eL fun _ _ => noref_eI _
@[simp] theorem noref_eSS (l : List (List Str)) : (eL (eL D.str) l).noref = true := noref_eL fun _ _ => noref_eS _
@[simp] theorem norefs_nil : norefs [] = true := rfl
@[simp] theorem norefs_cons (d : D) (ds : List D) : norefs (d :: ds) = (d.noref && norefs ds) := rfl
@[simp] theorem noref_list (ds : List D) : (D.list ds).noref = norefs ds := rfl
@[simp] theorem noref_tup (ds : List D) : (D.tup ds).noref = norefs ds := rfl
@[simp] theorem eL_comp {α β : Type} (f : β → D) (g : α → β) (l : List α) : eL (f ∘ g) l = eL f (l.map g) := by
  unfold eL
  rw [List.map_map]
end
@[simp] theorem ite_okb {c : Prop} [Decidable c] (x y : Bool) (st : Sto) : (if c then R.ok (Val.v (D.bool x)) st else R.ok (Val.v (D.bool y)) st) = R.ok (Val.v (D.bool (if c then x else y))) st := by split <;> rfl
theorem bind_ite {α β : Type} {c : Prop} [Decidable c] (a b : R α) (f : α → Sto → R β) : (if c then a else b).bind f = if c then a.bind f else b.bind f := by split <;> rfl
def allB (bs : List Bool) : Bool := bs.all id
def anyB (bs : List Bool) : Bool := bs.any id
def allP {α : Type} (p : α → Bool) (l : List α) : Bool := l.all p
def anyP {α : Type} (p : α → Bool) (l : List α) : Bool := l.any p
@[simp] theorem allB_map {α : Type} (p : α → Bool) (l : List α) : allB (l.map p) = allP p l := by
  unfold allB allP; rw [List.all_map]; rfl
@[simp] theorem anyB_map {α : Type} (p : α → Bool) (l : List α) : anyB (l.map p) = anyP p l := by
  unfold anyB anyP; rw [List.any_map]; rfl
/-! ### comprehensions, calls -/
section
variable {α β : Type} {ok : Sto → Bool} {f : D → Sto → R (Option D)} {enc : α → D} {e2 : β → D} {st : Sto} {xs : List α}
theorem compR_each (g : α → β) (hok : ok st = true) (hl : xs.length ≤ sizeLine) (h : ∀ x ∈ xs, f (enc x) st = .ok (some (e2 (g x))) st) : compR ok f (xs.map enc) st = .ok (.new ((xs.map g).map e2)) st := by
  unfold compR
  rw [hok, loopC_map (r := fun x => some (e2 (g x))) hok h]
  have e : xs.filterMap (fun x => some (e2 (g x))) = (xs.map g).map e2 := by
    clear hl h
    induction xs with
    | nil => rfl
    | cons x r ih => simp [ih]
  rw [e]
  simp [hl]
theorem compR_filter (p : α → Bool) (g : α → β) (hok : ok st = true) (hl : xs.length ≤ sizeLine) (h : ∀ x ∈ xs, f (enc x) st = .ok (if p x = true then some (e2 (g x)) else Option.none) st) : compR ok f (xs.map enc) st = .ok (.new (((xs.filter p).map g).map e2)) st := by
  unfold compR
  rw [hok, loopC_map (r := fun x => if p x = true then some (e2 (g x)) else Option.none) hok h]
  have e : xs.filterMap (fun x => if p x = true then some (e2 (g x)) else Option.none) = ((xs.filter p).map g).map e2 := by
    clear h hl
    induction xs with
    | nil => rfl
    | cons x r ih =>
      rw [List.filterMap_cons, List.filter_cons]
      by_cases q : p x = true
      · simp [q, ih]
      · simp [q, ih]
  rw [e]
  have h2 : (((xs.filter p).map g).map e2).length ≤ sizeLine := by
    have := List.length_filter_le p xs
    simp only [List.length_map]
    omega
  simp only [Bool.not_true, Bool.false_eq_true, if_false]
  rw [if_pos h2]
theorem intsOf_map : ∀ ns : List Int, intsOf (ns.map D.int) = some ns
  | [] => rfl
  | n :: ns => by
    show (intsOf (ns.map D.int)).map (n :: ·) = _
    rw [intsOf_map ns]; rfl
theorem boolsOf_map : ∀ ns : List Bool, boolsOf (ns.map D.bool) = some ns
  | [] => rfl
  | n :: ns => by
    show (boolsOf (ns.map D.bool)).map (n :: ·) = _
    rw [boolsOf_map ns]; rfl
@[simp] theorem bi_all (bs : List Bool) : biV .all [eL D.bool bs] st = .ok (.v (.bool (allB bs))) st := by
  show onBools (eL D.bool bs) st _ = _
  unfold onBools
  rw [listOf_eL]
  dsimp only
  rw [boolsOf_map]
  rfl
@[simp] theorem bi_any (bs : List Bool) : biV .any [eL D.bool bs] st = .ok (.v (.bool (anyB bs))) st := by
  show onBools (eL D.bool bs) st _ = _
  unfold onBools
  rw [listOf_eL]
  dsimp only
  rw [boolsOf_map]
  rfl
@[simp] theorem bi_sum (ns : List Int) : biV .sum [eL D.int ns] st = .ok (.v (.int ns.sum)) st := by
  show onInts (eL D.int ns) st _ = _
  unfold onInts
  rw [listOf_eL]
  dsimp only
  rw [intsOf_map]
theorem bi_sorted {ns : List Int} (h : ns.length < 64) : biV .sorted [eL D.int ns] st = .ok (.new ((sortI ns).map D.int)) st := by
  show onInts (eL D.int ns) st _ = _
  unfold onInts
  rw [listOf_eL]
  dsimp only
  rw [intsOf_map]
  dsimp only
  rw [if_pos h]
@[simp] theorem bi_max2 (i j : Int) : biV .max2 [.int i, .int j] st = .ok (.v (.int (if j > i then j else i))) st := rfl
@[simp] theorem bi_toInt_b (b : Bool) : biV .toInt [.bool b] st = .ok (.v (.int (if b = true then 1 else 0))) st := rfl
@[simp] theorem bi_toInt_i (b : Int) : biV .toInt [.int b] st = .ok (.v (.int b)) st := rfl
theorem bi_list_ref {n : Nat} {ys : List D} (h : st[n]? = some (.lst ys)) : biV .listOf [.ref n] st = .ok (.new ys) st := by
  show (match seqOf st (.ref n) with
    | some xs => R.ok (Val.new xs) st
    | Option.none => R.stuck) = _
  show (match (match st[n]? with
    | some (.lst xs) => some xs
    | _ => Option.none) with
    | some xs => R.ok (Val.new xs) st
    | Option.none => R.stuck) = _
  rw [h]
@[simp] theorem bi_list_eL : biV .listOf [eL enc xs] st = .ok (.new (xs.map enc)) st := by
  show listV (eL enc xs) st = _
  show (match seqOf st (eL enc xs) with
    | some xs => R.ok (Val.new xs) st
    | Option.none => R.stuck) = _
  rw [seqOf_eL]
theorem callP_at {cf : CF} {k : Nat} {ds : List D} {d : D} {st' : Sto} (hn : norefs ds = true) (e : cf k ds [] = .ok d st') (hd : d.noref = true) : callP cf k ds st = .ok (.v d) st := by
  unfold callP
  rw [frzs_of hn]
  dsimp only
  rw [e]
  dsimp only
  rw [hn, Bool.true_or, Bool.true_or, if_pos rfl, frz_of hd]
theorem callS_at {cf : CF} {k : Nat} {ds : List D} {d : D} {st' : Sto} (e : cf k ds st = .ok d st') : callS cf k ds st = .ok (.v d) st' := by
  unfold callS
  rw [e]
theorem callC_at {cf : CF} {k : Nat} {ds : List D} {d d2 : D} {st' st2 : Sto} (hn : norefs ds = true) (e : cf k ds [] = .ok d st') (h : relay d st' = some (d2, st2)) : callC cf k ds st = .ok (.v (d2.shift st.length)) (st ++ st2.map (Cell.shift st.length)) := by
  unfold callC
  rw [frzs_of hn]
  dsimp only
  rw [e]
  dsimp only
  rw [h]
  dsimp only
  rw [hn, Bool.true_or, if_pos rfl]
theorem callC_atz {cf : CF} {k : Nat} {ds ts : List D} {d d2 : D} {st' st2 : Sto} (hz : frzs st ds = some ts) (e : cf k ts [] = .ok d st') (h : relay d st' = some (d2, st2)) (h2 : d2.nolist = true) (h3 : st2.all Cell.nolist = true) : callC cf k ds st = .ok (.v (d2.shift st.length)) (st ++ st2.map (Cell.shift st.length)) := by
  unfold callC
  rw [hz]
  dsimp only
  rw [e]
  dsimp only
  rw [h]
  dsimp only
  rw [h2, h3, if_pos (by simp)]
end
def eqOr (x a b : Int) : Bool := decide (x = a) || decide (x = b)
@[simp] theorem notin_ints {st : Sto} (x a b : Int) : cmpR .notin (.int x) (.tup [.int a, .int b]) st = .ok (.v (.bool (!eqOr x a b))) st := by
  have e : inD st (.int x) (.tup [.int a, .int b]) = some (eqD (.int a) (.int x) || (eqD (.int b) (.int x) || false)) := rfl
  unfold cmpR cmpV
  dsimp only
  rw [e, eq_ii, eq_ii]
  simp [eqOr, eq_comm]
/-! ### cells -/
section
variable {st : Sto}
def onLst (st : Sto) (n : Nat) (f : List D → R Val) : R Val := match st[n]? with
  | some (.lst xs) => f xs
  | _ => .stuck
@[simp] theorem listOf_ref (n : Nat) : listOf st (.ref n) = (match st[n]? with
    | some (.lst xs) => some xs
    | _ => Option.none) := rfl
@[simp] theorem seqOf_ref (n : Nat) : seqOf st (.ref n) = (match st[n]? with
    | some (.lst xs) => some xs
    | _ => Option.none) := rfl
theorem len_ref {n : Nat} {xs : List D} (h : st[n]? = some (.lst xs)) : lenV (.ref n) st = .ok (.v (.int xs.length)) st := by
  show (match seqOf st (.ref n) with
    | some xs => R.ok (Val.v (D.int xs.length)) st
    | Option.none => R.stuck) = _
  rw [seqOf_ref, h]
theorem mtIs_ref {m : MT} {n : Nat} {xs : List D} (h : st[n]? = some (.lst xs)) (hm : ∀ d st, mtIs m d st = (listOf st d).isSome) : mtIs m (.ref n) st = true := by
  rw [hm, listOf_ref, h]; rfl
@[simp] theorem mtIs_append (d : D) : mtIs .append d st = (listOf st d).isSome := rfl
@[simp] theorem mtIs_pop0 (d : D) : mtIs .pop0 d st = (listOf st d).isSome := rfl
@[simp] theorem mt_append (n : Nat) (y : D) : mtV .append (.ref n) [y] st = (match st[n]? with
    | some (.lst xs) => if xs.length < sizeLine then .ok (.v .none) (st.set n (.lst (xs ++ [y]))) else .stuck
    | _ => .stuck) := rfl
@[simp] theorem mt_pop0 (n : Nat) : mtV .pop0 (.ref n) [] st = (match st[n]? with
    | some (.lst xs) => popV xs fun y => .ok (.v y) (st.set n (.lst xs.dropLast))
    | _ => .stuck) := rfl
theorem ix_ref {n : Nat} {i : Int} {xs : List D} {d : D} (h : st[n]? = some (.lst xs)) (hd : atI xs i = some d) : ixR (.ref n) (.int i) st = .ok (.v d) st := by
  have e : ixV st (.ref n) (.int i) = some d := by
    show (match seqOf st (.ref n) with
      | some xs => atI xs i
      | Option.none => Option.none) = _
    rw [seqOf_ref, h]
    exact hd
  unfold ixR
  rw [e]
theorem ix_str {z : Str} {i : Int} {c : Nat} (hz : z.length ≤ sizeLine) (h : atI z.cps.toList i = some c) : ixR (.str z) (.int i) st = .ok (.v (sgn c)) st := by
  have e : ixV st (.str z) (.int i) = some (sgn c) := by
    show (if z.length ≤ sizeLine then (atI z.cps.toList i).map sgn else Option.none) = _
    rw [if_pos hz, h]; rfl
  unfold ixR
  rw [e]
theorem cmp_nil {α : Type} [DecidableEq α] {f : α → D} {l : List α} {n : Nat} (h : ∀ x ∈ l, Cmp (f x) n) (hn : n ≤ 60) : cmpR .eq (eL f l) (.list []) st = .ok (.v (.bool (decide (l = [])))) st := by
  have e : (D.list []) = eL f [] := rfl
  rw [e, cmp_eq (cmp_eL h) (cmp_eL (f := f) (l := []) (n := 0) fun x hx => by cases hx) (by omega) (by decide), eq_eL fun x _ y hy => by cases hy]
@[simp] theorem cmp_nil_I (l : List Int) : cmpR .eq (eL D.int l) (.list []) st = .ok (.v (.bool (decide (l = [])))) st := cmp_nil (fun x _ => cmp_int x) (by decide)
end
@[simp] theorem wipeE_nil (env : MP.Env) : wipeE env [] = env := rfl
@[simp] theorem wipeE_cons (env : MP.Env) (v : Nat) (vs : List Nat) : wipeE env (v :: vs) = (wipeE env vs).set v Option.none := rfl
@[simp] theorem bindT_one (env : MP.Env) (i : Nat) (d : D) : bindT env (.one i) d = some (env.set i (some d)) := rfl
@[simp] theorem fin_false (n : Nat) (tmp : List Nat) (env : MP.Env) (st : Sto) : fin false n tmp env st = some (wipeE env tmp, st) := rfl
@[simp] theorem cmp_nilnil (st : Sto) : cmpR .eq (.list []) (.list []) st = .ok (.v (.bool true)) st := by
  show cmpR .eq (eL D.int []) (.list []) st = _
  rw [cmp_nil_I]
  rfl
theorem itR_ref {st : Sto} {n : Nat} {ys : List D} (h : st[n]? = some (.lst ys)) : itR (.ref n) st = .ok (.ref n, ys) st := by
  unfold itR
  show (match (match st[n]? with
    | some (.lst xs) => some xs
    | _ => Option.none) with
    | some ds => R.ok (D.ref n, ds) st
    | Option.none => R.stuck) = _
  rw [h]
theorem lays_mem : ∀ {ds : List D}, PyData.canLayAll0 (pys ds) = true → ∀ d ∈ ds, d.py.canLay0 = true
  | [], _, d, h => by cases h
  | x :: xs, h, d, hd => by
    have h' : x.py.canLay0 = true ∧ PyData.canLayAll0 (pys xs) = true := by simpa only [pys, PyData.canLayAll0, Bool.and_eq_true] using h
    rcases List.mem_cons.mp hd with e | e
    · rw [e]; exact h'.1
    · exact lays_mem h'.2 d e
mutual
theorem D.same_refl : ∀ {d : D}, d.py.canLay0 = true → d.same d = true
  | .none, _ => rfl
  | .bool b, _ => by simp [D.same]
  | .int b, _ => by simp [D.same]
  | .str b, _ => by simp [D.same]
  | .list xs, h => by
    simp only [D.same]
    exact sames_refl (lays_mem (by simpa only [D.py, PyData.canLay0] using h))
  | .tup xs, h => by
    simp only [D.same]
    exact sames_refl (lays_mem (by simpa only [D.py, PyData.canLay0] using h))
  | .ref n, _ => by simp [D.same]
  | .dk _ _, h => by simp [D.py, PyData.canLay0] at h
  | .dt _ _, h => by simp [D.py, PyData.canLay0] at h
  | .scr _, h => by simp [D.py, PyData.canLay0] at h
theorem sames_refl : ∀ {ds : List D}, (∀ d ∈ ds, d.py.canLay0 = true) → sames ds ds = true
  | [], _ => rfl
  | d :: ds, h => by
    simp only [sames, Bool.and_eq_true]
    exact ⟨D.same_refl (h d List.mem_cons_self), sames_refl fun x hx => h x (List.mem_cons_of_mem _ hx)⟩
end
theorem stands_ref {st : Sto} {n : Nat} {ys : List D} (h : st[n]? = some (.lst ys)) (hl : ∀ d ∈ ys, d.py.canLay0 = true) : stands (.ref n) ys st = true := by
  show (match st[n]? with
    | some (.lst xs) => sames xs ys
    | _ => false) = true
  rw [h]
  exact sames_refl hl
theorem readN_ref {st : Sto} {n : Nat} {ys : List D} (h : st[n]? = some (.lst ys)) (hn : norefs ys = true) : readN st.length st n = some (.list ys) := by
  have hl : n < st.length := (List.getElem?_eq_some_iff.mp h).1
  obtain ⟨k, hk⟩ : ∃ k, st.length = k + 1 := ⟨st.length - 1, by omega⟩
  rw [hk]
  unfold readN
  rw [h]
  dsimp only
  rw [norefs_map hn]
theorem frz_ref {st : Sto} {n : Nat} {ys : List D} (h : st[n]? = some (.lst ys)) (hn : norefs ys = true) : frz st (.ref n) = some (.list ys) := by
  show readN st.length st n = _
  exact readN_ref h hn
theorem frzs_cons {st : Sto} {d t : D} {ds ts : List D} (h : frz st d = some t) (h2 : frzs st ds = some ts) : frzs st (d :: ds) = some (t :: ts) := by
  unfold frzs at h2 ⊢
  unfold frz at h
  simp only [mapRefs, h, h2]
theorem frzs_nil {st : Sto} : frzs st [] = some [] := rfl
theorem frz_tup {st : Sto} {ds ts : List D} (h : frzs st ds = some ts) : frz st (.tup ds) = some (.tup ts) := by
  unfold frzs at h
  unfold frz
  simp only [D.mapRef, h]
theorem callP_fz {cf : CF} {k : Nat} {st : Sto} {ds ts : List D} {d : D} (h : frzs st ds = some ts) (e : cf k ts [] = .ok d []) (hd : d.nolist = true) (hr : d.noref = true) : callP cf k ds st = .ok (.v d) st := by
  unfold callP
  rw [h]
  dsimp only
  rw [e]
  dsimp only
  rw [hd]
  simp [frz_of hr]
theorem in_strs {st : Sto} {m : Str} {ls : List Str} (hm : sOk m) (hl : ∀ x ∈ ls, sOk x) : cmpR .isin (.str m) (.list (ls.map D.str)) st = .ok (.v (.bool (ls.any fun z => decide (z = m)))) st := by
  have c1 := cmp_str hm
  have c2 : Cmp (eL D.str ls) 1 := cmp_eL fun x hx => cmp_str (hl x hx)
  have e : inD st (.str m) (.list (ls.map D.str)) = some ((ls.map D.str).any fun z => eqD z (.str m)) := by
    show (match frz st (.str m), frz st (eL D.str ls) with
      | some d, some (.list ds) => if d.shp && (D.list ds).shp then some (ds.any fun z => eqD z d) else Option.none
      | _, _ => Option.none) = _
    rw [frz_of c1.nr, frz_of c2.nr]
    show (if (D.str m).shp && (eL D.str ls).shp then _ else _) = _
    rw [c1.shp (by decide), c2.shp (by decide)]
    rfl
  unfold cmpR cmpV
  dsimp only
  rw [e]
  dsimp only
  rw [List.any_map]
  have : (fun z => eqD z (D.str m)) ∘ D.str = fun z => decide (z = m) := by
    funext z
    exact eq_str z m
  rw [this]
@[simp] theorem in_ints2 {st : Sto} (x a b : Int) : cmpR .isin (.int x) (.tup [.int a, .int b]) st = .ok (.v (.bool (decide (a = x) || decide (b = x)))) st := by
  have e : inD st (.int x) (.tup [.int a, .int b]) = some (eqD (.int a) (.int x) || (eqD (.int b) (.int x) || false)) := rfl
  unfold cmpR cmpV
  dsimp only
  rw [e, eq_ii, eq_ii, Bool.or_false]
@[simp] theorem in_ints3 {st : Sto} (x a b c : Int) : cmpR .isin (.int x) (.tup [.int a, .int b, .int c]) st = .ok (.v (.bool (decide (a = x) || (decide (b = x) || decide (c = x))))) st := by
  have e : inD st (.int x) (.tup [.int a, .int b, .int c]) = some (eqD (.int a) (.int x) || (eqD (.int b) (.int x) || (eqD (.int c) (.int x) || false))) := rfl
  unfold cmpR cmpV
  dsimp only
  rw [e, eq_ii, eq_ii, eq_ii, Bool.or_false]
mutual
theorem D.shift_nr (k : Nat) : ∀ {d : D}, d.noref = true → d.shift k = d
  | .none, _ => rfl
  | .bool _, _ => rfl
  | .int _, _ => rfl
  | .str _, _ => rfl
  | .scr _, _ => rfl
  | .list xs, h => by simp only [D.shift, shifts_nr k (show norefs xs = true from h)]
  | .tup xs, h => by simp only [D.shift, shifts_nr k (show norefs xs = true from h)]
  | .dk ks xs, h => by simp only [D.shift, shifts_nr k (show norefs xs = true from h)]
  | .dt ks xs, h => by simp only [D.shift, shifts_nr k (show norefs xs = true from h)]
  | .ref _, h => by cases h
theorem shifts_nr (k : Nat) : ∀ {ds : List D}, norefs ds = true → shifts k ds = ds
  | [], _ => rfl
  | d :: ds, h => by
    simp only [norefs, Bool.and_eq_true] at h
    simp only [shifts, D.shift_nr k h.1, shifts_nr k h.2]
end
theorem cell_shift_nr {k : Nat} {ds : List D} (h : norefs ds = true) : Cell.shift k (.lst ds) = .lst ds := by
  simp only [Cell.shift, shifts_nr k h]
theorem norefs_I (l : List Int) : norefs (l.map D.int) = true := norefs_map_of fun _ _ => rfl
theorem norefs_S (l : List Str) : norefs (l.map D.str) = true := norefs_map_of fun _ _ => rfl
theorem norefs_II (l : List (List Int)) : norefs (l.map (eL D.int)) = true := norefs_map_of fun _ _ => noref_eI _
theorem norefs_SS (l : List (List Str)) : norefs (l.map (eL D.str)) = true := norefs_map_of fun _ _ => noref_eS _
end MP

/-! The typed layer: Lean values that stand for values, what expressions come to. -/
namespace MP
open PySem PySem.Spec PyProof.Rows L2

/-! ### types -/
structure Tx where
  cs : List Char
  deriving DecidableEq, Inhabited
def Tx.str (t : Tx) : PySem.Str := ⟨(t.cs.map Char.toNat).toArray⟩
def tx (s : String) : Tx := ⟨s.toList⟩
structure T2 (α β : Type) where
  a : α
  b : β
  deriving DecidableEq, Inhabited
structure T3 (α β γ : Type) where
  a : α
  b : β
  c : γ
  deriving DecidableEq, Inhabited
structure T4 (α β γ δ : Type) where
  a : α
  b : β
  c : γ
  d : δ
  deriving DecidableEq, Inhabited
/-- a list of two things that are not of one kind -/
structure H2 (α β : Type) where
  a : α
  b : β
  deriving DecidableEq, Inhabited
structure H3 (α β γ : Type) where
  a : α
  b : β
  c : γ
  deriving DecidableEq, Inhabited
structure H4 (α β γ δ : Type) where
  a : α
  b : β
  c : γ
  d : δ
  deriving DecidableEq, Inhabited
structure Sc where
  ns : List Int
  deriving Inhabited

class Enc (α : Type) where
  enc : α → D
  nr : ∀ x, (enc x).noref = true
open Enc (enc)
class Lay (α : Type) [Enc α] : Prop where
  lay : ∀ x : α, (enc x).py.canLay0 = true
class EqE (α : Type) [DecidableEq α] [Enc α] (n : outParam Nat) : Prop where
  dep : ∀ x : α, (enc x).py.depth ≤ n
  eq : ∀ x y : α, eqD (enc x) (enc y) = decide (x = y)
class NN (α : Type) [Enc α] : Prop where
  l : ∀ x : α, eqD .none (enc x) = false
  r : ∀ x : α, eqD (enc x) .none = false
  nn : ∀ x : α, enc x ≠ D.none
class NL (α : Type) [Enc α] : Prop where
  nl : ∀ x : α, (enc x).nolist = true
/-- no list at all -/
class Fl (α : Type) [Enc α] : Prop where
  fl : ∀ x : α, flatD (enc x) = true
/-- no list itself -/
class NS (α : Type) [Enc α] : Prop where
  ns : ∀ (x : α) (ds : List D), enc x ≠ D.list ds
theorem Tx.ok (t : Tx) : sOk t.str := by
  unfold sOk
  rw [Array.all_eq_true_iff_forall_mem]
  intro c hc
  have hc : c ∈ (t.cs.map Char.toNat).toArray := hc
  rw [List.mem_toArray] at hc
  obtain ⟨x, _, rfl⟩ := List.mem_map.mp hc
  have := x.valid
  simp only [decide_eq_true_eq]
  show x.val.toNat < _
  unfold UInt32.isValidChar Nat.isValidChar at this
  omega
theorem Tx.inj {a b : Tx} (h : a.str = b.str) : a = b := by
  obtain ⟨a⟩ := a
  obtain ⟨b⟩ := b
  unfold Tx.str at h
  injection h with h
  have h := congrArg Array.toList h
  congr 1
  exact (List.map_inj_right (fun x y e => Char.toNat_inj.mp e)).mp (by simpa using h)
instance : Enc Int := ⟨D.int, fun _ => rfl⟩
instance : Enc Bool := ⟨D.bool, fun _ => rfl⟩
instance : Enc Unit := ⟨fun _ => D.none, fun _ => rfl⟩
instance : Enc Tx := ⟨fun t => D.str t.str, fun _ => rfl⟩
instance : Enc Sc := ⟨fun t => D.scr t.ns, fun _ => rfl⟩
instance {α : Type} [Enc α] : Enc (List α) := ⟨fun l => D.list (l.map enc), fun l => noref_eL (fun x _ => Enc.nr x)⟩
instance {α : Type} [Enc α] : Enc (Option α) := ⟨fun o => match o with
  | some x => enc x
  | Option.none => D.none, fun o => by cases o; rfl; exact Enc.nr _⟩
instance {α β : Type} [Enc α] [Enc β] : Enc (T2 α β) := ⟨fun t => D.tup [enc t.a, enc t.b], fun t => by simp [Enc.nr]⟩
instance {α β γ : Type} [Enc α] [Enc β] [Enc γ] : Enc (T3 α β γ) := ⟨fun t => D.tup [enc t.a, enc t.b, enc t.c], fun t => by simp [Enc.nr]⟩
instance {α β γ δ : Type} [Enc α] [Enc β] [Enc γ] [Enc δ] : Enc (T4 α β γ δ) := ⟨fun t => D.tup [enc t.a, enc t.b, enc t.c, enc t.d], fun t => by simp [Enc.nr]⟩
instance {α β : Type} [Enc α] [Enc β] : Enc (H2 α β) := ⟨fun t => D.list [enc t.a, enc t.b], fun t => by simp [Enc.nr]⟩
instance {α β γ : Type} [Enc α] [Enc β] [Enc γ] : Enc (H3 α β γ) := ⟨fun t => D.list [enc t.a, enc t.b, enc t.c], fun t => by simp [Enc.nr]⟩
instance {α β γ δ : Type} [Enc α] [Enc β] [Enc γ] [Enc δ] : Enc (H4 α β γ δ) := ⟨fun t => D.list [enc t.a, enc t.b, enc t.c, enc t.d], fun t => by simp [Enc.nr]⟩
instance : Lay Int := ⟨fun _ => rfl⟩
instance : Lay Bool := ⟨fun _ => rfl⟩
instance : Lay Unit := ⟨fun _ => rfl⟩
instance : Lay Tx := ⟨fun t => (cmp_str t.ok).lay⟩
instance {α : Type} [Enc α] [Lay α] : Lay (List α) := ⟨fun l => by
  show PyData.canLay0 (.list (pys (l.map enc))) = true
  simp only [PyData.canLay0]
  exact canLays fun x _ => Lay.lay x⟩
instance {α : Type} [Enc α] [Lay α] : Lay (Option α) := ⟨fun o => by cases o; rfl; exact Lay.lay (α := α) _⟩
instance {α β : Type} [Enc α] [Enc β] [Lay α] [Lay β] : Lay (T2 α β) := ⟨fun t => by
  show PyData.canLay0 (.tuple [_, _]) = true
  simp only [PyData.canLay0, PyData.canLayAll0, Lay.lay, Bool.and_self]⟩
instance {α β γ : Type} [Enc α] [Enc β] [Enc γ] [Lay α] [Lay β] [Lay γ] : Lay (T3 α β γ) := ⟨fun t => by
  show PyData.canLay0 (.tuple [_, _, _]) = true
  simp only [PyData.canLay0, PyData.canLayAll0, Lay.lay, Bool.and_self]⟩
instance {α β γ δ : Type} [Enc α] [Enc β] [Enc γ] [Enc δ] [Lay α] [Lay β] [Lay γ] [Lay δ] : Lay (T4 α β γ δ) := ⟨fun t => by
  show PyData.canLay0 (.tuple [_, _, _, _]) = true
  simp only [PyData.canLay0, PyData.canLayAll0, Lay.lay, Bool.and_self]⟩
instance {α β : Type} [Enc α] [Enc β] [Lay α] [Lay β] : Lay (H2 α β) := ⟨fun t => by
  show PyData.canLay0 (.list [_, _]) = true
  simp only [PyData.canLay0, PyData.canLayAll0, Lay.lay, Bool.and_self]⟩
instance {α β γ : Type} [Enc α] [Enc β] [Enc γ] [Lay α] [Lay β] [Lay γ] : Lay (H3 α β γ) := ⟨fun t => by
  show PyData.canLay0 (.list [_, _, _]) = true
  simp only [PyData.canLay0, PyData.canLayAll0, Lay.lay, Bool.and_self]⟩
instance {α β γ δ : Type} [Enc α] [Enc β] [Enc γ] [Enc δ] [Lay α] [Lay β] [Lay γ] [Lay δ] : Lay (H4 α β γ δ) := ⟨fun t => by
  show PyData.canLay0 (.list [_, _, _, _]) = true
  simp only [PyData.canLay0, PyData.canLayAll0, Lay.lay, Bool.and_self]⟩
instance : EqE Int 0 := ⟨fun _ => Nat.le_refl _, eq_int⟩
theorem eq_bool (a b : Bool) : eqD (.bool a) (.bool b) = decide (a = b) := by
  show PyData.eqv (.bool a) (.bool b) = _
  simp only [PyData.eqv]
  rfl
instance : EqE Bool 0 := ⟨fun _ => Nat.le_refl _, eq_bool⟩
instance : EqE Unit 0 := ⟨fun _ => Nat.le_refl _, fun _ _ => rfl⟩
instance : EqE Tx 0 := ⟨fun t => (cmp_str t.ok).dep, fun a b => by
  show eqD (.str a.str) (.str b.str) = _
  rw [eq_str]
  by_cases h : a = b
  · subst h; simp
  · have : a.str ≠ b.str := fun e => h (Tx.inj e)
    simp [h, this]⟩
instance {α : Type} [DecidableEq α] [Enc α] {n : Nat} [EqE α n] : EqE (List α) (n + 1) := ⟨fun l => by
  show PyData.depth (.list (pys (l.map enc))) ≤ n + 1
  simp only [PyData.depth]
  have := depths (f := (enc : α → D)) (l := l) (n := n) fun x hx => EqE.dep x
  omega, fun x y => eq_eL fun a _ b _ => EqE.eq a b⟩
instance {α : Type} [DecidableEq α] [Enc α] {n : Nat} [EqE α n] [NN α] : EqE (Option α) n := ⟨fun o => by cases o; exact Nat.zero_le _; exact EqE.dep (α := α) _, fun x y => by
  cases x <;> cases y
  · rfl
  · exact NN.l (α := α) _
  · exact NN.r (α := α) _
  · rename_i a b
    show eqD (enc a) (enc b) = _
    rw [EqE.eq]
    simp⟩
instance {α β : Type} [DecidableEq α] [DecidableEq β] [Enc α] [Enc β] {n m : Nat} [EqE α n] [EqE β m] : EqE (T2 α β) (max n m + 1) := ⟨fun t => by
  show PyData.depth (.tuple [(enc t.a).py, (enc t.b).py]) ≤ _
  simp only [PyData.depth, PyData.depthAll]
  have := EqE.dep t.a
  have := EqE.dep t.b
  omega, fun x y => by
  obtain ⟨a, b⟩ := x
  obtain ⟨c, d⟩ := y
  have h1 := EqE.eq a c
  have h2 := EqE.eq b d
  unfold eqD at h1 h2
  show PyData.eqv (.tuple [(enc a).py, (enc b).py]) (.tuple [(enc c).py, (enc d).py]) = _
  simp only [PyData.eqv, PyData.eqvAll, h1, h2]
  by_cases q : a = c <;> by_cases q2 : b = d <;> simp [q, q2]⟩
instance {α β γ : Type} [DecidableEq α] [DecidableEq β] [DecidableEq γ] [Enc α] [Enc β] [Enc γ] {n m k : Nat} [EqE α n] [EqE β m] [EqE γ k] : EqE (T3 α β γ) (max n (max m k) + 1) := ⟨fun t => by
  show PyData.depth (.tuple [(enc t.a).py, (enc t.b).py, (enc t.c).py]) ≤ _
  simp only [PyData.depth, PyData.depthAll]
  have := EqE.dep t.a
  have := EqE.dep t.b
  have := EqE.dep t.c
  omega, fun x y => by
  obtain ⟨a, b, e⟩ := x
  obtain ⟨c, d, f⟩ := y
  have h1 := EqE.eq a c
  have h2 := EqE.eq b d
  have h3 := EqE.eq e f
  unfold eqD at h1 h2 h3
  show PyData.eqv (.tuple [(enc a).py, (enc b).py, (enc e).py]) (.tuple [(enc c).py, (enc d).py, (enc f).py]) = _
  simp only [PyData.eqv, PyData.eqvAll, h1, h2, h3]
  by_cases q : a = c <;> by_cases q2 : b = d <;> by_cases q3 : e = f <;> simp [q, q2, q3]⟩
instance {α β γ δ : Type} [DecidableEq α] [DecidableEq β] [DecidableEq γ] [DecidableEq δ] [Enc α] [Enc β] [Enc γ] [Enc δ] {n m k l : Nat} [EqE α n] [EqE β m] [EqE γ k] [EqE δ l] : EqE (T4 α β γ δ) (max (max n m) (max k l) + 1) := ⟨fun t => by
  show PyData.depth (.tuple [(enc t.a).py, (enc t.b).py, (enc t.c).py, (enc t.d).py]) ≤ _
  simp only [PyData.depth, PyData.depthAll]
  have := EqE.dep t.a
  have := EqE.dep t.b
  have := EqE.dep t.c
  have := EqE.dep t.d
  omega, fun x y => by
  obtain ⟨a, b, e, g⟩ := x
  obtain ⟨c, d, f, i⟩ := y
  have h1 := EqE.eq a c
  have h2 := EqE.eq b d
  have h3 := EqE.eq e f
  have h4 := EqE.eq g i
  unfold eqD at h1 h2 h3 h4
  show PyData.eqv (.tuple [(enc a).py, (enc b).py, (enc e).py, (enc g).py]) (.tuple [(enc c).py, (enc d).py, (enc f).py, (enc i).py]) = _
  simp only [PyData.eqv, PyData.eqvAll, h1, h2, h3, h4]
  by_cases q : a = c <;> by_cases q2 : b = d <;> by_cases q3 : e = f <;> by_cases q4 : g = i <;> simp [q, q2, q3, q4]⟩
instance {α β : Type} [DecidableEq α] [DecidableEq β] [Enc α] [Enc β] {n m : Nat} [EqE α n] [EqE β m] : EqE (H2 α β) (max n m + 1) := ⟨fun t => by
  show PyData.depth (.list [(enc t.a).py, (enc t.b).py]) ≤ _
  simp only [PyData.depth, PyData.depthAll]
  have := EqE.dep t.a
  have := EqE.dep t.b
  omega, fun x y => by
  obtain ⟨a, b⟩ := x
  obtain ⟨c, d⟩ := y
  have h1 := EqE.eq a c
  have h2 := EqE.eq b d
  unfold eqD at h1 h2
  show PyData.eqv (.list [(enc a).py, (enc b).py]) (.list [(enc c).py, (enc d).py]) = _
  simp only [PyData.eqv, PyData.eqvAll, h1, h2]
  by_cases q : a = c <;> by_cases q2 : b = d <;> simp [q, q2]⟩
instance {α β γ : Type} [DecidableEq α] [DecidableEq β] [DecidableEq γ] [Enc α] [Enc β] [Enc γ] {n m k : Nat} [EqE α n] [EqE β m] [EqE γ k] : EqE (H3 α β γ) (max n (max m k) + 1) := ⟨fun t => by
  show PyData.depth (.list [(enc t.a).py, (enc t.b).py, (enc t.c).py]) ≤ _
  simp only [PyData.depth, PyData.depthAll]
  have := EqE.dep t.a
  have := EqE.dep t.b
  have := EqE.dep t.c
  omega, fun x y => by
  obtain ⟨a, b, e⟩ := x
  obtain ⟨c, d, f⟩ := y
  have h1 := EqE.eq a c
  have h2 := EqE.eq b d
  have h3 := EqE.eq e f
  unfold eqD at h1 h2 h3
  show PyData.eqv (.list [(enc a).py, (enc b).py, (enc e).py]) (.list [(enc c).py, (enc d).py, (enc f).py]) = _
  simp only [PyData.eqv, PyData.eqvAll, h1, h2, h3]
  by_cases q : a = c <;> by_cases q2 : b = d <;> by_cases q3 : e = f <;> simp [q, q2, q3]⟩
instance {α β γ δ : Type} [DecidableEq α] [DecidableEq β] [DecidableEq γ] [DecidableEq δ] [Enc α] [Enc β] [Enc γ] [Enc δ] {n m k l : Nat} [EqE α n] [EqE β m] [EqE γ k] [EqE δ l] : EqE (H4 α β γ δ) (max (max n m) (max k l) + 1) := ⟨fun t => by
  show PyData.depth (.list [(enc t.a).py, (enc t.b).py, (enc t.c).py, (enc t.d).py]) ≤ _
  simp only [PyData.depth, PyData.depthAll]
  have := EqE.dep t.a
  have := EqE.dep t.b
  have := EqE.dep t.c
  have := EqE.dep t.d
  omega, fun x y => by
  obtain ⟨a, b, e, g⟩ := x
  obtain ⟨c, d, f, i⟩ := y
  have h1 := EqE.eq a c
  have h2 := EqE.eq b d
  have h3 := EqE.eq e f
  have h4 := EqE.eq g i
  unfold eqD at h1 h2 h3 h4
  show PyData.eqv (.list [(enc a).py, (enc b).py, (enc e).py, (enc g).py]) (.list [(enc c).py, (enc d).py, (enc f).py, (enc i).py]) = _
  simp only [PyData.eqv, PyData.eqvAll, h1, h2, h3, h4]
  by_cases q : a = c <;> by_cases q2 : b = d <;> by_cases q3 : e = f <;> by_cases q4 : g = i <;> simp [q, q2, q3, q4]⟩
instance : NN Int := ⟨fun _ => rfl, fun _ => rfl, fun _ h => by cases h⟩
instance : NN Bool := ⟨fun _ => rfl, fun _ => rfl, fun _ h => by cases h⟩
instance : NN Tx := ⟨fun _ => rfl, fun _ => rfl, fun _ h => by cases h⟩
instance {α : Type} [Enc α] : NN (List α) := ⟨fun _ => rfl, fun _ => rfl, fun _ h => by cases h⟩
instance {α β : Type} [Enc α] [Enc β] : NN (T2 α β) := ⟨fun _ => rfl, fun _ => rfl, fun _ h => by cases h⟩
instance {α β : Type} [Enc α] [Enc β] : NN (H2 α β) := ⟨fun _ => rfl, fun _ => rfl, fun _ h => by cases h⟩
instance {α β γ δ : Type} [Enc α] [Enc β] [Enc γ] [Enc δ] : NN (T4 α β γ δ) := ⟨fun _ => rfl, fun _ => rfl, fun _ h => by cases h⟩
instance {α β γ : Type} [Enc α] [Enc β] [Enc γ] : NN (T3 α β γ) := ⟨fun _ => rfl, fun _ => rfl, fun _ h => by cases h⟩
instance : NL Int := ⟨fun _ => rfl⟩
instance : NL Bool := ⟨fun _ => rfl⟩
instance : NL Unit := ⟨fun _ => rfl⟩
instance : NL Tx := ⟨fun _ => rfl⟩
instance {α : Type} [Enc α] [NL α] : NL (Option α) := ⟨fun o => by cases o; rfl; exact NL.nl (α := α) _⟩
instance {α β : Type} [Enc α] [Enc β] [NL α] [NL β] : NL (T2 α β) := ⟨fun t => by
  show ((enc t.a).nolist && ((enc t.b).nolist && true)) = true
  simp [NL.nl]⟩
instance : NS Int := ⟨fun _ _ h => by cases h⟩
instance : NS Bool := ⟨fun _ _ h => by cases h⟩
instance : NS Unit := ⟨fun _ _ h => by cases h⟩
instance : NS Tx := ⟨fun _ _ h => by cases h⟩
instance : NS Sc := ⟨fun _ _ h => by cases h⟩
instance {α : Type} [Enc α] [NS α] : NS (Option α) := ⟨fun o ds => by
  cases o
  · intro h; cases h
  · exact NS.ns (α := α) _ ds⟩
instance {α β : Type} [Enc α] [Enc β] : NS (T2 α β) := ⟨fun _ _ h => by cases h⟩
instance {α β γ : Type} [Enc α] [Enc β] [Enc γ] : NS (T3 α β γ) := ⟨fun _ _ h => by cases h⟩
instance {α β γ δ : Type} [Enc α] [Enc β] [Enc γ] [Enc δ] : NS (T4 α β γ δ) := ⟨fun _ _ h => by cases h⟩
instance : Fl Int := ⟨fun _ => rfl⟩
instance : Fl Bool := ⟨fun _ => rfl⟩
instance : Fl Tx := ⟨fun _ => rfl⟩
instance {α : Type} [Enc α] [Fl α] : Fl (Option α) := ⟨fun o => by cases o; rfl; exact Fl.fl (α := α) _⟩
theorem enc_list {α : Type} [Enc α] (l : List α) : enc l = D.list (l.map enc) := rfl
theorem nrs {α : Type} [Enc α] (l : List α) : norefs (l.map enc) = true := norefs_map_of fun x _ => Enc.nr x
theorem nls {α : Type} [Enc α] [NL α] (l : List α) : nolists (l.map enc) = true := by
  induction l with
  | nil => rfl
  | cons a r ih =>
    show ((enc a).nolist && nolists (r.map enc)) = true
    rw [NL.nl, ih]; rfl
theorem lays {α : Type} [Enc α] [Lay α] (l : List α) : ∀ d ∈ l.map enc, d.py.canLay0 = true := fun d hd => by
  obtain ⟨x, _, rfl⟩ := List.mem_map.mp hd
  exact Lay.lay x
theorem shp_of {α : Type} [DecidableEq α] [Enc α] [Lay α] {n : Nat} [EqE α n] (x : α) (hn : n ≤ 64) : (enc x).shp = true := by
  show (PyData.canLay0 (enc x).py && decide (PyData.depth (enc x).py ≤ 64)) = true
  rw [Lay.lay x]
  have := EqE.dep x
  simp; omega
/-! ### what stands for a value -/
/-- a tree, or a cell with a list of trees -/
def Fz (st : Sto) (d t : D) : Prop := d = t ∨ ∃ n ds, d = .ref n ∧ st[n]? = some (.lst ds) ∧ t = .list ds
theorem Fz.frz {st : Sto} {d t : D} (h : Fz st d t) (hn : t.noref = true) : frz st d = some t := by
  rcases h with rfl | ⟨n, ds, rfl, h, rfl⟩
  · exact frz_of hn
  · exact frz_ref h hn
theorem Fz.list {st : Sto} {d : D} {ds : List D} (h : Fz st d (.list ds)) : listOf st d = some ds := by
  rcases h with rfl | ⟨n, ds', rfl, h, e⟩
  · rfl
  · cases e
    rw [listOf_ref, h]
theorem Fz.seq {st : Sto} {d : D} {ds : List D} (h : Fz st d (.list ds)) : seqOf st d = some ds := by
  rcases h with rfl | ⟨n, ds', rfl, h, e⟩
  · rfl
  · cases e
    rw [seqOf_ref, h]
theorem Fz.ns {α : Type} [Enc α] [NS α] {st : Sto} {d : D} {x : α} (h : Fz st d (enc x)) : d = enc x := by
  rcases h with h | ⟨_, ds, _, _, e⟩
  · exact h
  · exact absurd e (NS.ns x ds)
theorem Fz.rec' {st : Sto} {d : D} {ds : List D} {P : D → Prop} (h : Fz st d (.list ds)) (h1 : P (.list ds)) (h2 : ∀ n, st[n]? = some (.lst ds) → P (.ref n)) : P d := by
  rcases h with rfl | ⟨n, ds', rfl, h, e⟩
  · exact h1
  · cases e
    exact h2 n h
section
variable {α β γ δ : Type} [Enc α] [Enc β] [Enc γ] [Enc δ] (cf : CF)
def Tv (e : E) (env : MP.Env) (st : Sto) (x : α) : Prop := ∃ w, evX cf e env st = .ok w st ∧ w.d = enc x
def Nv (e : E) (env : MP.Env) (st : Sto) (x : List α) : Prop := evX cf e env st = .ok (Val.new (x.map enc)) st
def Vv (e : E) (env : MP.Env) (st : Sto) (x : α) : Prop := ∃ w, evX cf e env st = .ok w st ∧ Fz st w.d (enc x)
def Zv (e : E) (env : MP.Env) (st : Sto) (x : α) : Prop := ∃ w, evX cf e env st = .ok w st ∧ frz st w.d = some (enc x)
def As (es : Es) (env : MP.Env) (st : Sto) (ts : List D) : Prop := evXs cf es env st = .ok ts st ∧ norefs ts = true
def Zs (es : Es) (env : MP.Env) (st : Sto) (ts : List D) : Prop := ∃ ds, evXs cf es env st = .ok ds st ∧ frzs st ds = some ts
def Iv (it : It) (env : MP.Env) (st : Sto) (l : List α) : Prop := ∃ src, evI cf it env st = .ok (src, l.map enc) st ∧ stands src (l.map enc) st = true
/-- calls: what is handed back -/
def Okp (f : Nat) (ts : List D) (x : α) : Prop := ∃ d st', cf f ts [] = .ok d st' ∧ frz st' d = some (enc x)
def Okn (f : Nat) (ts : List D) (x : α) : Prop := ∃ d st', cf f ts [] = .ok d st' ∧ frz st' d = some (enc x) ∧ d.nolist = true ∧ st'.all Cell.nolist = true
def Oke (f : Nat) (ts : List D) (x : Except Str α) : Prop := match x with
  | .ok x => Okp cf f ts x
  | .error c => ∃ st', cf f ts [] = .err c st'
end
variable {α β γ δ : Type} [Enc α] [Enc β] [Enc γ] [Enc δ] {cf : CF} {env : MP.Env} {st : Sto}
theorem Nv.t {e : E} {x : List α} (h : Nv cf e env st x) : Tv cf e env st x := ⟨_, h, rfl⟩
theorem Tv.v {e : E} {x : α} (h : Tv cf e env st x) : Vv cf e env st x := by
  obtain ⟨w, e, h⟩ := h
  exact ⟨w, e, .inl h⟩
theorem Nv.v {e : E} {x : List α} (h : Nv cf e env st x) : Vv cf e env st x := h.t.v
theorem Vv.z {e : E} {x : α} (h : Vv cf e env st x) : Zv cf e env st x := by
  obtain ⟨w, e, h⟩ := h
  exact ⟨w, e, h.frz (Enc.nr x)⟩
theorem Tv.z {e : E} {x : α} (h : Tv cf e env st x) : Zv cf e env st x := h.v.z
theorem Vv.t [NS α] {e : E} {x : α} (h : Vv cf e env st x) : Tv cf e env st x := by
  obtain ⟨w, e, h⟩ := h
  exact ⟨w, e, h.ns⟩
/-! ### variables, literals -/
theorem tv_var {i : Nat} {x : α} (h : env[i]? = some (some (enc x))) : Tv cf (.var i) env st x := ⟨.v (enc x), by rw [evX_var, h], rfl⟩
theorem vv_cell {i n : Nat} {x : List α} (h : env[i]? = some (some (.ref n))) (h2 : st[n]? = some (.lst (x.map enc))) : Vv cf (.var i) env st x :=
  ⟨.v (.ref n), by rw [evX_var, h], .inr ⟨n, _, rfl, h2, rfl⟩⟩
theorem tv_lit {d : D} {x : α} (h : d = enc x) : Tv cf (.lit d) env st x := ⟨.v d, by rw [evX_lit], h⟩
theorem tv_glob {s : Str} {d : D} {x : α} (h : d = enc x) : Tv cf (.glob s d) env st x := ⟨.v d, by rw [evX_glob], h⟩
theorem ofString_tx (s : String) : (Str.ofString s) = (tx s).str := Str.ofString_eq_toList s
theorem tv_str {s : String} : Tv cf (.lit (.str (Str.ofString s))) env st (tx s) := tv_lit (congrArg D.str (ofString_tx s))
/-- an option's something -/
theorem Tv.some {e : E} {x : α} (h : Tv cf e env st x) : Tv cf e env st (some x) := h
theorem Vv.some {e : E} {x : α} (h : Vv cf e env st x) : Vv cf e env st (some x) := h
def uw {α : Type} [Inhabited α] (o : Option α) : α := o.getD default
theorem Tv.uw [Inhabited α] {e : E} {o : Option α} (h : Tv cf e env st o) (ho : o.isSome = true) : Tv cf e env st (uw o) := by
  cases o with
  | none => cases ho
  | some x => exact h
theorem Vv.uw [Inhabited α] {e : E} {o : Option α} (h : Vv cf e env st o) (ho : o.isSome = true) : Vv cf e env st (uw o) := by
  cases o with
  | none => cases ho
  | some x => exact h
theorem tv_opt [Inhabited α] {i : Nat} {o : Option α} (h : env[i]? = some (o.map enc)) (ho : o.isSome = true) : Tv cf (.var i) env st (uw o) := by
  cases o with
  | none => cases ho
  | some x => exact ⟨.v (enc x), by rw [evX_var, h]; rfl, rfl⟩
theorem tv_none : Tv cf (.lit .none) env st (Option.none : Option α) := tv_lit rfl
/-! ### numbers -/
theorem int_of {e : E} {x : Int} (h : Vv cf e env st x) : ∃ w, evX cf e env st = .ok w st ∧ w.d = .int x := h.t
theorem bin_of {o : BOp} {a b : E} {x : α} {y : β} {z : γ} (ha : Vv cf a env st x) (hb : Vv cf b env st y) (h : ∀ d e, Fz st d (enc x) → Fz st e (enc y) → ∃ w, binV o d e st = .ok w st ∧ w.d = enc z) : Tv cf (.bin o a b) env st z := by
  obtain ⟨v, e1, h1⟩ := ha
  obtain ⟨w, e2, h2⟩ := hb
  obtain ⟨u, e3, h3⟩ := h _ _ h1 h2
  refine ⟨u, ?_, h3⟩
  rw [evX_bin, e1, R.bind_ok, e2, R.bind_ok, e3]
theorem tv_add {a b : E} {x y : Int} (ha : Vv cf a env st x) (hb : Vv cf b env st y) : Tv cf (.bin .add a b) env st (x + y) :=
  bin_of ha hb fun d e h1 h2 => by rw [h1.ns, h2.ns]; exact ⟨_, rfl, rfl⟩
theorem tv_sub {a b : E} {x y : Int} (ha : Vv cf a env st x) (hb : Vv cf b env st y) : Tv cf (.bin .sub a b) env st (x - y) :=
  bin_of ha hb fun d e h1 h2 => by rw [h1.ns, h2.ns]; exact ⟨_, rfl, rfl⟩
/-- a factor is small -/
def MulOk (x y : Int) : Prop := (-(2 ^ 64) < x ∧ x < 2 ^ 64) ∨ (-(2 ^ 64) < y ∧ y < 2 ^ 64)
theorem tv_mul {a b : E} {x y : Int} (ha : Vv cf a env st x) (hb : Vv cf b env st y) (h : MulOk x y) : Tv cf (.bin .mul a b) env st (x * y) :=
  bin_of ha hb fun d e h1 h2 => by
    rw [h1.ns, h2.ns]
    refine ⟨.v (.int (x * y)), ?_, rfl⟩
    show (if L2.CMul x y then R.ok (Val.v (D.int (x * y))) st else R.stuck) = _
    exact if_pos (show L2.CMul x y from h)
def DivOk (x y : Int) : Prop := L2.CDivN x y
theorem tv_fdiv {a b : E} {x y : Int} (ha : Vv cf a env st x) (hb : Vv cf b env st y) (h : DivOk x y) : Tv cf (.bin .fdiv a b) env st (x.fdiv y) :=
  bin_of ha hb fun d e h1 h2 => by
    rw [h1.ns, h2.ns]
    refine ⟨.v (.int (x.fdiv y)), ?_, rfl⟩
    show (if L2.CDivN x y then R.ok (Val.v (D.int (x.fdiv y))) st else R.stuck) = _
    exact if_pos (show L2.CDivN x y from h)
theorem tv_mod {a b : E} {x y : Int} (ha : Vv cf a env st x) (hb : Vv cf b env st y) (h : y ≠ 0) : Tv cf (.bin .mod a b) env st (x.fmod y) :=
  bin_of ha hb fun d e h1 h2 => by
    rw [h1.ns, h2.ns]
    refine ⟨.v (.int (x.fmod y)), ?_, rfl⟩
    show (if y ≠ 0 then R.ok (Val.v (D.int (x.fmod y))) st else R.stuck) = _
    rw [if_pos h]
def PowOk (x y : Int) : Prop := L2.CPow x y
instance (x y : Int) : Decidable (PowOk x y) := by unfold PowOk; infer_instance
theorem tv_pow {a b : E} {x y : Int} (ha : Vv cf a env st x) (hb : Vv cf b env st y) (h : PowOk x y) : Tv cf (.bin .pow a b) env st (x ^ y.toNat) :=
  bin_of ha hb fun d e h1 h2 => by
    rw [h1.ns, h2.ns]
    refine ⟨.v (.int (x ^ y.toNat)), ?_, rfl⟩
    show (if L2.CPow x y then R.ok (Val.v (D.int (x ^ y.toNat))) st else R.stuck) = _
    exact if_pos (show L2.CPow x y from h)
/-! ### lists -/
/-- a list's length is let by -/
def Sz {α : Type} (l : List α) : Prop := l.length ≤ 16777216
def Sz1 {α : Type} (l : List α) : Prop := l.length < 16777216
theorem Sz.le {α : Type} {l : List α} (h : Sz l) : l.length ≤ sizeLine := by rw [sizeLine_eq]; exact h
theorem nv_cat {a b : E} {x y : List α} (ha : Vv cf a env st x) (hb : Vv cf b env st y) (h : Sz (x ++ y)) : Nv cf (.bin .add a b) env st (x ++ y) := by
  obtain ⟨v, e1, h1⟩ := ha
  obtain ⟨w, e2, h2⟩ := hb
  have q1 := h1.list
  have q2 := h2.list
  have h' := h.le
  rw [List.length_append] at h'
  have key : addV v.d w.d st = .ok (Val.new ((x ++ y).map enc)) st := by
    rw [List.map_append]
    have fin : ∀ d e, listOf st d = some (x.map enc) → listOf st e = some (y.map enc) → (match listOf st d, listOf st e with
      | some xs, some ys => if xs.length + ys.length ≤ sizeLine then R.ok (Val.new (xs ++ ys)) st else .stuck
      | _, _ => R.stuck) = .ok (Val.new (x.map enc ++ y.map enc)) st := fun d e a b => by
      rw [a, b]
      dsimp only
      rw [List.length_map, List.length_map, if_pos h']
    rcases h1 with h1 | ⟨n, _, h1, _, _⟩
    · rw [h1] at q1 ⊢
      rcases h2 with h2 | ⟨n, _, h2, _, _⟩
      · rw [h2] at q2 ⊢; exact fin _ _ q1 q2
      · rw [h2] at q2 ⊢; exact fin _ _ q1 q2
    · rw [h1] at q1 ⊢
      rcases h2 with h2 | ⟨n, _, h2, _, _⟩
      · rw [h2] at q2 ⊢; exact fin _ _ q1 q2
      · rw [h2] at q2 ⊢; exact fin _ _ q1 q2
  unfold Nv
  rw [evX_bin, e1, R.bind_ok, e2, R.bind_ok]
  exact key
def rep {α : Type} (l : List α) (k : Int) : List α := (List.replicate k.toNat l).flatten
theorem nv_rep {a b : E} {x : List α} {k : Int} (ha : Vv cf a env st x) (hb : Vv cf b env st k) (h : k < 2 ^ 63 ∧ -(2 ^ 63) ≤ k ∧ x.length * k.toNat ≤ 16777216) : Nv cf (.bin .mul a b) env st (rep x k) := by
  obtain ⟨v, e1, h1⟩ := ha
  obtain ⟨w, e2, h2⟩ := int_of hb
  have hs : sizeLine = 16777216 := sizeLine_eq
  have q1 := h1.list
  have key : mulV v.d w.d st = .ok (Val.new ((rep x k).map enc)) st := by
    rw [h2]
    have e : (rep x k).map enc = (List.replicate k.toNat (x.map enc)).flatten := by
      unfold rep
      rw [List.map_flatten, List.map_replicate]
    rw [e]
    have fin : ∀ d, listOf st d = some (x.map enc) → (match listOf st d with
      | some xs => if -(2 ^ 63) ≤ k ∧ k < 2 ^ 63 ∧ xs.length * k.toNat ≤ sizeLine then R.ok (Val.new (List.replicate k.toNat xs).flatten) st else .stuck
      | _ => R.stuck) = .ok (Val.new (List.replicate k.toNat (x.map enc)).flatten) st := fun d a => by
      rw [a]
      dsimp only
      rw [List.length_map, if_pos ⟨h.2.1, h.1, by rw [hs]; exact h.2.2⟩]
    rcases h1 with h1 | ⟨n, _, h1, _, _⟩
    · rw [h1] at q1 ⊢
      exact fin _ q1
    · rw [h1] at q1 ⊢
      exact fin _ q1
  unfold Nv
  rw [evX_bin, e1, R.bind_ok, e2, R.bind_ok]
  exact key
end MP

namespace MP
open PySem PySem.Spec PyProof.Rows L2
open Enc (enc)
variable {α β γ δ : Type} [Enc α] [Enc β] [Enc γ] [Enc δ] {cf : CF} {env : MP.Env} {st : Sto}
/-! ### parts -/
/-- an index is let by -/
def InR (n : Nat) (i : Int) : Prop := -(n : Int) ≤ i ∧ i < n
instance (n : Nat) (i : Int) : Decidable (InR n i) := by unfold InR; infer_instance
def ix {α : Type} [Inhabited α] (l : List α) (i : Int) : α := (atI l i).getD default
theorem atI_in {α : Type} {l : List α} {i : Int} (h : InR l.length i) : ∃ x, atI l i = some x := by
  unfold InR at h
  by_cases h0 : 0 ≤ i
  · rw [atI_pos h0 h.2]
    exact ⟨_, List.getElem?_eq_getElem (by omega)⟩
  · rw [atI_neg (by omega) h.1]
    exact ⟨_, List.getElem?_eq_getElem (by omega)⟩
theorem atI_ix {α : Type} [Inhabited α] {l : List α} {i : Int} (h : InR l.length i) : atI l i = some (ix l i) := by
  obtain ⟨x, e⟩ := atI_in h
  unfold ix
  rw [e]; rfl
theorem ix_mem {α : Type} [Inhabited α] {l : List α} {i : Int} (h : InR l.length i) : ix l i ∈ l := by
  have e := atI_ix h
  unfold atI at e
  cases q : ixN l.length i with
  | none => rw [q] at e; cases e
  | some j => rw [q] at e; exact List.mem_of_getElem? e
theorem atI_map {α β : Type} (f : α → β) (l : List α) (i : Int) : atI (l.map f) i = (atI l i).map f := by
  unfold atI
  rw [List.length_map]
  cases ixN l.length i with
  | none => rfl
  | some j => exact List.getElem?_map ..
theorem ix_of {a b : E} {x : α} {i : Int} {z : β} (ha : Vv cf a env st x) (hb : Vv cf b env st i) (h : ∀ d, Fz st d (enc x) → ixV st d (.int i) = some (enc z)) : Tv cf (.ix a b) env st z := by
  obtain ⟨v, e1, h1⟩ := ha
  obtain ⟨w, e2, h2⟩ := int_of hb
  refine ⟨.v (enc z), ?_, rfl⟩
  rw [evX_ix, e1, R.bind_ok, e2, R.bind_ok, h2]
  unfold ixR
  rw [h _ h1]
theorem tv_ix [Inhabited α] {a b : E} {l : List α} {i : Int} (ha : Vv cf a env st l) (hb : Vv cf b env st i) (h : InR l.length i) : Tv cf (.ix a b) env st (ix l i) :=
  ix_of ha hb fun d hd => by
    have key : atI (l.map (enc : α → D)) i = some (enc (ix l i)) := by rw [atI_map, atI_ix h]; rfl
    exact hd.rec' (P := fun d => ixV st d (.int i) = some (enc (ix l i))) key fun n hn => by
      show (match seqOf st (.ref n) with
        | some xs => L2.atI xs i
        | Option.none => Option.none) = _
      rw [seqOf_ref, hn]
      exact key
theorem tv_ixs {a b : E} {l : Sc} {i : Int} (ha : Vv cf a env st l) (hb : Vv cf b env st i) (h : InR l.ns.length i) : Tv cf (.ix a b) env st (ix l.ns i) :=
  ix_of ha hb fun d hd => by
    rw [hd.ns]
    show atI (l.ns.map D.int) i = _
    rw [atI_map, atI_ix h]; rfl
def len {α : Type} (l : List α) : Int := l.length
def Tx.ix (t : Tx) (i : Int) : Tx := ⟨[MP.ix t.cs i]⟩
def Tx.len (t : Tx) : Int := t.cs.length
theorem Tx.length (t : Tx) : t.str.length = t.cs.length := by
  show (t.cs.map Char.toNat).toArray.size = _
  simp
theorem tv_ixt {a b : E} {l : Tx} {i : Int} (ha : Vv cf a env st l) (hb : Vv cf b env st i) (h : InR l.cs.length i) (hz : Sz l.cs) : Tv cf (.ix a b) env st (l.ix i) :=
  ix_of ha hb fun d hd => by
    rw [hd.ns]
    show (if l.str.length ≤ sizeLine then (atI l.str.cps.toList i).map sgn else Option.none) = _
    rw [if_pos (by rw [Tx.length]; exact hz.le)]
    have e : l.str.cps.toList = l.cs.map Char.toNat := by
      show (l.cs.map Char.toNat).toArray.toList = _
      simp
    rw [e, atI_map, atI_ix h]
    rfl
section
variable {e : E}
theorem fld_of {x : α} {k : Int} {z : β} (h : Vv cf e env st x) (hx : ∃ ds, enc x = .tup ds ∧ atI ds k = some (enc z)) : Tv cf (.ix e (.lit (.int k))) env st z := by
  obtain ⟨ds, h1, h2⟩ := hx
  refine ix_of h (tv_lit rfl : Tv cf (.lit (.int k)) env st k).v fun d hd => ?_
  have : d = enc x := by
    rcases hd with hd | ⟨n, ds', _, _, q⟩
    · exact hd
    · rw [h1] at q; cases q
  rw [this, h1]
  exact h2
theorem tv_2a {x : T2 α β} (h : Vv cf e env st x) : Tv cf (.ix e (.lit (.int 0))) env st x.a := fld_of h ⟨_, rfl, rfl⟩
theorem tv_2b {x : T2 α β} (h : Vv cf e env st x) : Tv cf (.ix e (.lit (.int 1))) env st x.b := fld_of h ⟨_, rfl, rfl⟩
theorem tv_3a {x : T3 α β γ} (h : Vv cf e env st x) : Tv cf (.ix e (.lit (.int 0))) env st x.a := fld_of h ⟨_, rfl, rfl⟩
theorem tv_3b {x : T3 α β γ} (h : Vv cf e env st x) : Tv cf (.ix e (.lit (.int 1))) env st x.b := fld_of h ⟨_, rfl, rfl⟩
theorem tv_3c {x : T3 α β γ} (h : Vv cf e env st x) : Tv cf (.ix e (.lit (.int 2))) env st x.c := fld_of h ⟨_, rfl, rfl⟩
theorem tv_4a {x : T4 α β γ δ} (h : Vv cf e env st x) : Tv cf (.ix e (.lit (.int 0))) env st x.a := fld_of h ⟨_, rfl, rfl⟩
theorem tv_4b {x : T4 α β γ δ} (h : Vv cf e env st x) : Tv cf (.ix e (.lit (.int 1))) env st x.b := fld_of h ⟨_, rfl, rfl⟩
theorem tv_4c {x : T4 α β γ δ} (h : Vv cf e env st x) : Tv cf (.ix e (.lit (.int 2))) env st x.c := fld_of h ⟨_, rfl, rfl⟩
theorem tv_4d {x : T4 α β γ δ} (h : Vv cf e env st x) : Tv cf (.ix e (.lit (.int 3))) env st x.d := fld_of h ⟨_, rfl, rfl⟩
end
theorem hfld_of {e : E} {x : α} {k : Int} {z : β} (h : Tv cf e env st x) (hx : ∃ ds, enc x = .list ds ∧ atI ds k = some (enc z)) : Tv cf (.ix e (.lit (.int k))) env st z := by
  obtain ⟨ds, h1, h2⟩ := hx
  obtain ⟨w, e1, h3⟩ := h
  refine ⟨.v (enc z), ?_, rfl⟩
  rw [evX_ix, e1, R.bind_ok, evX_lit, R.bind_ok, h3, h1]
  unfold ixR
  show (match atI ds k with
    | some d => R.ok (Val.v d) st
    | Option.none => R.stuck) = _
  rw [h2]
section
variable {e : E}
theorem tv_h2a {x : H2 α β} (h : Tv cf e env st x) : Tv cf (.ix e (.lit (.int 0))) env st x.a := hfld_of h ⟨_, rfl, rfl⟩
theorem tv_h2b {x : H2 α β} (h : Tv cf e env st x) : Tv cf (.ix e (.lit (.int 1))) env st x.b := hfld_of h ⟨_, rfl, rfl⟩
theorem tv_h3a {x : H3 α β γ} (h : Tv cf e env st x) : Tv cf (.ix e (.lit (.int 0))) env st x.a := hfld_of h ⟨_, rfl, rfl⟩
theorem tv_h3b {x : H3 α β γ} (h : Tv cf e env st x) : Tv cf (.ix e (.lit (.int 1))) env st x.b := hfld_of h ⟨_, rfl, rfl⟩
theorem tv_h3c {x : H3 α β γ} (h : Tv cf e env st x) : Tv cf (.ix e (.lit (.int 2))) env st x.c := hfld_of h ⟨_, rfl, rfl⟩
theorem tv_h4a {x : H4 α β γ δ} (h : Tv cf e env st x) : Tv cf (.ix e (.lit (.int 0))) env st x.a := hfld_of h ⟨_, rfl, rfl⟩
theorem tv_h4b {x : H4 α β γ δ} (h : Tv cf e env st x) : Tv cf (.ix e (.lit (.int 1))) env st x.b := hfld_of h ⟨_, rfl, rfl⟩
theorem tv_h4c {x : H4 α β γ δ} (h : Tv cf e env st x) : Tv cf (.ix e (.lit (.int 2))) env st x.c := hfld_of h ⟨_, rfl, rfl⟩
theorem tv_h4d {x : H4 α β γ δ} (h : Tv cf e env st x) : Tv cf (.ix e (.lit (.int 3))) env st x.d := hfld_of h ⟨_, rfl, rfl⟩
end
/-- a slice -/
def cut {α : Type} (l : List α) (lo hi : Option Int) : List α := cutA l lo hi
/-- a slice's bound -/
inductive Bd where
  | no
  | at (i : Int)
def Bd.o : Bd → Option Int
  | .no => Option.none
  | .at i => some i
def Bv (cf : CF) (e : E) (env : MP.Env) (st : Sto) (o : Option Int) : Prop := ∃ w, evX cf e env st = .ok w st ∧ partOf e w.d = some o
theorem bv_no : Bv cf (.lit .none) env st Option.none := ⟨_, evX_lit _, rfl⟩
theorem bv_at {e : E} {i : Int} (h : Vv cf e env st i) : Bv cf e env st (some i) := by
  obtain ⟨w, e1, h1⟩ := int_of h
  refine ⟨w, e1, ?_⟩
  unfold partOf
  by_cases q : isNoneLit e = true
  · have : e = .lit .none := by
      unfold isNoneLit at q
      split at q
      · rfl
      · cases q
    subst this
    rw [evX_lit] at e1
    cases e1
    cases h1
  · rw [if_neg q, h1]
theorem nv_sl {a lo hi : E} {l : List α} {i j : Option Int} (ha : Vv cf a env st l) (hl : Bv cf lo env st i) (hh : Bv cf hi env st j) : Nv cf (.sl a lo hi) env st (cut l i j) := by
  obtain ⟨v, e1, h1⟩ := ha
  obtain ⟨w, e2, h2⟩ := hl
  obtain ⟨u, e3, h3⟩ := hh
  unfold Nv
  rw [evX_sl, e1, R.bind_ok, e2, R.bind_ok, h2]
  dsimp only
  rw [e3, R.bind_ok, h3]
  dsimp only
  have e : (cut l i j).map enc = cutA (l.map (enc : α → D)) i j := by
    unfold cut cutA
    rw [List.map_take, List.map_drop, List.length_map]
  rw [e]
  exact h1.rec' (P := fun d => slV d i j st = R.ok (Val.new (cutA (l.map enc) i j)) st) rfl fun n hn => by
    show (match listOf st (.ref n) with
      | some xs => R.ok (Val.new (cutA xs i j)) st
      | Option.none => R.stuck) = _
    rw [listOf_ref, hn]
def Tx.cut (t : Tx) (lo hi : Option Int) : Tx := ⟨cutA t.cs lo hi⟩
theorem tv_slt {a lo hi : E} {l : Tx} {i j : Option Int} (ha : Vv cf a env st l) (hl : Bv cf lo env st i) (hh : Bv cf hi env st j) (hz : Sz l.cs) : Tv cf (.sl a lo hi) env st (l.cut i j) := by
  obtain ⟨v, e1, h1⟩ := ha.t
  obtain ⟨w, e2, h2⟩ := hl
  obtain ⟨u, e3, h3⟩ := hh
  refine ⟨.v (.str (cutS l.str i j)), ?_, ?_⟩
  · rw [evX_sl, e1, R.bind_ok, e2, R.bind_ok, h2]
    dsimp only
    rw [e3, R.bind_ok, h3]
    dsimp only
    rw [h1]
    show (if l.str.length ≤ sizeLine then R.ok (Val.v (.str (cutS l.str i j))) st else R.stuck) = _
    rw [if_pos (by rw [Tx.length]; exact hz.le)]
  · show D.str _ = D.str _
    congr 1
    unfold cutS Tx.cut cutA
    rw [Tx.length]
    show _ = (⟨((_ : List Char).map Char.toNat).toArray⟩ : PySem.Str)
    have e : l.str.cps.toList = l.cs.map Char.toNat := by
      show (l.cs.map Char.toNat).toArray.toList = _
      simp
    rw [e, List.map_take, List.map_drop]
/-! ### comparing -/
theorem cmp_of {o : COp} {a b : E} {x : α} {y : β} {c : Bool} (ha : Vv cf a env st x) (hb : Vv cf b env st y) (h : ∀ d e, Fz st d (enc x) → Fz st e (enc y) → cmpV o st d e = some c) : Tv cf (.cmp o a b) env st c := by
  obtain ⟨v, e1, h1⟩ := ha
  obtain ⟨w, e2, h2⟩ := hb
  refine ⟨.v (.bool c), ?_, rfl⟩
  rw [evX_cmp, e1, R.bind_ok, e2, R.bind_ok]
  unfold cmpR
  rw [h _ _ h1 h2]
theorem tv_lt {a b : E} {x y : Int} (ha : Vv cf a env st x) (hb : Vv cf b env st y) : Tv cf (.cmp .lt a b) env st (decide (x < y)) :=
  cmp_of ha hb fun d e h1 h2 => by rw [h1.ns, h2.ns]; rfl
theorem tv_le {a b : E} {x y : Int} (ha : Vv cf a env st x) (hb : Vv cf b env st y) : Tv cf (.cmp .le a b) env st (decide (x ≤ y)) :=
  cmp_of ha hb fun d e h1 h2 => by rw [h1.ns, h2.ns]; rfl
theorem tv_gt {a b : E} {x y : Int} (ha : Vv cf a env st x) (hb : Vv cf b env st y) : Tv cf (.cmp .gt a b) env st (decide (y < x)) :=
  cmp_of ha hb fun d e h1 h2 => by rw [h1.ns, h2.ns]; rfl
theorem tv_ge {a b : E} {x y : Int} (ha : Vv cf a env st x) (hb : Vv cf b env st y) : Tv cf (.cmp .ge a b) env st (decide (y ≤ x)) :=
  cmp_of ha hb fun d e h1 h2 => by rw [h1.ns, h2.ns]; rfl
def Tx.lt (a b : Tx) : Bool := ltS a.str b.str
theorem tv_ltt {a b : E} {x y : Tx} (ha : Vv cf a env st x) (hb : Vv cf b env st y) : Tv cf (.cmp .lt a b) env st (x.lt y) :=
  cmp_of ha hb fun d e h1 h2 => by rw [h1.ns, h2.ns]; rfl
theorem tv_get {a b : E} {x y : Tx} (ha : Vv cf a env st x) (hb : Vv cf b env st y) : Tv cf (.cmp .ge a b) env st (!x.lt y) :=
  cmp_of ha hb fun d e h1 h2 => by rw [h1.ns, h2.ns]; rfl
section
variable [DecidableEq α] [Lay α] {n : Nat} [EqE α n]
theorem tv_eq {a b : E} {x y : α} (ha : Vv cf a env st x) (hb : Vv cf b env st y) (hn : n ≤ 64 := by decide) : Tv cf (.cmp .eq a b) env st (decide (x = y)) :=
  cmp_of ha hb fun d e h1 h2 => by
    unfold cmpV
    dsimp only
    rw [h1.frz (Enc.nr x), h2.frz (Enc.nr y)]
    dsimp only
    rw [shp_of x hn, shp_of y hn, EqE.eq]
    rfl
theorem tv_ne {a b : E} {x y : α} (ha : Vv cf a env st x) (hb : Vv cf b env st y) (hn : n ≤ 64 := by decide) : Tv cf (.cmp .ne a b) env st (!decide (x = y)) :=
  cmp_of ha hb fun d e h1 h2 => by
    unfold cmpV
    dsimp only
    rw [h1.frz (Enc.nr x), h2.frz (Enc.nr y)]
    dsimp only
    rw [shp_of x hn, shp_of y hn, EqE.eq]
    rfl
theorem any_enc {k : Nat} [EqE α k] (l : List α) (x : α) : ((l.map enc).any fun z => eqD z (enc x)) = decide (x ∈ l) := by
  rw [List.any_map]
  have : ((fun z => eqD z (enc x)) ∘ (enc : α → D)) = fun z : α => decide (z = x) := by
    funext z
    exact EqE.eq z x
  rw [this, Bool.eq_iff_iff, List.any_eq_true]
  simp
theorem inD_ref (k : Nat) (d : D) : inD st d (.ref k) = (match st[k]?, d with
      | some (.lst _), _ => (match frz st d, frz st (.ref k) with
        | some d, some (.list ds) => if d.shp && (D.list ds).shp then some (ds.any fun z => eqD z d) else Option.none
        | _, _ => Option.none)
      | _, _ => Option.none) := rfl
theorem inD_list {l : List α} {x : α} {d e : D} (h1 : Fz st d (enc x)) (h2 : Fz st e (enc l)) (hn : n ≤ 62) : inD st d e = some (decide (x ∈ l)) := by
  have fin : (match frz st d, frz st e with
    | some d, some (.list ds) => if d.shp && (D.list ds).shp then some (ds.any fun z => eqD z d) else Option.none
    | _, _ => Option.none) = some (decide (x ∈ l)) := by
    rw [h1.frz (Enc.nr x), h2.frz (Enc.nr l)]
    show (if (enc x).shp && (enc l).shp then some ((l.map enc).any fun z => eqD z (enc x)) else Option.none) = _
    rw [shp_of x (by omega), shp_of l (by omega), any_enc]
    rfl
  rcases h2 with h2 | ⟨k, ds, h2, h3, h4⟩
  · rw [h2] at fin ⊢
    exact fin
  · subst h2
    rw [inD_ref, h3]
    exact fin
theorem tv_in {a b : E} {x : α} {l : List α} (ha : Vv cf a env st x) (hb : Vv cf b env st l) (hn : n ≤ 62 := by decide) : Tv cf (.cmp .isin a b) env st (decide (x ∈ l)) :=
  cmp_of ha hb fun d e h1 h2 => inD_list h1 h2 hn
theorem tv_notin {a b : E} {x : α} {l : List α} (ha : Vv cf a env st x) (hb : Vv cf b env st l) (hn : n ≤ 62 := by decide) : Tv cf (.cmp .notin a b) env st (!decide (x ∈ l)) :=
  cmp_of ha hb fun d e h1 h2 => by
    unfold cmpV
    dsimp only
    rw [inD_list h1 h2 hn]
    rfl
/-- a tuple of some things of one kind -/
theorem inD_tup {k : Nat} [EqE α k] [Fl α] {ds : List D} {l : List α} {x : α} {d : D} (h1 : Fz st d (enc x)) (h2 : ds = l.map enc) : inD st d (.tup ds) = some (decide (x ∈ l)) := by
  have hd : d = enc x := by
    rcases h1 with h | ⟨_, es, _, _, e⟩
    · exact h
    · have := Fl.fl x; rw [e] at this; cases this
  subst h2
  rw [hd]
  have : (l.map (enc : α → D)).all flatD = true := by
    rw [List.all_map, List.all_eq_true]
    exact fun y _ => Fl.fl y
  unfold inD
  dsimp only
  rw [Fl.fl, this, any_enc]
  rfl
end
theorem Fz.flat {d t : D} (h : Fz st d t) (hf : flatD d = true) : d = t := by
  rcases h with h | ⟨_, _, h, _, _⟩
  · exact h
  · rw [h] at hf; cases hf
theorem flat_map (g : Nat → Option D) {d : D} (hf : flatD d = true) : d.mapRef g = some d := by
  cases d <;> first | rfl | cases hf
theorem flats_map (g : Nat → Option D) : ∀ {ds : List D}, ds.all flatD = true → mapRefs g ds = some ds
  | [], _ => rfl
  | d :: ds, h => by
    rw [List.all_cons, Bool.and_eq_true] at h
    simp only [mapRefs, flat_map g h.1, flats_map g h.2]
theorem inD_tupz [DecidableEq α] [Lay α] {n : Nat} [EqE α n] {ds ts : List D} {l : List α} {x : α} {d : D} (h1 : Fz st d (enc x)) (h2 : frzs st ds = some ts) (h3 : ts = l.map enc) (hn : n ≤ 62) : inD st d (.tup ds) = some (decide (x ∈ l)) := by
  subst h3
  unfold inD
  dsimp only
  by_cases hf : (flatD d && ds.all flatD) = true
  · rw [if_pos hf]
    rw [Bool.and_eq_true] at hf
    have e1 := h1.flat hf.1
    have e2 : ds = l.map enc := by
      have := flats_map (readN st.length st) hf.2
      unfold frzs at h2
      rw [this] at h2
      exact Option.some.inj h2
    rw [e1, e2, any_enc]
  · rw [if_neg hf, h1.frz (Enc.nr x), h2]
    dsimp only
    have s2 : (D.tup (l.map (enc : α → D))).shp = true := by
      have : (D.list (l.map (enc : α → D))).shp = true := shp_of l (by omega : n + 1 ≤ 64)
      simpa only [D.shp, D.py, SeqAt.shaped, PyData.canLay0, PyData.depth] using this
    rw [shp_of x (by omega), s2, any_enc]
    rfl
/-- `in` a tuple that is written out -/
theorem tv_intup [DecidableEq α] [Lay α] {n : Nat} [EqE α n] [Fl α] {a b : E} {x : α} {ds : List D} (l : List α) (ha : Vv cf a env st x) (hb : ∃ w, evX cf b env st = .ok w st ∧ w.d = .tup ds) (hl : ds = l.map enc) : Tv cf (.cmp .isin a b) env st (decide (x ∈ l)) := by
  obtain ⟨v, e1, h1⟩ := ha
  obtain ⟨w, e2, h2⟩ := hb
  refine ⟨.v (.bool (decide (x ∈ l))), ?_, rfl⟩
  rw [evX_cmp, e1, R.bind_ok, e2, R.bind_ok, h2]
  unfold cmpR cmpV
  dsimp only
  rw [inD_tup h1 hl]
theorem tv_notintup [DecidableEq α] [Lay α] {n : Nat} [EqE α n] [Fl α] {a b : E} {x : α} {ds : List D} (l : List α) (ha : Vv cf a env st x) (hb : ∃ w, evX cf b env st = .ok w st ∧ w.d = .tup ds) (hl : ds = l.map enc) : Tv cf (.cmp .notin a b) env st (!decide (x ∈ l)) := by
  obtain ⟨v, e1, h1⟩ := ha
  obtain ⟨w, e2, h2⟩ := hb
  refine ⟨.v (.bool (!decide (x ∈ l))), ?_, rfl⟩
  rw [evX_cmp, e1, R.bind_ok, e2, R.bind_ok, h2]
  unfold cmpR cmpV
  dsimp only
  rw [inD_tup h1 hl]
  rfl
def Tx.has (a b : Tx) : Bool := strIn b.str a.str
theorem tv_intx {a b : E} {x y : Tx} (ha : Vv cf a env st x) (hb : Vv cf b env st y) : Tv cf (.cmp .isin a b) env st (y.has x) :=
  cmp_of ha hb fun d e h1 h2 => by rw [h1.ns, h2.ns]; rfl
theorem tv_notintx {a b : E} {x y : Tx} (ha : Vv cf a env st x) (hb : Vv cf b env st y) : Tv cf (.cmp .notin a b) env st (!y.has x) :=
  cmp_of ha hb fun d e h1 h2 => by rw [h1.ns, h2.ns]; rfl
theorem isD_none [NN α] {d : D} {o : Option α} (h : Fz st d (enc o)) : isD d .none = some o.isNone := by
  cases o with
  | none =>
    have : d = .none := by
      rcases h with h | ⟨_, _, _, _, e⟩
      · exact h
      · cases e
    rw [this]; rfl
  | some x =>
    have : d ≠ .none := by
      rcases h with h | ⟨_, _, h, _, _⟩
      · rw [h]; exact NN.nn x
      · rw [h]; intro e; cases e
    show some (match d with
      | .none => true
      | _ => false) = _
    cases d <;> first | rfl | exact absurd rfl this
theorem tv_isnone [NN α] {a : E} {o : Option α} (ha : Vv cf a env st o) : Tv cf (.cmp .is a (.lit .none)) env st o.isNone :=
  cmp_of (y := ()) ha (tv_lit rfl : Tv cf (.lit .none) env st ()).v fun d e h1 h2 => by
    rw [h2.ns]
    show isD d .none = _
    exact isD_none h1
theorem tv_isntnone [NN α] {a : E} {o : Option α} (ha : Vv cf a env st o) : Tv cf (.cmp .isnot a (.lit .none)) env st o.isSome :=
  cmp_of (y := ()) ha (tv_lit rfl : Tv cf (.lit .none) env st ()).v fun d e h1 h2 => by
    rw [h2.ns]
    show (isD d .none).map (!·) = _
    rw [isD_none h1]
    cases o <;> rfl
theorem tv_istrue {a : E} {b c : Bool} (ha : Vv cf a env st b) : Tv cf (.cmp .is a (.lit (.bool c))) env st (b == c) :=
  cmp_of (y := c) ha (tv_lit rfl : Tv cf (.lit (.bool c)) env st c).v fun d e h1 h2 => by rw [h1.ns, h2.ns]; rfl
theorem tv_isnttrue {a : E} {b c : Bool} (ha : Vv cf a env st b) : Tv cf (.cmp .isnot a (.lit (.bool c))) env st (!(b == c)) :=
  cmp_of (y := c) ha (tv_lit rfl : Tv cf (.lit (.bool c)) env st c).v fun d e h1 h2 => by rw [h1.ns, h2.ns]; rfl
/-! chains of two -/
theorem tv_chain {o p : COp} {a b c : E} {x : α} {y : β} {z : γ} {u v : Bool} (ha : Vv cf a env st x) (hb : Vv cf b env st y) (hc : u = true → Vv cf c env st z)
    (h1 : ∀ d e, Fz st d (enc x) → Fz st e (enc y) → cmpV o st d e = some u) (h2 : ∀ d e, Fz st d (enc y) → Fz st e (enc z) → cmpV p st d e = some v) : Tv cf (.chain o p a b c) env st (u && v) := by
  obtain ⟨v1, e1, f1⟩ := ha
  obtain ⟨v2, e2, f2⟩ := hb
  refine ⟨.v (.bool (u && v)), ?_, rfl⟩
  rw [evX_chain, e1, R.bind_ok, e2, R.bind_ok, h1 _ _ f1 f2, chainR_b]
  cases u with
  | false => rfl
  | true =>
    obtain ⟨v3, e3, f3⟩ := hc rfl
    rw [if_pos rfl, e3, R.bind_ok]
    unfold cmpR
    rw [h2 _ _ f2 f3]
    rfl
theorem cv_lt {x y : Int} : ∀ d e, Fz st d (enc x) → Fz st e (enc y) → cmpV .lt st d e = some (decide (x < y)) := fun d e h1 h2 => by rw [h1.ns, h2.ns]; rfl
theorem cv_le {x y : Int} : ∀ d e, Fz st d (enc x) → Fz st e (enc y) → cmpV .le st d e = some (decide (x ≤ y)) := fun d e h1 h2 => by rw [h1.ns, h2.ns]; rfl
/-! ### and, or, not, if -/
theorem tv_and {a b : E} {x y : Bool} (ha : Vv cf a env st x) (hb : x = true → Vv cf b env st y) : Tv cf (.land a b) env st (x && y) := by
  obtain ⟨v, e1, h1⟩ := ha.t
  cases x with
  | false =>
    refine ⟨.v (.bool false), ?_, rfl⟩
    rw [evX_land, e1, R.bind_ok]
    cases v with
    | v d =>
      have : d = .bool false := h1
      subst this; rfl
    | new ds => cases h1
  | true =>
    obtain ⟨w, e2, h2⟩ := (hb rfl).t
    refine ⟨w, ?_, h2⟩
    rw [evX_land, e1, R.bind_ok]
    cases v with
    | v d =>
      have : d = .bool true := h1
      subst this
      rw [landR_b, if_pos rfl, e2]
    | new ds => cases h1
theorem tv_or {a b : E} {x y : Bool} (ha : Vv cf a env st x) (hb : x = false → Vv cf b env st y) : Tv cf (.lor a b) env st (x || y) := by
  obtain ⟨v, e1, h1⟩ := ha.t
  cases x with
  | true =>
    refine ⟨.v (.bool true), ?_, rfl⟩
    rw [evX_lor, e1, R.bind_ok]
    cases v with
    | v d =>
      have : d = .bool true := h1
      subst this; rfl
    | new ds => cases h1
  | false =>
    obtain ⟨w, e2, h2⟩ := (hb rfl).t
    refine ⟨w, ?_, h2⟩
    rw [evX_lor, e1, R.bind_ok]
    cases v with
    | v d =>
      have : d = .bool false := h1
      subst this
      rw [lorR_b, if_neg (by decide), e2]
    | new ds => cases h1
theorem bool_of {e : E} {x : Bool} (h : Vv cf e env st x) : evX cf e env st = .ok (.v (.bool x)) st := by
  obtain ⟨v, e1, h1⟩ := h.t
  cases v with
  | v d =>
    have : d = .bool x := h1
    subst this; exact e1
  | new ds => cases h1
theorem tv_not {a : E} {x : Bool} (ha : Vv cf a env st x) : Tv cf (.lnot a) env st (!x) :=
  ⟨.v (.bool (!x)), by rw [evX_lnot, bool_of ha, R.bind_ok]; rfl, rfl⟩
theorem tv_ite {c a b : E} {x : Bool} {y z : α} (hc : Vv cf c env st x) (ha : x = true → Tv cf a env st y) (hb : x = false → Tv cf b env st z) : Tv cf (.ite c a b) env st (if x = true then y else z) := by
  cases x with
  | true =>
    obtain ⟨w, e, h⟩ := ha rfl
    exact ⟨w, by rw [evX_ite, bool_of hc, R.bind_ok, iteR_b, if_pos rfl, e], by rw [h, if_pos rfl]⟩
  | false =>
    obtain ⟨w, e, h⟩ := hb rfl
    exact ⟨w, by rw [evX_ite, bool_of hc, R.bind_ok, iteR_b, if_neg (by decide), e], by rw [h, if_neg (by decide)]⟩
/-! ### lists and tuples written out -/
theorem as_nil : As cf .nil env st [] := ⟨evXs_nil, rfl⟩
theorem as_cons {e : E} {es : Es} {x : α} {ts : List D} (h : Tv cf e env st x) (h2 : As cf es env st ts) : As cf (.cons e es) env st (enc x :: ts) := by
  obtain ⟨w, e1, h1⟩ := h
  refine ⟨by rw [evXs_cons, e1, R.bind_ok, h2.1, R.bind_ok, h1], ?_⟩
  rw [norefs_cons, Enc.nr x, h2.2]; rfl
theorem zs_nil : Zs cf .nil env st [] := ⟨[], evXs_nil, frzs_nil⟩
theorem zs_cons {e : E} {es : Es} {x : α} {ts : List D} (h : Zv cf e env st x) (h2 : Zs cf es env st ts) : Zs cf (.cons e es) env st (enc x :: ts) := by
  obtain ⟨w, e1, h1⟩ := h
  obtain ⟨ds, e2, h2⟩ := h2
  exact ⟨w.d :: ds, by rw [evXs_cons, e1, R.bind_ok, e2, R.bind_ok], frzs_cons h1 h2⟩
theorem nv_list {es : Es} (l : List α) (h : As cf es env st (l.map enc)) (hl : l.length ≤ 1000 := by exact Nat.le_of_ble_eq_true rfl) : Nv cf (.list es) env st l := by
  unfold Nv
  have hs : sizeLine = 16777216 := sizeLine_eq
  rw [evX_list, h.1, R.bind_ok, if_pos (by rw [List.length_map]; omega)]
theorem tup_ev {es : Es} {ts : List D} (h : As cf es env st ts) (hl : ts.length ≤ 1000) : evX cf (.tup es) env st = .ok (.v (.tup ts)) st := by
  have hs : sizeLine = 16777216 := sizeLine_eq
  rw [evX_tup, h.1, R.bind_ok, if_pos (by omega)]
theorem tv_tup {es : Es} {ts : List D} {x : α} (h : As cf es env st ts) (hx : enc x = .tup ts) (hl : ts.length ≤ 1000 := by exact Nat.le_of_ble_eq_true rfl) : Tv cf (.tup es) env st x :=
  ⟨_, tup_ev h hl, hx.symm⟩
theorem tv_hlist {es : Es} {ts : List D} {x : α} (h : As cf es env st ts) (hx : enc x = .list ts) (hl : ts.length ≤ 1000 := by exact Nat.le_of_ble_eq_true rfl) : Tv cf (.list es) env st x := by
  have hs : sizeLine = 16777216 := sizeLine_eq
  exact ⟨.new ts, by rw [evX_list, h.1, R.bind_ok, if_pos (by omega)], hx.symm⟩
theorem zv_tup {es : Es} {ts : List D} {x : α} (h : Zs cf es env st ts) (hx : enc x = .tup ts) (hl : ts.length ≤ 1000 := by exact Nat.le_of_ble_eq_true rfl) : Zv cf (.tup es) env st x := by
  obtain ⟨ds, e, h⟩ := h
  have hs : sizeLine = 16777216 := sizeLine_eq
  have hlen : ds.length = ts.length := by
    clear e hx hl
    unfold frzs at h
    induction ds generalizing ts with
    | nil => cases h; rfl
    | cons d ds ih =>
      simp only [mapRefs] at h
      split at h
      · rename_i y ys h1 h2
        cases h
        rw [List.length_cons, List.length_cons, ih h2]
      · cases h
  refine ⟨.v (.tup ds), by rw [evX_tup, e, R.bind_ok, if_pos (by omega)], ?_⟩
  rw [hx]
  exact frz_tup h
theorem frzs_len {ds ts : List D} (h : frzs st ds = some ts) : ds.length = ts.length := by
  unfold frzs at h
  induction ds generalizing ts with
  | nil => cases h; rfl
  | cons d ds ih =>
    simp only [mapRefs] at h
    split at h
    · rename_i y ys h1 h2
      cases h
      rw [List.length_cons, List.length_cons, ih h2]
    · cases h
/-- `in` a tuple that is written out: its things may be cells -/
theorem tv_intupz [DecidableEq α] [Lay α] {n : Nat} [EqE α n] {a : E} {es : Es} {x : α} {ts : List D} (l : List α) [dm : Decidable (x ∈ l)] (ha : Vv cf a env st x) (hb : Zs cf es env st ts) (hl : ts = l.map enc) (hk : ts.length ≤ 1000 := by exact Nat.le_of_ble_eq_true rfl) (hn : n ≤ 62 := by decide) : Tv cf (.cmp .isin a (.tup es)) env st (decide (x ∈ l)) := by
  obtain ⟨v, e1, h1⟩ := ha
  obtain ⟨ds, e2, h2⟩ := hb
  have hs : sizeLine = 16777216 := sizeLine_eq
  have := frzs_len h2
  refine ⟨.v (.bool (decide (x ∈ l))), ?_, rfl⟩
  rw [evX_cmp, e1, R.bind_ok, evX_tup, e2, R.bind_ok, if_pos (by omega), R.bind_ok]
  unfold cmpR cmpV
  show (match inD st v.d (.tup ds) with | some c => R.ok (Val.v (D.bool c)) st | Option.none => R.stuck) = _
  rw [inD_tupz h1 h2 hl hn]
  exact congrArg (fun b => R.ok (Val.v (D.bool b)) st) (decide_eq_decide.mpr Iff.rfl)
theorem tv_notintupz [DecidableEq α] [Lay α] {n : Nat} [EqE α n] {a : E} {es : Es} {x : α} {ts : List D} (l : List α) [dm : Decidable (x ∈ l)] (ha : Vv cf a env st x) (hb : Zs cf es env st ts) (hl : ts = l.map enc) (hk : ts.length ≤ 1000 := by exact Nat.le_of_ble_eq_true rfl) (hn : n ≤ 62 := by decide) : Tv cf (.cmp .notin a (.tup es)) env st (!decide (x ∈ l)) := by
  obtain ⟨v, e1, h1⟩ := ha
  obtain ⟨ds, e2, h2⟩ := hb
  have hs : sizeLine = 16777216 := sizeLine_eq
  have := frzs_len h2
  refine ⟨.v (.bool (!decide (x ∈ l))), ?_, rfl⟩
  rw [evX_cmp, e1, R.bind_ok, evX_tup, e2, R.bind_ok, if_pos (by omega), R.bind_ok]
  unfold cmpR cmpV
  show (match (inD st v.d (.tup ds)).map (!·) with | some c => R.ok (Val.v (D.bool c)) st | Option.none => R.stuck) = _
  rw [inD_tupz h1 h2 hl hn]
  exact congrArg (fun b => R.ok (Val.v (D.bool !b)) st) (decide_eq_decide.mpr Iff.rfl)
/-! ### what is walked -/
theorem iv_seq [Lay α] {e : E} {l : List α} (h : Vv cf e env st l) : Iv cf (.seq e) env st l := by
  obtain ⟨w, e1, h1⟩ := h
  refine ⟨w.d, ?_, ?_⟩
  · rw [evI_seq, e1, R.bind_ok]
    unfold itR
    have : items st w.d = some (l.map enc) := by
      exact h1.rec' (P := fun d => items st d = some (l.map enc)) rfl fun n hn => by
        show seqOf st (.ref n) = _
        rw [seqOf_ref, hn]
    rw [this]
  · exact h1.rec' (P := fun d => stands d (l.map enc) st = true) rfl fun n hn => stands_ref hn (lays l)
def chars (t : Tx) : List Tx := t.cs.map fun c => ⟨[c]⟩
theorem iv_chars {e : E} {t : Tx} (h : Vv cf e env st t) : Iv cf (.seq e) env st (chars t) := by
  obtain ⟨w, e1, h1⟩ := h.t
  have e : (chars t).map enc = signs t.str := by
    unfold chars signs
    have : t.str.cps.toList = t.cs.map Char.toNat := by
      show (t.cs.map Char.toNat).toArray.toList = _
      simp
    rw [this, List.map_map, List.map_map]
    rfl
  refine ⟨w.d, ?_, ?_⟩
  · rw [evI_seq, e1, R.bind_ok, h1, e]
    rfl
  · rw [h1]; rfl
def rng (n : Int) : List Int := rangeI 0 n.toNat
def rng2 (a b : Int) : List Int := rangeI a (b - a).toNat
def RgOk (n : Int) : Prop := n ≤ 16777216 ∧ -(2 ^ 62) ≤ n
def Rg2Ok (i j : Int) : Prop := j - i ≤ 16777216 ∧ -(2 ^ 62) ≤ i ∧ i < 2 ^ 62 ∧ -(2 ^ 62) ≤ j ∧ j < 2 ^ 62
theorem int_v {e : E} {x : Int} (h : Vv cf e env st x) : evX cf e env st = .ok (.v (.int x)) st := by
  obtain ⟨v, e1, h1⟩ := h.t
  cases v with
  | v d =>
    have : d = .int x := h1
    subst this; exact e1
  | new ds => cases h1
theorem iv_range {e : E} {n : Int} (h : Vv cf e env st n) (hn : RgOk n) : Iv cf (.range1 e) env st (rng n) := by
  have hs : sizeLine = 16777216 := sizeLine_eq
  refine ⟨.none, ?_, rfl⟩
  rw [evI_range1, int_v h, R.bind_ok]
  dsimp only
  rw [if_pos ⟨by rw [hs]; exact hn.1, hn.2⟩]
  rfl
theorem iv_range2 {e f : E} {i j : Int} (h : Vv cf e env st i) (h2 : Vv cf f env st j) (hn : Rg2Ok i j) : Iv cf (.range2 e f) env st (rng2 i j) := by
  have hs : sizeLine = 16777216 := sizeLine_eq
  refine ⟨.none, ?_, rfl⟩
  rw [evI_range2, int_v h, R.bind_ok, int_v h2, R.bind_ok]
  dsimp only
  rw [if_pos ⟨by rw [hs]; exact hn.1, hn.2⟩]
  rfl
def zip2 {α β : Type} (l : List α) (m : List β) : List (T2 α β) := List.zipWith (fun x y => ⟨x, y⟩) l m
theorem iv_zip {e f : E} {l : List α} {m : List β} (h : Tv cf e env st l) (h2 : Tv cf f env st m) : Iv cf (.zip e f) env st (zip2 l m) := by
  obtain ⟨v, e1, q1⟩ := h
  obtain ⟨w, e2, q2⟩ := h2
  refine ⟨.none, ?_, rfl⟩
  rw [evI, e1, R.bind_ok, e2, R.bind_ok, q1, q2]
  show R.ok (D.none, List.zipWith (fun x y => D.tup [x, y]) (l.map enc) (m.map enc)) st = _
  congr 2
  unfold zip2
  rw [List.map_zipWith, List.zipWith_map]
  rfl
/-! ### comprehensions -/
section
variable {elt cond : E} {tg : Tg} {it : It} {own : List Nat} {l : List α}
theorem nv_comp (p : α → Bool) (g : α → β) (envOf : α → MP.Env) (hi : Iv cf it env st l) (hz : Sz l) (hb : ∀ x, bindT (wipeE env own) tg (enc x) = some (envOf x))
    (h : ∀ x ∈ l, Vv cf cond (envOf x) st (p x) ∧ (p x = true → Tv cf elt (envOf x) st (g x))) : Nv cf (.comp elt tg it cond own) env st ((l.filter p).map g) := by
  obtain ⟨src, e1, hs⟩ := hi
  unfold Nv
  rw [evX_comp, e1, R.bind_ok]
  dsimp only
  rw [compR_filter p g (e2 := enc) hs hz.le fun x hx => ?_]
  obtain ⟨h1, h2⟩ := h x hx
  unfold turnC
  rw [hb x]
  dsimp only
  rw [bool_of h1, R.bind_ok]
  cases q : p x with
  | false => rfl
  | true =>
    obtain ⟨w, e2, q2⟩ := h2 q
    dsimp only
    rw [e2, R.bind_ok, q2, if_pos rfl]
theorem nv_map (g : α → β) (envOf : α → MP.Env) (hi : Iv cf it env st l) (hz : Sz l) (hb : ∀ x, bindT (wipeE env own) tg (enc x) = some (envOf x))
    (h : ∀ x ∈ l, Tv cf elt (envOf x) st (g x)) : Nv cf (.comp elt tg it (.lit (.bool true)) own) env st (l.map g) := by
  have := nv_comp (cf := cf) (elt := elt) (cond := .lit (.bool true)) (fun _ => true) g envOf hi hz hb fun x hx => ⟨(tv_lit rfl : Tv cf (.lit (.bool true)) (envOf x) st true).v, fun _ => h x hx⟩
  rw [show l.filter (fun _ => true) = l from List.filter_eq_self.mpr fun _ _ => rfl] at this
  exact this
theorem nv_filter {i : Nat} (p : α → Bool) (envOf : α → MP.Env) (hi : Iv cf it env st l) (hz : Sz l) (hb : ∀ x, bindT (wipeE env own) (.one i) (enc x) = some (envOf x)) (he : ∀ x, (envOf x)[i]? = some (some (enc x)))
    (h : ∀ x ∈ l, Vv cf cond (envOf x) st (p x)) : Nv cf (.comp (.var i) (.one i) it cond own) env st (l.filter p) := by
  have := nv_comp (cf := cf) (elt := .var i) (cond := cond) p id envOf hi hz hb fun x hx => ⟨h x hx, fun _ => tv_var (he x)⟩
  simpa using this
theorem nv_copy {i : Nat} (envOf : α → MP.Env) (hi : Iv cf it env st l) (hz : Sz l) (hb : ∀ x, bindT (wipeE env own) (.one i) (enc x) = some (envOf x)) (he : ∀ x, (envOf x)[i]? = some (some (enc x))) : Nv cf (.comp (.var i) (.one i) it (.lit (.bool true)) own) env st l := by
  have := nv_map (cf := cf) (elt := .var i) id envOf hi hz hb fun x hx => tv_var (he x)
  simpa using this
end
/-! ### built-in functions -/
section
variable {f : BI} {a b : E}
theorem bi1_of {x : α} {z : β} (ha : Vv cf a env st x) (h : ∀ d, Fz st d (enc x) → ∃ w, biV f [d] st = .ok w st ∧ w.d = enc z) : Tv cf (.bi f (.cons a .nil)) env st z := by
  obtain ⟨v, e1, h1⟩ := ha
  obtain ⟨w, e2, h2⟩ := h _ h1
  exact ⟨w, by rw [evX_bi, evXs_cons, e1, R.bind_ok, evXs_nil, R.bind_ok, R.bind_ok, e2], h2⟩
theorem bi1n_of {x : α} {z : List β} (ha : Vv cf a env st x) (h : ∀ d, Fz st d (enc x) → biV f [d] st = .ok (.new (z.map enc)) st) : Nv cf (.bi f (.cons a .nil)) env st z := by
  obtain ⟨v, e1, h1⟩ := ha
  unfold Nv
  rw [evX_bi, evXs_cons, e1, R.bind_ok, evXs_nil, R.bind_ok, R.bind_ok, h _ h1]
theorem tv_len {l : List α} (ha : Vv cf a env st l) : Tv cf (.bi .len (.cons a .nil)) env st (len l) :=
  bi1_of ha fun d hd => ⟨.v (.int l.length), by
    exact hd.rec' (P := fun d => biV .len [d] st = R.ok (.v (.int l.length)) st) (len_eL (f := enc)) fun n hn => by
      rw [bi_len, len_ref hn, List.length_map], rfl⟩
theorem tv_lens {l : Sc} (ha : Vv cf a env st l) : Tv cf (.bi .len (.cons a .nil)) env st (len l.ns) :=
  bi1_of ha fun d hd => ⟨.v (.int l.ns.length), by rw [hd.ns]; exact len_scr _, rfl⟩
theorem tv_lent {t : Tx} (ha : Vv cf a env st t) (hz : Sz t.cs) : Tv cf (.bi .len (.cons a .nil)) env st t.len :=
  bi1_of ha fun d hd => ⟨.v (.int t.cs.length), by
    rw [hd.ns]
    have := len_str (st := st) (z := t.str) (by rw [Tx.length]; exact hz.le)
    rw [Tx.length] at this
    exact this, rfl⟩
theorem nv_listOf {l : List α} (ha : Vv cf a env st l) : Nv cf (.bi .listOf (.cons a .nil)) env st l :=
  bi1n_of ha fun d hd => hd.rec' (P := fun d => biV .listOf [d] st = R.ok (.new (l.map enc)) st) (bi_list_eL (enc := enc)) fun n hn => bi_list_ref hn
theorem nv_range {n : Int} (ha : Vv cf a env st n) (hn : RgOk n) : Nv cf (.bi .range1 (.cons a .nil)) env st (rng n) :=
  bi1n_of ha fun d hd => by
    have hs : sizeLine = 16777216 := sizeLine_eq
    rw [hd.ns]
    show (if n ≤ sizeLine ∧ -(2 ^ 62) ≤ n then R.ok (Val.new ((rangeI 0 n.toNat).map D.int)) st else R.stuck) = _
    rw [if_pos ⟨by rw [hs]; exact hn.1, hn.2⟩]
    rfl
theorem ints_of {l : List Int} {d : D} (h : Fz st d (enc l)) (g : List Int → R Val) : onInts d st g = g l := by
  unfold onInts
  rw [h.list]
  dsimp only
  have : (l.map (enc : Int → D)) = l.map D.int := rfl
  rw [this, intsOf_map]
theorem bools_of {l : List Bool} {d : D} (h : Fz st d (enc l)) (g : List Bool → R Val) : onBools d st g = g l := by
  unfold onBools
  rw [h.list]
  dsimp only
  have : (l.map (enc : Bool → D)) = l.map D.bool := rfl
  rw [this, boolsOf_map]
theorem nv_sorted {l : List Int} (ha : Vv cf a env st l) (hz : l.length < 64) : Nv cf (.bi .sorted (.cons a .nil)) env st (sortI l) :=
  bi1n_of ha fun d hd => by
    show onInts d st _ = _
    rw [ints_of hd, if_pos hz]; rfl
theorem tv_sum {l : List Int} (ha : Vv cf a env st l) : Tv cf (.bi .sum (.cons a .nil)) env st l.sum :=
  bi1_of ha fun d hd => ⟨.v (.int l.sum), by show onInts d st _ = _; rw [ints_of hd], rfl⟩
theorem tv_all {l : List Bool} (ha : Vv cf a env st l) : Tv cf (.bi .all (.cons a .nil)) env st (l.all id) :=
  bi1_of ha fun d hd => ⟨.v (.bool (l.all id)), by show onBools d st _ = _; rw [bools_of hd], rfl⟩
theorem tv_any {l : List Bool} (ha : Vv cf a env st l) : Tv cf (.bi .any (.cons a .nil)) env st (l.any id) :=
  bi1_of ha fun d hd => ⟨.v (.bool (l.any id)), by show onBools d st _ = _; rw [bools_of hd], rfl⟩
theorem tv_allm {γ : Type} {l : List γ} {p : γ → Bool} (ha : Vv cf a env st (l.map p)) : Tv cf (.bi .all (.cons a .nil)) env st (l.all p) := by
  have := tv_all ha
  rw [List.all_map] at this
  exact this
theorem tv_anym {γ : Type} {l : List γ} {p : γ → Bool} (ha : Vv cf a env st (l.map p)) : Tv cf (.bi .any (.cons a .nil)) env st (l.any p) := by
  have := tv_any ha
  rw [List.any_map] at this
  exact this
theorem tv_maxl {l : List Int} (ha : Vv cf a env st l) (h : 0 < l.length) : Tv cf (.bi .maxL (.cons a .nil)) env st (maxI l) :=
  bi1_of ha fun d hd => ⟨.v (.int (maxI l)), by show onInts d st _ = _; rw [ints_of hd, if_pos h], rfl⟩
theorem tv_minl {l : List Int} (ha : Vv cf a env st l) (h : 0 < l.length) : Tv cf (.bi .minL (.cons a .nil)) env st (minI l) :=
  bi1_of ha fun d hd => ⟨.v (.int (minI l)), by show onInts d st _ = _; rw [ints_of hd, if_pos h], rfl⟩
def boolI (b : Bool) : Int := if b = true then 1 else 0
theorem tv_intb {x : Bool} (ha : Vv cf a env st x) : Tv cf (.bi .toInt (.cons a .nil)) env st (boolI x) :=
  bi1_of ha fun d hd => ⟨.v (.int (boolI x)), by rw [hd.ns]; rfl, rfl⟩
def max2 (x y : Int) : Int := if y > x then y else x
theorem tv_max2 {x y : Int} (ha : Vv cf a env st x) (hb : Vv cf b env st y) : Tv cf (.bi .max2 (.cons a (.cons b .nil))) env st (max2 x y) :=
  ⟨.v (.int (max2 x y)), by rw [evX_bi, evXs_cons, int_v ha, R.bind_ok, evXs_cons, int_v hb, R.bind_ok, evXs_nil, R.bind_ok, R.bind_ok, R.bind_ok]; rfl, rfl⟩
theorem tv_isinst {T : String} {x : α} {c : Bool} (ha : Vv cf a env st x) (h : ∀ d, Fz st d (enc x) → ∃ t, tyOf st d = some t ∧ isinstT T t = c) : Tv cf (.bi (.isinst T) (.cons a .nil)) env st c :=
  bi1_of ha fun d hd => ⟨.v (.bool c), by
    obtain ⟨t, h1, h2⟩ := h d hd
    show (match tyOf st d with
      | some t => R.ok (Val.v (.bool (isinstT T t))) st
      | Option.none => R.stuck) = _
    rw [h1]
    dsimp only
    rw [h2], rfl⟩
theorem ty_list {l : List α} (d : D) (h : Fz st d (enc l)) : tyOf st d = some "list" :=
  h.rec' (P := fun d => tyOf st d = some "list") rfl fun n hn => by
    show (match st[n]? with
      | some (.lst _) => some "list"
      | _ => Option.none) = _
    rw [hn]
end
/-! ### methods that change nothing -/
theorem tv_index [DecidableEq α] [Lay α] {n : Nat} [EqE α n] {a b : E} {l : List α} {x : α} (ha : Vv cf a env st l) (hb : Vv cf b env st x) (h : x ∈ l) (hn : n ≤ 62 := by decide) : Tv cf (.mt .index a (.cons b .nil)) env st ((l.idxOf x : Nat) : Int) := by
  obtain ⟨v, e1, h1⟩ := ha
  obtain ⟨w, e2, h2⟩ := hb
  refine ⟨.v (.int (l.idxOf x : Nat)), ?_, rfl⟩
  rw [evX_mt, e1, R.bind_ok, if_pos (by show (listOf st v.d).isSome = true; rw [h1.list]; rfl), evXs_cons, e2, R.bind_ok, evXs_nil, R.bind_ok, R.bind_ok]
  show indexV v.d w.d st = _
  unfold indexV
  rw [h1.frz (Enc.nr l), h2.frz (Enc.nr x)]
  show (if (enc x).shp && (enc l).shp then (match (l.map enc).findIdx? (fun z => eqD z (enc x)) with
    | some j => R.ok (Val.v (.int j)) st
    | Option.none => R.stuck) else R.stuck) = _
  rw [shp_of x (by omega), shp_of l (by omega)]
  have key : (l.map enc).findIdx? (fun z => eqD z (enc x)) = some (l.idxOf x) := by
    rw [List.findIdx?_map]
    have : ((fun z => eqD z (enc x)) ∘ enc) = fun z : α => z == x := by
      funext z
      show eqD (enc z) (enc x) = _
      rw [EqE.eq]
      rfl
    rw [this]
    have h2 : l.idxOf x < l.length := List.idxOf_lt_length_of_mem h
    unfold List.idxOf at h2 ⊢
    exact List.findIdx?_eq_some_iff_findIdx_eq.mpr ⟨h2, rfl⟩
  rw [key]
  rfl
/-! ### calls -/
theorem tv_call {f : Nat} {es : Es} {ts : List D} {x : α} (h : As cf es env st ts) (hf : Okp cf f ts x) : Tv cf (.call f es) env st x := by
  obtain ⟨d, st', e, hd⟩ := hf
  refine ⟨.v (enc x), ?_, rfl⟩
  rw [evX_call, h.1, R.bind_ok]
  unfold callP
  rw [frzs_of h.2]
  dsimp only
  rw [e]
  dsimp only
  rw [h.2, Bool.true_or, Bool.true_or, if_pos rfl, hd]
/-- a call with cells, whose answer is no list and no tuple -/
theorem tv_callz [Fl α] {f : Nat} {es : Es} {ts : List D} {x : α} (h : Zs cf es env st ts) (hf : Okp cf f ts x) : Tv cf (.call f es) env st x := by
  obtain ⟨ds, e1, h1⟩ := h
  obtain ⟨d, st', e, hd⟩ := hf
  have hfd : flatD d = true := by
    have h0 := Fl.fl x
    unfold frz at hd
    cases d with
    | none => rfl
    | bool _ => rfl
    | int _ => rfl
    | str _ => rfl
    | scr _ =>
      simp only [D.mapRef, Option.some.injEq] at hd
      rw [← hd] at h0; exact h0
    | ref n =>
      have hd : readN st'.length st' n = some (enc x) := hd
      cases hk : st'.length with
      | zero => rw [hk] at hd; cases hd
      | succ k =>
        rw [hk] at hd
        simp only [readN] at hd
        split at hd <;> (try split at hd) <;> first | (cases hd; done) | (have hd := Option.some.inj hd; rw [← hd] at h0; cases h0)
    | list xs => simp only [D.mapRef] at hd; split at hd <;> first | (cases hd; done) | (have hd := Option.some.inj hd; rw [← hd] at h0; cases h0)
    | tup xs => simp only [D.mapRef] at hd; split at hd <;> first | (cases hd; done) | (have hd := Option.some.inj hd; rw [← hd] at h0; cases h0)
    | dk _ xs => simp only [D.mapRef] at hd; split at hd <;> first | (cases hd; done) | (have hd := Option.some.inj hd; rw [← hd] at h0; cases h0)
    | dt _ xs => simp only [D.mapRef] at hd; split at hd <;> first | (cases hd; done) | (have hd := Option.some.inj hd; rw [← hd] at h0; cases h0)
  refine ⟨.v (enc x), ?_, rfl⟩
  rw [evX_call, e1, R.bind_ok]
  unfold callP
  rw [h1]
  dsimp only
  rw [e]
  dsimp only
  rw [hfd, Bool.or_true, Bool.true_or, if_pos rfl, hd]
theorem tv_calln {f : Nat} {es : Es} {ts : List D} {x : α} (h : Zs cf es env st ts) (hf : Okn cf f ts x) : Tv cf (.call f es) env st x := by
  obtain ⟨ds, e1, h1⟩ := h
  obtain ⟨d, st', e, hd, n1, n2⟩ := hf
  refine ⟨.v (enc x), ?_, rfl⟩
  rw [evX_call, e1, R.bind_ok]
  unfold callP
  rw [h1]
  dsimp only
  rw [e]
  dsimp only
  rw [n1, n2, Bool.and_self, Bool.or_true, if_pos rfl, hd]
theorem Okn.p {f : Nat} {ts : List D} {x : α} (h : Okn cf f ts x) : Okp cf f ts x := by
  obtain ⟨d, st', e, hd, _, _⟩ := h
  exact ⟨d, st', e, hd⟩
end MP

/-! The typed layer: statements. -/
namespace MP
open PySem PySem.Spec PyProof.Rows L2
open Enc (enc)
variable {α β γ δ σ : Type} [Enc α] [Enc β] [Enc γ] [Enc δ] {cf : CF} {env : MP.Env} {st : Sto}
def Wp (cf : CF) (ss : List S) (env : MP.Env) (st : Sto) (Q : MP.X → Prop) : Prop := Q (exL cf ss env st)
/-- a def's end -/
def QR (x : α) (r : MP.X) : Prop := ∃ d st', endR r = .ok d st' ∧ frz st' d = some (enc x)
def QRn (x : α) (r : MP.X) : Prop := ∃ d st', endR r = .ok d st' ∧ frz st' d = some (enc x) ∧ d.nolist = true ∧ st'.all Cell.nolist = true
def QE (x : Except Str α) (r : MP.X) : Prop := match x with
  | .ok x => QR x r
  | .error c => ∃ st', endR r = .err c st'
/-- a block's end: it goes on, with some states -/
def QB (P : σ → MP.Env → Sto → Prop) (s : σ) (r : MP.X) : Prop := ∃ env' st', r = .nx env' st' ∧ P s env' st'
/-- a turn's end -/
def QT (trim : Bool) (n : Nat) (tmp : List Nat) (P : σ → MP.Env → Sto → Prop) (s : σ) (r : MP.X) : Prop := ∃ env' st' env2 st2, r = .nx env' st' ∧ fin trim n tmp env' st' = some (env2, st2) ∧ P s env2 st2
/-- what a block comes to: a value handed back, or a state -/
inductive Out (ρ σ : Type) where
  | rt (x : ρ)
  | nx (s : σ)
/-- a value handed back; or a refusal -/
def RV (x : α) (r : MP.X) : Prop := ∃ d st', r = .rt d st' ∧ frz st' d = some (enc x)
def RVn (x : α) (r : MP.X) : Prop := ∃ d st', r = .rt d st' ∧ frz st' d = some (enc x) ∧ d.nolist = true ∧ st'.all Cell.nolist = true
def RE (x : Except Str α) (r : MP.X) : Prop := match x with
  | .ok x => RV x r
  | .error c => ∃ env' st', r = .err c env' st'
def QO {ρ : Type} (R : ρ → MP.X → Prop) (P : σ → MP.Env → Sto → Prop) (o : Out ρ σ) (r : MP.X) : Prop := match o with
  | .rt x => R x r
  | .nx s => QB P s r
def QOT {ρ : Type} (R : ρ → MP.X → Prop) (trim : Bool) (n : Nat) (tmp : List Nat) (P : σ → MP.Env → Sto → Prop) (o : Out ρ σ) (r : MP.X) : Prop := match o with
  | .rt x => R x r
  | .nx s => QT trim n tmp P s r
/-- what ends a def ends a block -/
def Stop (r : MP.X) : Prop := ∀ f, sqX r f = r
theorem rv_q {x : α} {r : MP.X} (h : RV x r) : Stop r ∧ QR x r := by
  obtain ⟨d, st', rfl, h⟩ := h
  exact ⟨fun _ => rfl, d, st', rfl, h⟩
theorem rvn_q {x : α} {r : MP.X} (h : RVn x r) : Stop r ∧ QRn x r := by
  obtain ⟨d, st', rfl, h⟩ := h
  exact ⟨fun _ => rfl, d, st', rfl, h⟩
theorem re_q {x : Except Str α} {r : MP.X} (h : RE x r) : Stop r ∧ QE x r := by
  cases x with
  | ok x => exact rv_q h
  | error c =>
    obtain ⟨env', st', rfl⟩ := h
    exact ⟨fun _ => rfl, st', rfl⟩
theorem rv_s {x : α} {r : MP.X} (h : RV x r) : Stop r := (rv_q h).1
theorem rvn_s {x : α} {r : MP.X} (h : RVn x r) : Stop r := (rvn_q h).1
theorem re_s {x : Except Str α} {r : MP.X} (h : RE x r) : Stop r := (re_q h).1
theorem okp_of {T : Nat → Option Def} {k f : Nat} {d : Def} {ts : List D} {x : α} (h : T f = some d) (hl : ts.length = d.pars.length) (hw : Wp (run T k) d.body (ts.map some ++ List.replicate (d.locs.length - ts.length) Option.none) [] (QR x)) : Okp (run T (k + 1)) f ts x := by
  obtain ⟨d', st', e, hd⟩ := hw
  exact ⟨d', st', by rw [run_at h hl]; exact e, hd⟩
theorem okn_of {T : Nat → Option Def} {k f : Nat} {d : Def} {ts : List D} {x : α} (h : T f = some d) (hl : ts.length = d.pars.length) (hw : Wp (run T k) d.body (ts.map some ++ List.replicate (d.locs.length - ts.length) Option.none) [] (QRn x)) : Okn (run T (k + 1)) f ts x := by
  obtain ⟨d', st', e, hd⟩ := hw
  exact ⟨d', st', by rw [run_at h hl]; exact e, hd⟩
theorem oke_of {T : Nat → Option Def} {k f : Nat} {d : Def} {ts : List D} {x : Except Str α} (h : T f = some d) (hl : ts.length = d.pars.length) (hw : Wp (run T k) d.body (ts.map some ++ List.replicate (d.locs.length - ts.length) Option.none) [] (QE x)) : Oke (run T (k + 1)) f ts x := by
  cases x with
  | ok x => exact okp_of h hl hw
  | error c =>
    obtain ⟨st', e⟩ := hw
    exact ⟨st', by rw [run_at h hl]; exact e⟩
section
variable {Q : MP.X → Prop} {rest : List S}
theorem wp_nil (h : Q (.nx env st)) : Wp cf [] env st Q := by
  show Q (exL cf [] env st)
  rw [exL_nil]; exact h
theorem wp_step {s : S} {env' : MP.Env} {st' : Sto} (h : exS cf s env st = .nx env' st') (hr : Wp cf rest env' st' Q) : Wp cf (s :: rest) env st Q := by
  show Q (exL cf (s :: rest) env st)
  rw [exL_cons, h, sqX_nx]; exact hr
theorem wp_set {i : Nat} {e : E} {x : α} (h : Tv cf e env st x) (hr : Wp cf rest (env.set i (some (enc x))) st Q) : Wp cf (.set i e :: rest) env st Q := by
  obtain ⟨w, e1, h1⟩ := h
  refine wp_step ?_ hr
  rw [exS_set, evE_eq, e1, R.bind_ok, R.toX_ok, h1]
theorem wp_cell {i : Nat} {e : E} {l : List α} (h : Nv cf e env st l) (hr : Wp cf rest (env.set i (some (.ref st.length))) (st ++ [.lst (l.map enc)]) Q) : Wp cf (.set i (.cell e) :: rest) env st Q := by
  refine wp_step ?_ hr
  have h : evX cf e env st = .ok (.new (l.map enc)) st := h
  rw [exS_set, evE_eq, evX_cell, h, R.bind_ok, cellR_new, R.bind_ok, R.toX_ok]
  rfl
theorem unR_2 {i j : Nat} {e : E} {x : T2 α β} (h : Tv cf e env st x) (hr : Wp cf rest ((env.set i (some (enc x.a))).set j (some (enc x.b))) st Q) : Wp cf (.unpack [i, j] e :: rest) env st Q := by
  obtain ⟨w, e1, h1⟩ := h
  refine wp_step ?_ hr
  rw [exS_unpack, evE_eq, e1, R.bind_ok, R.toX_ok, h1]
  rfl
theorem unR_3 {i j k : Nat} {e : E} {x : T3 α β γ} (h : Tv cf e env st x) (hr : Wp cf rest (((env.set i (some (enc x.a))).set j (some (enc x.b))).set k (some (enc x.c))) st Q) : Wp cf (.unpack [i, j, k] e :: rest) env st Q := by
  obtain ⟨w, e1, h1⟩ := h
  refine wp_step ?_ hr
  rw [exS_unpack, evE_eq, e1, R.bind_ok, R.toX_ok, h1]
  rfl
theorem unR_4 {i j k m : Nat} {e : E} {x : T4 α β γ δ} (h : Tv cf e env st x) (hr : Wp cf rest ((((env.set i (some (enc x.a))).set j (some (enc x.b))).set k (some (enc x.c))).set m (some (enc x.d))) st Q) : Wp cf (.unpack [i, j, k, m] e :: rest) env st Q := by
  obtain ⟨w, e1, h1⟩ := h
  refine wp_step ?_ hr
  rw [exS_unpack, evE_eq, e1, R.bind_ok, R.toX_ok, h1]
  rfl
theorem wp_par2 {i j : Nat} {a b : E} {x : α} {y : β} (h : Tv cf a env st x) (h2 : Tv cf b env st y) (hr : Wp cf rest ((env.set i (some (enc x))).set j (some (enc y))) st Q) : Wp cf (.par2 i j a b :: rest) env st Q := by
  obtain ⟨w, e1, h1⟩ := h
  obtain ⟨v, e2, h2⟩ := h2
  refine wp_step ?_ hr
  rw [exS_par2, evE_eq, e1, R.bind_ok, R.toX_ok, evE_eq, e2, R.bind_ok, R.toX_ok, h1, h2]
theorem wp_expr {e : E} {x : α} (h : Tv cf e env st x) (hr : Wp cf rest env st Q) : Wp cf (.expr e :: rest) env st Q := by
  obtain ⟨w, e1, h1⟩ := h
  refine wp_step ?_ hr
  rw [exS_expr, evE_eq, e1, R.bind_ok, R.toX_ok]
/-! a call that may raise -/
theorem callP_err {f : Nat} {es : Es} {ts : List D} {c : Str} (h : As cf es env st ts) (hf : ∃ st', cf f ts [] = .err c st') : evX cf (.call f es) env st = .err c st := by
  obtain ⟨st', e⟩ := hf
  rw [evX_call, h.1, R.bind_ok]
  unfold callP
  rw [frzs_of h.2]
  dsimp only
  rw [e]
theorem callP_ern {f : Nat} {es : Es} {ts : List D} {c : Str} (h : Zs cf es env st ts) (hf : ∃ st', cf f ts [] = .err c st') : evX cf (.call f es) env st = .err c st := by
  obtain ⟨st', e⟩ := hf
  obtain ⟨ds, e1, h1⟩ := h
  rw [evX_call, e1, R.bind_ok]
  unfold callP
  rw [h1]
  dsimp only
  rw [e]
def QXe (c : Str) (x : MP.X) : Prop := ∃ env' st', x = .err c env' st'
theorem wp_er {s : S} {c : Str} (h : ∃ env' st', exS cf s env st = .err c env' st') (hq : ∀ env' st', Q (.err c env' st')) : Wp cf (s :: rest) env st Q := by
  obtain ⟨env', st', e⟩ := h
  show Q (exL cf (s :: rest) env st)
  rw [exL_cons, e, sqX_err]; exact hq _ _
def els {α ρ : Type} (m : Except Str α) (h : Str → ρ) (f : α → ρ) : ρ := match m with
  | .ok x => f x
  | .error c => h c
/-- a call for its refusal -/
theorem wp_ask {ρ : Type} (R : ρ → MP.X → Prop) {f : Nat} {es : Es} {ts : List D} {m : Except Str α} {hh : Str → ρ} {v : α → ρ} (hR : ∀ c env' st', R (hh c) (.err c env' st')) (h : As cf es env st ts) (hf : Oke cf f ts m) (hr : ∀ x, m = .ok x → Wp cf rest env st (R (v x))) :
    Wp cf (.expr (.call f es) :: rest) env st (R (els m hh v)) := by
  cases m with
  | ok x => exact wp_expr (tv_call h hf) (hr x rfl)
  | error c =>
    refine wp_er ⟨env, st, ?_⟩ fun env' st' => hR c env' st'
    rw [exS_expr, evE_eq, callP_err h hf]; rfl
theorem wp_setask {ρ : Type} (R : ρ → MP.X → Prop) {i f : Nat} {es : Es} {ts : List D} {m : Except Str α} {hh : Str → ρ} {v : α → ρ} (hR : ∀ c env' st', R (hh c) (.err c env' st')) (h : As cf es env st ts) (hf : Oke cf f ts m) (hr : ∀ x, m = .ok x → Wp cf rest (env.set i (some (enc x))) st (R (v x))) :
    Wp cf (.set i (.call f es) :: rest) env st (R (els m hh v)) := by
  cases m with
  | ok x => exact wp_set (tv_call h hf) (hr x rfl)
  | error c =>
    refine wp_er ⟨env, st, ?_⟩ fun env' st' => hR c env' st'
    rw [exS_set, evE_eq, callP_err h hf]; rfl
theorem wp_retask {f : Nat} {es : Es} {ts : List D} {m : Except Str α} (h : As cf es env st ts) (hf : Oke cf f ts m) : Wp cf (.ret (.call f es) :: rest) env st (QE m) := by
  cases m with
  | ok x =>
    obtain ⟨w, e1, h1⟩ := tv_call h hf
    refine ⟨w.d, st, ?_, by rw [h1]; exact frz_of (Enc.nr x)⟩
    show endR (exL cf (.ret _ :: rest) env st) = _
    rw [exL_cons, exS_ret, evE_eq, e1]; rfl
  | error c =>
    refine ⟨st, ?_⟩
    show endR (exL cf (.ret _ :: rest) env st) = _
    rw [exL_cons, exS_ret, evE_eq, callP_err h hf]; rfl
theorem QE_er {c : Str} {env' : MP.Env} {st' : Sto} : QE (α := α) (.error c) (.err c env' st') := ⟨st', rfl⟩
theorem QO_er {P : σ → MP.Env → Sto → Prop} {c : Str} {env' : MP.Env} {st' : Sto} : QO (RE (α := α)) P (.rt (.error c)) (.err c env' st') := ⟨env', st', rfl⟩
theorem QOT_er {P : σ → MP.Env → Sto → Prop} {trim : Bool} {n : Nat} {tmp : List Nat} {c : Str} {env' : MP.Env} {st' : Sto} : QOT (RE (α := α)) trim n tmp P (.rt (.error c)) (.err c env' st') := ⟨env', st', rfl⟩
theorem wp_raise {c : Str} (h : Q (.err c env st)) : Wp cf (.raise c :: rest) env st Q := by
  show Q (exL cf (.raise c :: rest) env st)
  rw [exL_cons, exS_raise]; exact h
/-- a call that is known to be let by -/
def isOk {α : Type} (m : Except Str α) : Prop := ∃ x, m = .ok x
def okv {α : Type} [Inhabited α] (m : Except Str α) : α := match m with
  | .ok x => x
  | .error _ => default
theorem oke_ok [Inhabited α] {f : Nat} {ts : List D} {m : Except Str α} (h : Oke cf f ts m) (hm : isOk m) : Okp cf f ts (okv m) := by
  obtain ⟨x, rfl⟩ := hm
  exact h
/-! returns -/
theorem ret_ev {e : E} {x : α} (h : Zv cf e env st x) : ∃ d, exL cf (.ret e :: rest) env st = .rt d st ∧ frz st d = some (enc x) := by
  obtain ⟨w, e1, h1⟩ := h
  exact ⟨w.d, by rw [exL_cons, exS_ret, evE_eq, e1]; rfl, h1⟩
theorem wp_ret {e : E} {x : α} (h : Zv cf e env st x) : Wp cf (.ret e :: rest) env st (QR x) := by
  obtain ⟨d, e1, h1⟩ := ret_ev (rest := rest) h
  exact ⟨d, st, by rw [e1]; rfl, h1⟩
theorem wp_retn [NL α] {e : E} {x : α} (h : Tv cf e env st x) (hs : st.all Cell.nolist = true) : Wp cf (.ret e :: rest) env st (QRn x) := by
  obtain ⟨w, e1, h1⟩ := h
  have : exL cf (.ret e :: rest) env st = .rt w.d st := by rw [exL_cons, exS_ret, evE_eq, e1]; rfl
  exact ⟨w.d, st, by rw [this]; rfl, by rw [h1]; exact frz_of (Enc.nr x), by rw [h1]; exact NL.nl x, hs⟩
/-- a cell of flat things is handed back -/
theorem wp_retc [NL α] {i n : Nat} {x : List α} (h : env[i]? = some (some (.ref n))) (h2 : st[n]? = some (.lst (x.map enc))) (hs : st.all Cell.nolist = true) : Wp cf (.ret (.var i) :: rest) env st (QRn x) := by
  have : exL cf (.ret (.var i) :: rest) env st = .rt (.ref n) st := by rw [exL_cons, exS_ret, evE_eq, evX_var, h]; rfl
  exact ⟨.ref n, st, by rw [this]; rfl, frz_ref h2 (nrs x), rfl, hs⟩
theorem wp_rete {e : E} {x : α} (h : Zv cf e env st x) : Wp cf (.ret e :: rest) env st (QE (.ok x)) := wp_ret h
theorem wp_rv {e : E} {x : α} (h : Zv cf e env st x) : Wp cf (.ret e :: rest) env st (RV x) := by
  obtain ⟨d, e1, h1⟩ := ret_ev (rest := rest) h
  exact ⟨d, st, e1, h1⟩
theorem wp_rvn [NL α] {e : E} {x : α} (h : Tv cf e env st x) (hs : st.all Cell.nolist = true) : Wp cf (.ret e :: rest) env st (RVn x) := by
  obtain ⟨w, e1, h1⟩ := h
  have : exL cf (.ret e :: rest) env st = .rt w.d st := by rw [exL_cons, exS_ret, evE_eq, e1]; rfl
  exact ⟨w.d, st, this, by rw [h1]; exact frz_of (Enc.nr x), by rw [h1]; exact NL.nl x, hs⟩
theorem wp_qo {ρ : Type} {R : ρ → MP.X → Prop} {P : σ → MP.Env → Sto → Prop} {ss : List S} {x : ρ} (h : Wp cf ss env st (R x)) : Wp cf ss env st (QO R P (.rt x)) := h
theorem wp_qot {ρ : Type} {R : ρ → MP.X → Prop} {trim : Bool} {n : Nat} {tmp : List Nat} {P : σ → MP.Env → Sto → Prop} {ss : List S} {x : ρ} (h : Wp cf ss env st (R x)) : Wp cf ss env st (QOT R trim n tmp P (.rt x)) := h
theorem wp_re {e : E} {x : α} (h : Zv cf e env st x) : Wp cf (.ret e :: rest) env st (RE (.ok x)) := wp_rv h
theorem wp_rvN : Wp cf (.retN :: rest) env st (RV ()) := by
  refine ⟨.none, st, ?_, rfl⟩
  rw [exL_cons, exS_retN]; rfl
theorem wp_reN : Wp cf (.retN :: rest) env st (RE (.ok ())) := wp_rvN
theorem wp_retN : Wp cf (.retN :: rest) env st (QR ()) := by
  refine ⟨.none, st, ?_, rfl⟩
  show endR (exL cf (.retN :: rest) env st) = _
  rw [exL_cons, exS_retN]; rfl
theorem wp_retNe : Wp cf (.retN :: rest) env st (QE (.ok ())) := wp_retN
theorem wp_end : Wp cf [] env st (QR ()) := by
  refine ⟨.none, st, ?_, rfl⟩
  show endR (exL cf [] env st) = _
  rw [exL_nil]; rfl
theorem wp_endn (hs : st.all Cell.nolist = true) : Wp cf [] env st (QRn ()) := by
  refine ⟨.none, st, ?_, rfl, rfl, hs⟩
  show endR (exL cf [] env st) = _
  rw [exL_nil]; rfl
theorem wp_ende : Wp cf [] env st (QE (.ok ())) := wp_end
theorem wp_retNn (hs : st.all Cell.nolist = true) : Wp cf (.retN :: rest) env st (QRn ()) := by
  refine ⟨.none, st, ?_, rfl, rfl, hs⟩
  show endR (exL cf (.retN :: rest) env st) = _
  rw [exL_cons, exS_retN]; rfl
/-! branches -/
theorem exL_app (a b : List S) : exL cf (a ++ b) env st = sqX (exL cf a env st) fun env st => exL cf b env st := by
  induction a generalizing env st with
  | nil => rw [List.nil_append, exL_nil, sqX_nx]
  | cons s r ih =>
    rw [List.cons_append, exL_cons, exL_cons]
    cases exS cf s env st with
    | nx env' st' => rw [sqX_nx, sqX_nx, ih]
    | rt d st' => rfl
    | err c env' st' => rfl
    | stuck => rfl
theorem exS_ife_b {c : E} {a b : List S} {x : Bool} (hc : Vv cf c env st x) : exS cf (.ife c a b) env st = if x = true then exL cf a env st else exL cf b env st := by
  rw [exS_ife, evE_eq, bool_of hc, R.bind_ok, R.toX_ok]
  exact ifR_b ..
theorem wp_if {ρ : Type} (R : ρ → MP.X → Prop) {c : E} {a b : List S} {x : Bool} {u v : ρ} (hc : Vv cf c env st x) (ha : x = true → Wp cf (a ++ rest) env st (R u)) (hb : x = false → Wp cf (b ++ rest) env st (R v)) :
    Wp cf (.ife c a b :: rest) env st (R (if x = true then u else v)) := by
  have e : exL cf (.ife c a b :: rest) env st = if x = true then exL cf (a ++ rest) env st else exL cf (b ++ rest) env st := by
    rw [exL_cons, exS_ife_b hc, exL_app, exL_app]
    cases x <;> rfl
  show R _ (exL cf (.ife c a b :: rest) env st)
  rw [e]
  cases x with
  | true => exact ha rfl
  | false => exact hb rfl
/-- both branches go on -/
theorem wp_join {c : E} {a b : List S} {x : Bool} {u v : σ} (P : σ → MP.Env → Sto → Prop) (hc : Vv cf c env st x) (ha : x = true → Wp cf a env st (QB P u)) (hb : x = false → Wp cf b env st (QB P v))
    (hr : ∀ env' st', P (if x = true then u else v) env' st' → Wp cf rest env' st' Q) : Wp cf (.ife c a b :: rest) env st Q := by
  have key : ∃ env' st', exS cf (.ife c a b) env st = .nx env' st' ∧ P (if x = true then u else v) env' st' := by
    rw [exS_ife_b hc]
    cases x with
    | true => exact ha rfl
    | false => exact hb rfl
  obtain ⟨env', st', e, hp⟩ := key
  exact wp_step e (hr _ _ hp)
/-- a block that may hand back or go on, then the rest -/
def Out.then {ρ σ τ : Type} (o : Out ρ σ) (f : ρ → τ) (g : σ → τ) : τ := match o with
  | .rt x => f x
  | .nx s => g s
theorem wp_jout {ρ τ : Type} (R0 : ρ → MP.X → Prop) (R : τ → MP.X → Prop) {c : E} {a b : List S} {x : Bool} {u v : Out ρ σ} {f : ρ → τ} {g : σ → τ} (P : σ → MP.Env → Sto → Prop) (hc : Vv cf c env st x) (ha : x = true → Wp cf a env st (QO R0 P u)) (hb : x = false → Wp cf b env st (QO R0 P v))
    (hf : ∀ y r, R0 y r → Stop r ∧ R (f y) r)
    (hr : ∀ s env' st', P s env' st' → Wp cf rest env' st' (R (g s))) : Wp cf (.ife c a b :: rest) env st (R ((if x = true then u else v).then f g)) := by
  have key : QO R0 P (if x = true then u else v) (exS cf (.ife c a b) env st) := by
    rw [exS_ife_b hc]
    cases x with
    | true => exact ha rfl
    | false => exact hb rfl
  show R _ (exL cf (.ife c a b :: rest) env st)
  rw [exL_cons]
  generalize (if x = true then u else v) = o at key ⊢
  cases o with
  | rt y =>
    obtain ⟨h1, h2⟩ := hf y _ key
    rw [h1]
    exact h2
  | nx s =>
    obtain ⟨env', st', e, q⟩ := key
    rw [e, sqX_nx]
    exact hr s env' st' q
/-! a list that is changed -/
theorem exS_expr_ok {e : E} {w : Val} {st' : Sto} (h : evX cf e env st = .ok w st') : exS cf (.expr e) env st = .nx env st' := by
  rw [exS_expr, evE_eq, h, R.bind_ok, R.toX_ok]
theorem wp_append {i n : Nat} {e : E} {l : List α} {x : α} (hv : env[i]? = some (some (.ref n))) (hn : st[n]? = some (.lst (l.map enc))) (h : Tv cf e env st x) (hz : Sz1 l) (hr : Wp cf rest env (st.set n (.lst ((l ++ [x]).map enc))) Q) :
    Wp cf (.expr (.mt .append (.var i) (.cons e .nil)) :: rest) env st Q := by
  obtain ⟨w, e1, h1⟩ := h
  refine wp_step (exS_expr_ok (w := .v .none) (st' := st.set n (.lst ((l ++ [x]).map enc))) ?_) hr
  have hs : sizeLine = 16777216 := sizeLine_eq
  rw [evX_mt, evX_var, hv]
  dsimp only
  rw [R.bind_ok, if_pos (by show (listOf st (.ref n)).isSome = true; rw [listOf_ref, hn]; rfl), evXs_cons, e1, R.bind_ok, evXs_nil, R.bind_ok, R.bind_ok]
  show mtV .append (.ref n) [w.d] st = _
  rw [mt_append, hn]
  dsimp only
  rw [if_pos (by rw [List.length_map, hs]; exact hz), h1, List.map_append]
  rfl
theorem wp_extend {i n : Nat} {e : E} {l m : List α} (hv : env[i]? = some (some (.ref n))) (hn : st[n]? = some (.lst (l.map enc))) (h : Vv cf e env st m) (hz : Sz (l ++ m)) (hr : Wp cf rest env (st.set n (.lst ((l ++ m).map enc))) Q) :
    Wp cf (.expr (.mt .extend (.var i) (.cons e .nil)) :: rest) env st Q := by
  obtain ⟨w, e1, h1⟩ := h
  refine wp_step (exS_expr_ok (w := .v .none) (st' := st.set n (.lst ((l ++ m).map enc))) ?_) hr
  have hz' := hz.le
  rw [List.length_append] at hz'
  rw [evX_mt, evX_var, hv]
  dsimp only
  rw [R.bind_ok, if_pos (by show (listOf st (.ref n)).isSome = true; rw [listOf_ref, hn]; rfl), evXs_cons, e1, R.bind_ok, evXs_nil, R.bind_ok, R.bind_ok]
  show (match st[n]? with
    | some (.lst xs) => (match listOf st w.d with
      | some ys => if xs.length + ys.length ≤ sizeLine then R.ok (Val.v .none) (st.set n (.lst (xs ++ ys))) else .stuck
      | Option.none => .stuck)
    | _ => R.stuck) = _
  rw [hn, h1.list]
  dsimp only
  rw [List.length_map, List.length_map, if_pos hz', List.map_append]
def setI {α : Type} (l : List α) (i : Int) (x : α) : List α := match ixN l.length i with
  | some j => l.set j x
  | Option.none => l
theorem wp_put {i n : Nat} {e f : E} {l : List α} {k : Int} {x : α} (hv : env[i]? = some (some (.ref n))) (hn : st[n]? = some (.lst (l.map enc))) (hf : Vv cf f env st k) (h : Tv cf e env st x) (hk : InR l.length k) (hr : Wp cf rest env (st.set n (.lst ((setI l k x).map enc))) Q) :
    Wp cf (.put (.var i) f e :: rest) env st Q := by
  obtain ⟨w, e1, h1⟩ := h
  refine wp_step ?_ hr
  have hx : ∃ j, ixN l.length k = some j := by
    unfold InR at hk
    unfold ixN
    by_cases h0 : 0 ≤ k
    · rw [if_pos h0, if_pos hk.2]; exact ⟨_, rfl⟩
    · rw [if_neg h0, if_pos hk.1]; exact ⟨_, rfl⟩
  obtain ⟨j, hj⟩ := hx
  rw [exS_put, evE_eq, e1, R.bind_ok, R.toX_ok, evE_eq, evX_var, hv]
  dsimp only
  rw [R.bind_ok, R.toX_ok, evE_eq, int_v hf, R.bind_ok, R.toX_ok, h1]
  have e : putV (.ref n) (.int k) (enc x) st = some (st.set n (.lst ((setI l k x).map enc))) := by
    show (match st[n]? with
      | some (.lst xs) => (match L2.ixN xs.length k with
        | some j => some (st.set n (.lst (xs.set j (enc x))))
        | Option.none => Option.none)
      | _ => Option.none) = _
    rw [hn]
    dsimp only
    rw [List.length_map, hj]
    unfold setI
    rw [hj]
    dsimp only
    rw [List.map_set]
  unfold putR
  show (match putV (Val.v (D.ref n)).d (Val.v (D.int k)).d (enc x) st with
    | some st' => MP.X.nx env st'
    | Option.none => MP.X.stuck) = _
  rw [show putV (Val.v (D.ref n)).d (Val.v (D.int k)).d (enc x) st = _ from e]
/-- the last one is taken off -/
theorem wp_pop {i n j : Nat} [Inhabited α] {l : List α} (hv : env[i]? = some (some (.ref n))) (hn : st[n]? = some (.lst (l.map enc))) (hk : InR l.length (-1)) (hr : Wp cf rest (env.set j (some (enc (ix l (-1))))) (st.set n (.lst ((l.dropLast).map enc))) Q) :
    Wp cf (.set j (.mt .pop0 (.var i) .nil) :: rest) env st Q := by
  refine wp_step ?_ hr
  have hlen : 0 < l.length := by unfold InR at hk; omega
  have e := atI_ix hk
  rw [atI_neg (by decide) hk.1] at e
  have e' : (l.map enc)[(l.map (enc : α → D)).length - 1]? = some (enc (ix l (-1))) := by
    rw [List.length_map, List.getElem?_map, show l.length - 1 = (-1 + (l.length : Int)).toNat by omega, e]
    rfl
  rw [exS_set, evE_eq, evX_mt, evX_var, hv]
  dsimp only
  rw [R.bind_ok, if_pos (by show (listOf st (.ref n)).isSome = true; rw [listOf_ref, hn]; rfl), evXs_nil, R.bind_ok]
  show (R.bind (mtV .pop0 (.ref n) [] st) _).toX env _ = _
  rw [mt_pop0, hn]
  dsimp only
  unfold popV
  rw [e']
  dsimp only
  rw [R.bind_ok, R.toX_ok, List.map_dropLast]
  rfl
end
/-! ### loops -/
/-- what is asked of each turn -/
def foldS {α σ : Type} (safe : σ → α → Prop) (f : σ → α → σ) : List α → σ → Prop
  | [], _ => True
  | x :: xs, s => safe s x ∧ foldS safe f xs (f s x)
theorem foldS_inv {α σ : Type} {safe : σ → α → Prop} {f : σ → α → σ} (I : σ → Prop) : ∀ {l : List α} {s : σ}, I s → (∀ x ∈ l, ∀ s, I s → safe s x ∧ I (f s x)) → foldS safe f l s
  | [], _, _, _ => trivial
  | x :: xs, s, hi, h => by
    obtain ⟨h1, h2⟩ := h x List.mem_cons_self s hi
    exact ⟨h1, foldS_inv I h2 fun y hy => h y (List.mem_cons_of_mem _ hy)⟩
theorem foldl_inv {α σ : Type} {f : σ → α → σ} (I : σ → Prop) : ∀ {l : List α} {s : σ}, I s → (∀ x ∈ l, ∀ s, I s → I (f s x)) → I (l.foldl f s)
  | [], _, hi, _ => hi
  | x :: xs, s, hi, h => foldl_inv (l := xs) (s := f s x) I (h x List.mem_cons_self s hi) fun y hy => h y (List.mem_cons_of_mem _ hy)
section
variable {Q : MP.X → Prop} {rest : List S} {tg : Tg} {it : It} {body : List S} {tmp : List Nat} {trim : Bool} {l : List α}
theorem loop_fold {ok : Sto → Bool} {n : Nat} {bd : D → MP.Env → Sto → MP.X} (P : σ → MP.Env → Sto → Prop) (safe : σ → α → Prop) (f : σ → α → σ) (hok : ∀ s env st, P s env st → ok st = true) :
    ∀ {xs : List α} {s : σ} {env : MP.Env} {st : Sto}, P s env st → foldS safe f xs s → (∀ x ∈ xs, ∀ s env st, P s env st → safe s x → QT trim n tmp P (f s x) (bd (enc x) env st)) →
    ∃ env' st', loopF ok trim n tmp bd (xs.map enc) env st = .nx env' st' ∧ P (xs.foldl f s) env' st'
  | [], s, env, st, hp, _, _ => ⟨env, st, rfl, hp⟩
  | x :: xs, s, env, st, hp, hs, h => by
    obtain ⟨env1, st1, env2, st2, e1, e2, hp2⟩ := h x List.mem_cons_self s env st hp hs.1
    obtain ⟨env3, st3, e3, hp3⟩ := loop_fold P safe f hok hp2 hs.2 fun y hy => h y (List.mem_cons_of_mem _ hy)
    refine ⟨env3, st3, ?_, hp3⟩
    rw [List.map_cons]
    unfold loopF
    rw [e1]
    dsimp only
    rw [e2]
    dsimp only
    rw [if_pos (hok _ _ _ hp2)]
    exact e3
theorem for_ev {src : D} (e1 : evI cf it env st = .ok (src, l.map enc) st) (hs : stands src (l.map enc) st = true) : exS cf (.for_ tg it body tmp trim) env st = loopF (stands src (l.map enc)) trim st.length tmp (turnF cf tg body) (l.map enc) env st := by
  rw [exS_for, e1, R.toX_ok]
  dsimp only
  unfold forR
  rw [hs]
  rfl
/-- what is walked is no cell -/
def Iw (cf : CF) (it : It) (env : MP.Env) (st : Sto) (l : List α) : Prop := ∃ src, evI cf it env st = .ok (src, l.map enc) st ∧ ∀ st', stands src (l.map enc) st' = true
theorem iw_seq {e : E} {l : List α} (h : Tv cf e env st l) : Iw cf (.seq e) env st l := by
  obtain ⟨w, e1, h1⟩ := h
  refine ⟨enc l, ?_, fun _ => rfl⟩
  rw [evI_seq, e1, R.bind_ok, h1]
  rfl
theorem iw_chars {e : E} {t : Tx} (h : Vv cf e env st t) : Iw cf (.seq e) env st (chars t) := by
  obtain ⟨src, e1, h1⟩ := iv_chars h
  obtain ⟨w, e2, h2⟩ := h.t
  refine ⟨src, e1, fun st' => ?_⟩
  rw [evI_seq, e2, R.bind_ok, h2] at e1
  unfold itR at e1
  have : items st (enc t) = some (signs t.str) := rfl
  rw [this] at e1
  injection e1 with e1
  injection e1 with e1 e3
  rw [← e1]
  rfl
theorem iw_range {e : E} {n : Int} (h : Vv cf e env st n) (hn : RgOk n) : Iw cf (.range1 e) env st (rng n) := by
  have hs : sizeLine = 16777216 := sizeLine_eq
  refine ⟨.none, ?_, fun _ => rfl⟩
  rw [evI_range1, int_v h, R.bind_ok]
  dsimp only
  rw [if_pos ⟨by rw [hs]; exact hn.1, hn.2⟩]
  rfl
theorem iw_range2 {e f : E} {i j : Int} (h : Vv cf e env st i) (h2 : Vv cf f env st j) (hn : Rg2Ok i j) : Iw cf (.range2 e f) env st (rng2 i j) := by
  have hs : sizeLine = 16777216 := sizeLine_eq
  refine ⟨.none, ?_, fun _ => rfl⟩
  rw [evI_range2, int_v h, R.bind_ok, int_v h2, R.bind_ok]
  dsimp only
  rw [if_pos ⟨by rw [hs]; exact hn.1, hn.2⟩]
  rfl
theorem iw_zip {e f : E} {l : List α} {m : List β} (h : Tv cf e env st l) (h2 : Tv cf f env st m) : Iw cf (.zip e f) env st (zip2 l m) := by
  obtain ⟨v, e1, q1⟩ := h
  obtain ⟨w, e2, q2⟩ := h2
  refine ⟨.none, ?_, fun _ => rfl⟩
  rw [evI, e1, R.bind_ok, e2, R.bind_ok, q1, q2]
  show R.ok (D.none, List.zipWith (fun x y => D.tup [x, y]) (l.map enc) (m.map enc)) st = _
  congr 2
  unfold zip2
  rw [List.map_zipWith, List.zipWith_map]
  rfl
theorem wp_for {s : σ} (P : σ → MP.Env → Sto → Prop) (safe : σ → α → Prop) (f : σ → α → σ) (envOf : α → MP.Env → MP.Env) (hi : Iw cf it env st l) (h0 : P s env st) (hs : foldS safe f l s) (hbd : ∀ x env, bindT env tg (enc x) = some (envOf x env))
    (hb : ∀ x ∈ l, ∀ s env st', P s env st' → safe s x → Wp cf body (envOf x env) st' (QT trim st.length tmp P (f s x)))
    (hr : ∀ env' st', P (l.foldl f s) env' st' → Wp cf rest env' st' Q) : Wp cf (.for_ tg it body tmp trim :: rest) env st Q := by
  obtain ⟨src, e1, hst⟩ := hi
  obtain ⟨env', st', e, hp⟩ := loop_fold (trim := trim) (tmp := tmp) (ok := stands src (l.map enc)) (n := st.length) (bd := turnF cf tg body) P safe f (fun _ _ st _ => hst st) h0 hs fun x hx s env st hp hsafe => by
    have := hb x hx s env st hp hsafe
    unfold turnF
    rw [hbd x env]
    exact this
  exact wp_step ((for_ev e1 (hst st)).trans e) (hr _ _ hp)
/-- .. that may be left by a return -/
def foldO {α ρ σ : Type} (f : σ → α → Out ρ σ) : List α → σ → Out ρ σ
  | [], s => .nx s
  | x :: xs, s => match f s x with
    | .nx s' => foldO f xs s'
    | o => o
def foldOS {α ρ σ : Type} (safe : σ → α → Prop) (f : σ → α → Out ρ σ) : List α → σ → Prop
  | [], _ => True
  | x :: xs, s => safe s x ∧ (match f s x with
    | .nx s' => foldOS safe f xs s'
    | _ => True)
theorem loop_foldO {ρ : Type} {R0 : ρ → MP.X → Prop} {ok : Sto → Bool} {n : Nat} {bd : D → MP.Env → Sto → MP.X} (P : σ → MP.Env → Sto → Prop) (safe : σ → α → Prop) (f : σ → α → Out ρ σ) (hok : ∀ s env st, P s env st → ok st = true) (hs0 : ∀ y r, R0 y r → Stop r) :
    ∀ {xs : List α} {s : σ} {env : MP.Env} {st : Sto}, P s env st → foldOS safe f xs s → (∀ x ∈ xs, ∀ s env st, P s env st → safe s x → QOT R0 trim n tmp P (f s x) (bd (enc x) env st)) →
    QO R0 P (foldO f xs s) (loopF ok trim n tmp bd (xs.map enc) env st)
  | [], s, env, st, hp, _, _ => ⟨env, st, rfl, hp⟩
  | x :: xs, s, env, st, hp, hs, h => by
    have key := h x List.mem_cons_self s env st hp hs.1
    have hs2 := hs.2
    rw [List.map_cons]
    unfold loopF foldO
    cases q : f s x with
    | rt y =>
      rw [q] at key
      have key : R0 y (bd (enc x) env st) := key
      have h1 := hs0 y _ key
      generalize bd (enc x) env st = r at key h1 ⊢
      cases r with
      | nx env' st' => exact absurd (h1 fun _ _ => .stuck) (by intro e; cases e)
      | rt d st' => exact key
      | err c env' st' => exact key
      | stuck => exact key
    | nx s' =>
      rw [q] at key hs2
      obtain ⟨env1, st1, env2, st2, e1, e2, hp2⟩ := key
      rw [e1]
      dsimp only
      rw [e2]
      dsimp only
      rw [if_pos (hok _ _ _ hp2)]
      exact loop_foldO P safe f hok hs0 hp2 hs2 fun y hy => h y (List.mem_cons_of_mem _ hy)
theorem wp_forO {ρ τ : Type} (R0 : ρ → MP.X → Prop) (R : τ → MP.X → Prop) {s : σ} {u : ρ → τ} {g : σ → τ} (P : σ → MP.Env → Sto → Prop) (safe : σ → α → Prop) (f : σ → α → Out ρ σ) (envOf : α → MP.Env → MP.Env) (hi : Iw cf it env st l) (h0 : P s env st) (hs : foldOS safe f l s) (hbd : ∀ x env, bindT env tg (enc x) = some (envOf x env))
    (hs0 : ∀ y r, R0 y r → Stop r) (hf : ∀ y r, R0 y r → R (u y) r)
    (hb : ∀ x ∈ l, ∀ s env st', P s env st' → safe s x → Wp cf body (envOf x env) st' (QOT R0 trim st.length tmp P (f s x)))
    (hr : ∀ s' env' st', foldO f l s = .nx s' → P s' env' st' → Wp cf rest env' st' (R (g s'))) : Wp cf (.for_ tg it body tmp trim :: rest) env st (R ((foldO f l s).then u g)) := by
  obtain ⟨src, e1, hst⟩ := hi
  have key := loop_foldO (trim := trim) (tmp := tmp) (ok := stands src (l.map enc)) (n := st.length) (bd := turnF cf tg body) P safe f (fun _ _ st _ => hst st) hs0 h0 hs fun x hx s env st hp hsafe => by
    have := hb x hx s env st hp hsafe
    unfold turnF
    rw [hbd x env]
    exact this
  show R _ (exL cf (.for_ tg it body tmp trim :: rest) env st)
  rw [exL_cons, for_ev e1 (hst st)]
  generalize foldO f l s = o at key hr ⊢
  cases o with
  | rt y =>
    rw [hs0 y _ key]
    exact hf y _ key
  | nx s =>
    obtain ⟨env', st', e, q⟩ := key
    rw [e, sqX_nx]
    exact hr s env' st' rfl q
/-! while -/
def whl {σ : Type} (c : σ → Bool) (f : σ → σ) : Nat → σ → σ
  | 0, s => s
  | k + 1, s => if c s = true then whl c f k (f s) else s
def whS {σ : Type} (sc : σ → Prop) (c : σ → Bool) (sf : σ → Prop) (f : σ → σ) : Nat → σ → Prop
  | 0, _ => False
  | k + 1, s => sc s ∧ (c s = true → sf s ∧ whS sc c sf f k (f s))
/-- a while's turns are counted down -/
theorem whS_inv {σ : Type} {sc : σ → Prop} {c : σ → Bool} {sf : σ → Prop} {f : σ → σ} (I : σ → Prop) (μ : σ → Nat) (h : ∀ s, I s → sc s ∧ (c s = true → sf s ∧ I (f s) ∧ μ (f s) < μ s)) : ∀ {k : Nat} {s : σ}, I s → μ s < k → whS sc c sf f k s
  | 0, _, _, hk => by omega
  | k + 1, s, hi, hk => by
    obtain ⟨h1, h2⟩ := h s hi
    refine ⟨h1, fun hc => ?_⟩
    obtain ⟨h3, h4, h5⟩ := h2 hc
    exact ⟨h3, whS_inv I μ h h4 (by omega)⟩
theorem whl_inv {σ : Type} {c : σ → Bool} {f : σ → σ} (I : σ → Prop) (μ : σ → Nat) (h : ∀ s, I s → c s = true → I (f s) ∧ μ (f s) < μ s) : ∀ {k : Nat} {s : σ}, I s → μ s < k → I (whl c f k s) ∧ c (whl c f k s) = false
  | 0, _, _, hk => by omega
  | k + 1, s, hi, hk => by
    unfold whl
    cases q : c s with
    | false => simp [hi, q]
    | true =>
      obtain ⟨h1, h2⟩ := h s hi q
      rw [if_pos rfl]
      exact whl_inv I μ h h1 (by omega)
theorem loop_wh {c : MP.Env → Sto → R Bool} {bd : MP.Env → Sto → MP.X} {n : Nat} (P : σ → MP.Env → Sto → Prop) (sc : σ → Prop) (cb : σ → Bool) (sf : σ → Prop) (f : σ → σ)
    (hc : ∀ s env st, P s env st → sc s → c env st = .ok (cb s) st) (hb : ∀ s env st, P s env st → cb s = true → sf s → QT trim n tmp P (f s) (bd env st)) :
    ∀ {k : Nat} {s : σ} {env : MP.Env} {st : Sto}, P s env st → whS sc cb sf f k s → ∃ env' st', loopW trim n tmp c bd k env st = .nx env' st' ∧ P (whl cb f k s) env' st'
  | 0, _, _, _, _, h => h.elim
  | k + 1, s, env, st, hp, h => by
    have e := hc s env st hp h.1
    unfold loopW whl
    rw [e]
    cases q : cb s with
    | false => exact ⟨env, st, rfl, by rw [if_neg (by decide)]; exact hp⟩
    | true =>
      obtain ⟨h1, h2⟩ := h.2 q
      obtain ⟨env1, st1, env2, st2, e1, e2, hp2⟩ := hb s env st hp q h1
      dsimp only
      rw [e1]
      dsimp only
      rw [e2]
      dsimp only
      rw [if_pos rfl]
      exact loop_wh P sc cb sf f hc hb hp2 h2
theorem wp_while {c : E} {s : σ} (P : σ → MP.Env → Sto → Prop) (sc : σ → Prop) (cb : σ → Bool) (sf : σ → Prop) (f : σ → σ) (h0 : P s env st) (hs : whS sc cb sf f wmost s)
    (hc : ∀ s env st, P s env st → sc s → Vv cf c env st (cb s)) (hb : ∀ s env st', P s env st' → cb s = true → sf s → Wp cf body env st' (QT trim st.length tmp P (f s)))
    (hr : ∀ env' st', P (whl cb f wmost s) env' st' → Wp cf rest env' st' Q) : Wp cf (.while_ c body tmp trim :: rest) env st Q := by
  obtain ⟨env', st', e, hp⟩ := loop_wh (trim := trim) (tmp := tmp) (n := st.length) (c := fun env st => (evE cf c env st).bind boolR) (bd := fun env st => exL cf body env st) P sc cb sf f (fun s env st hp hsc => by
    show ((evX cf c env st).bind _).bind boolR = _
    rw [bool_of (hc s env st hp hsc), R.bind_ok]
    rfl) (fun s env st hp hcb hsf => hb s env st hp hcb hsf) h0 hs
  refine wp_step ?_ (hr _ _ hp)
  rw [exS]
  exact e
end
/-- a turn's end where no cell was made -/
theorem qt_end {tmp : List Nat} {n : Nat} {P : σ → MP.Env → Sto → Prop} {s : σ} (h : P s (wipeE env tmp) st) : Wp cf [] env st (QT false n tmp P s) :=
  wp_nil ⟨env, st, _, _, rfl, rfl, h⟩
theorem qot_end {ρ : Type} {R : ρ → MP.X → Prop} {tmp : List Nat} {n : Nat} {P : σ → MP.Env → Sto → Prop} {s : σ} (h : P s (wipeE env tmp) st) : Wp cf [] env st (QOT R false n tmp P (.nx s)) :=
  wp_nil ⟨env, st, _, _, rfl, rfl, h⟩
theorem qb_end {P : σ → MP.Env → Sto → Prop} {s : σ} (h : P s env st) : Wp cf [] env st (QB P s) := wp_nil ⟨env, st, rfl, h⟩
theorem qo_end {ρ : Type} {R : ρ → MP.X → Prop} {P : σ → MP.Env → Sto → Prop} {s : σ} (h : P s env st) : Wp cf [] env st (QO R P (.nx s)) := wp_nil ⟨env, st, rfl, h⟩
/-- a turn's end: cells of the turn are dropped -/
theorem fin_trim {n : Nat} {tmp : List Nat} (h1 : envBelow n (wipeE env tmp) = true) (h2 : (st.take n).all (Cell.low n) = true) : fin true n tmp env st = some (wipeE env tmp, st.take n) := by
  unfold fin
  rw [if_pos rfl, h1, h2]
  rfl
theorem qt_trim {tmp : List Nat} {n : Nat} {P : σ → MP.Env → Sto → Prop} {s : σ} (h1 : envBelow n (wipeE env tmp) = true) (h2 : (st.take n).all (Cell.low n) = true) (h : P s (wipeE env tmp) (st.take n)) : Wp cf [] env st (QT true n tmp P s) :=
  wp_nil ⟨env, st, _, _, rfl, fin_trim h1 h2, h⟩
theorem qot_trim {ρ : Type} {R : ρ → MP.X → Prop} {tmp : List Nat} {n : Nat} {P : σ → MP.Env → Sto → Prop} {s : σ} (h1 : envBelow n (wipeE env tmp) = true) (h2 : (st.take n).all (Cell.low n) = true) (h : P s (wipeE env tmp) (st.take n)) : Wp cf [] env st (QOT R true n tmp P (.nx s)) :=
  wp_nil ⟨env, st, _, _, rfl, fin_trim h1 h2, h⟩
mutual
theorem D.low_nr {n : Nat} : ∀ {d : D}, d.noref = true → d.low n = true
  | .none, _ => rfl
  | .bool _, _ => rfl
  | .int _, _ => rfl
  | .str _, _ => rfl
  | .scr _, _ => rfl
  | .list xs, h => lows_nr (show norefs xs = true from h)
  | .tup xs, h => lows_nr (show norefs xs = true from h)
  | .dk _ vs, h => lows_nr (show norefs vs = true from h)
  | .dt _ vs, h => lows_nr (show norefs vs = true from h)
  | .ref _, h => by cases h
theorem lows_nr {n : Nat} : ∀ {ds : List D}, norefs ds = true → lows n ds = true
  | [], _ => rfl
  | d :: ds, h => by
    simp only [norefs, Bool.and_eq_true] at h
    simp only [lows, D.low_nr h.1, lows_nr h.2, Bool.and_self]
end
@[simp] theorem low_enc {n : Nat} (x : α) : (enc x).low n = true := D.low_nr (Enc.nr x)
@[simp] theorem low_cell {n : Nat} (x : List α) : (Cell.lst (x.map enc)).low n = true := lows_nr (nrs x)
@[simp] theorem eb_nil {n : Nat} : envBelow n [] = true := rfl
@[simp] theorem eb_none {n : Nat} (r : MP.Env) : envBelow n (Option.none :: r) = envBelow n r := rfl
@[simp] theorem eb_some {n : Nat} (d : D) (r : MP.Env) : envBelow n (some d :: r) = (d.low n && envBelow n r) := rfl
@[simp] theorem low_ref {n m : Nat} : (D.ref m).low n = decide (m < n) := rfl
@[simp] theorem nl_cell [NL α] (x : List α) : (Cell.lst (x.map enc)).nolist = true := nls x
end MP

/-! The typed layer: more rules. -/
namespace MP
open PySem PySem.Spec PyProof.Rows L2
open Enc (enc)
abbrev W : Type := T3 (List Int) (List (List Tx)) (List (List Int))
/-- how deep defs that call themselves are let go -/
def FUEL : Nat := 64
variable {α β γ δ σ : Type} [Enc α] [Enc β] [Enc γ] [Enc δ] {cf : CF} {env : MP.Env} {st : Sto}
theorem tv_int {n : Int} : Tv cf (.lit (.int n)) env st n := tv_lit rfl
theorem tv_bool {n : Bool} : Tv cf (.lit (.bool n)) env st n := tv_lit rfl
theorem tv_unit : Tv cf (.lit .none) env st () := tv_lit rfl
theorem tv_globs {s : Str} {x : String} : Tv cf (.glob s (.str (Str.ofString x))) env st (tx x) := tv_glob (congrArg D.str (ofString_tx x))
theorem rng_length (n : Int) : (rng n).length = n.toNat := by simp [rng, rangeI]
theorem rng2_length (a b : Int) : (rng2 a b).length = (b - a).toNat := by simp [rng2, rangeI]
theorem sz_rng {n : Int} (h : RgOk n) : Sz (rng n) := by
  unfold Sz
  rw [rng_length]
  have := h.1
  omega
theorem sz_rng2 {i j : Int} (h : Rg2Ok i j) : Sz (rng2 i j) := by
  unfold Sz
  rw [rng2_length]
  have := h.1
  omega
theorem tv_powl {a b : E} {x y z : Int} (ha : Vv cf a env st x) (hb : Vv cf b env st y) (h : PowOk x y) (hz : z = x ^ y.toNat) : Tv cf (.bin .pow a b) env st z := hz ▸ tv_pow ha hb h
def RepOk {α : Type} (x : List α) (k : Int) : Prop := k < 2 ^ 63 ∧ -(2 ^ 63) ≤ k ∧ x.length * k.toNat ≤ 16777216
def Tx.cat (a b : Tx) : Tx := ⟨a.cs ++ b.cs⟩
theorem tv_catt {a b : E} {x y : Tx} (ha : Vv cf a env st x) (hb : Vv cf b env st y) (h : Sz (Tx.cat x y).cs) : Tv cf (.bin .add a b) env st (Tx.cat x y) :=
  bin_of ha hb fun d e h1 h2 => by
    rw [h1.ns, h2.ns]
    refine ⟨.v (.str (x.str ++ y.str)), ?_, ?_⟩
    · show (if x.str.length + y.str.length ≤ sizeLine then R.ok (Val.v (.str (x.str ++ y.str))) st else R.stuck) = _
      rw [if_pos]
      rw [Tx.length, Tx.length]
      have := h.le
      unfold Tx.cat at this
      rwa [List.length_append] at this
    · show D.str _ = D.str _
      congr 1
      unfold Tx.cat Tx.str
      show (⟨_ ++ _⟩ : Str) = _
      congr 1
      simp
theorem tv_isn1 [NN α] {a : E} {x : α} (ha : Vv cf a env st x) : Tv cf (.cmp .is a (.lit .none)) env st false := tv_isnone (o := some x) ha.some
theorem tv_isntn1 [NN α] {a : E} {x : α} (ha : Vv cf a env st x) : Tv cf (.cmp .isnot a (.lit .none)) env st true := tv_isntnone (o := some x) ha.some
theorem tv_isinstoi {a : E} {o : Option Int} (ha : Vv cf a env st o) : Tv cf (.bi (.isinst "int") (.cons a .nil)) env st o.isSome :=
  tv_isinst ha fun d h => by
    cases o with
    | none => exact ⟨"NoneType", by rw [h.ns]; rfl, by decide⟩
    | some x => exact ⟨"int", by rw [h.ns]; rfl, rfl⟩
theorem tv_isinsto {T : String} (h1 : isinstT T "NoneType" = false) (h2 : isinstT T "int" = false) {a : E} {o : Option Int} (ha : Vv cf a env st o) : Tv cf (.bi (.isinst T) (.cons a .nil)) env st false :=
  tv_isinst ha fun d h => by
    cases o with
    | none => exact ⟨"NoneType", by rw [h.ns]; rfl, h1⟩
    | some x => exact ⟨"int", by rw [h.ns]; rfl, h2⟩
theorem map_uw [Inhabited α] {l : List (Option α)} (h : ∀ x ∈ l, x.isSome = true) : (l.map uw).map enc = l.map (enc : Option α → D) := by
  rw [List.map_map]
  refine List.map_congr_left fun x hx => ?_
  have := h x hx
  cases x with
  | none => cases this
  | some y => rfl
theorem vv_uws [Inhabited α] {e : E} {l : List (Option α)} (h : Vv cf e env st l) (hl : ∀ x ∈ l, x.isSome = true) : Vv cf e env st (l.map uw) := by
  obtain ⟨w, e1, h1⟩ := h
  refine ⟨w, e1, ?_⟩
  rw [enc_list, map_uw hl]
  exact h1
theorem tv_lentup2 {a : E} {x : T2 α β} (ha : Vv cf a env st x) : Tv cf (.bi .len (.cons a .nil)) env st (2 : Int) :=
  bi1_of ha fun d hd => ⟨.v (.int 2), by rw [hd.ns]; rfl, rfl⟩
theorem tv_lentup3 {a : E} {x : T3 α β γ} (ha : Vv cf a env st x) : Tv cf (.bi .len (.cons a .nil)) env st (3 : Int) :=
  bi1_of ha fun d hd => ⟨.v (.int 3), by rw [hd.ns]; rfl, rfl⟩
theorem tv_lentup4 {a : E} {x : T4 α β γ δ} (ha : Vv cf a env st x) : Tv cf (.bi .len (.cons a .nil)) env st (4 : Int) :=
  bi1_of ha fun d hd => ⟨.v (.int 4), by rw [hd.ns]; rfl, rfl⟩
section
variable {Q : MP.X → Prop} {rest : List S} {i n : Nat} {l : List α}
/-- a method that changes a list's cell -/
theorem wp_mt {m : MT} {es : Es} {ds : List D} {l' : List α} (hv : env[i]? = some (some (.ref n))) (hn : st[n]? = some (.lst (l.map enc))) (hm : mtIs m (.ref n) st = (listOf st (.ref n)).isSome) (ha : evXs cf es env st = .ok ds st) (h : ∃ w, mtV m (.ref n) ds st = .ok w (st.set n (.lst (l'.map enc)))) (hr : Wp cf rest env (st.set n (.lst (l'.map enc))) Q) :
    Wp cf (.expr (.mt m (.var i) es) :: rest) env st Q := by
  obtain ⟨w, h⟩ := h
  refine wp_step (exS_expr_ok (w := w) (st' := st.set n (.lst (l'.map enc))) ?_) hr
  rw [evX_mt, evX_var, hv]
  dsimp only
  rw [R.bind_ok, if_pos (by show mtIs m (.ref n) st = true; rw [hm, listOf_ref, hn]; rfl), ha, R.bind_ok]
  exact h
theorem onCell_at {n : Nat} {xs : List D} (hn : st[n]? = some (.lst xs)) (f : Nat → List D → R Val) : onCell (.ref n) st f = f n xs := by
  show (match st[n]? with
    | some (.lst xs) => f n xs
    | _ => .stuck) = _
  rw [hn]
theorem wp_reverse (hv : env[i]? = some (some (.ref n))) (hn : st[n]? = some (.lst (l.map enc))) (hr : Wp cf rest env (st.set n (.lst (l.reverse.map enc))) Q) : Wp cf (.expr (.mt .reverse (.var i) .nil) :: rest) env st Q :=
  wp_mt hv hn rfl evXs_nil ⟨.v .none, by
    show onCell (.ref n) st (fun n xs => R.ok (Val.v .none) (st.set n (.lst xs.reverse))) = _
    rw [onCell_at hn, List.map_reverse]⟩ hr
theorem wp_clear (hv : env[i]? = some (some (.ref n))) (hn : st[n]? = some (.lst (l.map enc))) (hr : Wp cf rest env (st.set n (.lst (([] : List α).map enc))) Q) : Wp cf (.expr (.mt .clear (.var i) .nil) :: rest) env st Q :=
  wp_mt (l' := []) hv hn rfl evXs_nil ⟨.v .none, by
    show onCell (.ref n) st (fun n xs => R.ok (Val.v .none) (st.set n (.lst []))) = _
    rw [onCell_at hn]; rfl⟩ hr
theorem wp_popx (hv : env[i]? = some (some (.ref n))) (hn : st[n]? = some (.lst (l.map enc))) (h : 0 < l.length) (hr : Wp cf rest env (st.set n (.lst (l.dropLast.map enc))) Q) : Wp cf (.expr (.mt .pop0 (.var i) .nil) :: rest) env st Q :=
  wp_mt hv hn rfl evXs_nil (by
    have e : ∃ y, (l.map enc)[(l.map (enc : α → D)).length - 1]? = some y := ⟨_, List.getElem?_eq_getElem (by rw [List.length_map]; omega)⟩
    obtain ⟨y, e⟩ := e
    refine ⟨.v y, ?_⟩
    show onCell (.ref n) st (fun n xs => popV xs fun y => R.ok (Val.v y) (st.set n (.lst xs.dropLast))) = _
    rw [onCell_at hn]
    unfold popV
    rw [e]
    dsimp only
    rw [List.map_dropLast]) hr
def InsOk {α : Type} (l : List α) (i : Int) : Prop := l.length < 16777216 ∧ 0 ≤ i ∧ i < 2 ^ 63
def insI {α : Type} (l : List α) (i : Int) (x : α) : List α := l.take i.toNat ++ [x] ++ l.drop i.toNat
theorem wp_insert {e f : E} {k : Int} {x : α} (hv : env[i]? = some (some (.ref n))) (hn : st[n]? = some (.lst (l.map enc))) (hf : Vv cf f env st k) (h : Tv cf e env st x) (hk : InsOk l k) (hr : Wp cf rest env (st.set n (.lst ((insI l k x).map enc))) Q) :
    Wp cf (.expr (.mt .insert (.var i) (.cons f (.cons e .nil))) :: rest) env st Q := by
  obtain ⟨w, e1, h1⟩ := h
  have hs : sizeLine = 16777216 := sizeLine_eq
  exact wp_mt hv hn rfl (ds := [.int k, w.d]) (by simp only [evXs_cons, int_v hf, R.bind_ok, e1, evXs_nil]; rfl) ⟨.v .none, by
    show onCell (.ref n) st (fun n xs => if xs.length < sizeLine ∧ 0 ≤ k ∧ k < 2 ^ 63 then R.ok (Val.v .none) (st.set n (.lst (xs.take k.toNat ++ [w.d] ++ xs.drop k.toNat))) else .stuck) = _
    rw [onCell_at hn, if_pos ⟨by rw [List.length_map, hs]; exact hk.1, hk.2⟩, h1]
    unfold insI
    simp⟩ hr
def PopOk {α : Type} (l : List α) (i : Int) : Prop := InR l.length i ∧ l.length < 16777216
def popI {α : Type} (l : List α) (i : Int) : List α := match ixN l.length i with
  | some k => l.eraseIdx k
  | Option.none => l
theorem map_eraseIdx {α β : Type} (f : α → β) : ∀ (l : List α) (k : Nat), (l.eraseIdx k).map f = (l.map f).eraseIdx k
  | [], _ => rfl
  | _ :: _, 0 => rfl
  | x :: l, k + 1 => by simp [map_eraseIdx f l k]
theorem wp_popat {f : E} {k : Int} (hv : env[i]? = some (some (.ref n))) (hn : st[n]? = some (.lst (l.map enc))) (hf : Vv cf f env st k) (hk : PopOk l k) (hr : Wp cf rest env (st.set n (.lst ((popI l k).map enc))) Q) :
    Wp cf (.expr (.mt .popAt (.var i) (.cons f .nil)) :: rest) env st Q := by
  obtain ⟨h1, h2⟩ := hk
  obtain ⟨x, hx⟩ := atI_in h1
  unfold atI at hx
  cases q : ixN l.length k with
  | none => rw [q] at hx; cases hx
  | some j =>
    rw [q] at hx
    have hx : l[j]? = some x := hx
    exact wp_mt hv hn rfl (ds := [.int k]) (by simp only [evXs_cons, int_v hf, R.bind_ok, evXs_nil]; rfl) ⟨.v (enc x), by
      show onCell (.ref n) st (fun n xs => popAtV xs (.int k) fun y k => R.ok (Val.v y) (st.set n (.lst (xs.eraseIdx k)))) = _
      rw [onCell_at hn]
      unfold popAtV
      dsimp only
      unfold InR at h1
      rw [if_pos ⟨by omega, by omega⟩, List.length_map, q]
      dsimp only
      rw [List.getElem?_map, hx]
      show R.ok (Val.v (enc x)) (st.set n (.lst ((l.map enc).eraseIdx j))) = _
      unfold popI
      rw [q]
      dsimp only
      rw [map_eraseIdx]⟩ hr
end
/-- a list is changed no more from then on -/
theorem wp_fz {Q : MP.X → Prop} {rest : List S} {i n : Nat} {l : List α} (hv : env[i]? = some (some (.ref n))) (hn : st[n]? = some (.lst (l.map enc))) (hr : Wp cf rest (env.set i (some (enc l))) (st.set n .dead) Q) : Wp cf (.fz i :: rest) env st Q := by
  refine wp_step ?_ hr
  rw [exS]
  unfold fzX
  rw [hv]
  dsimp only
  rw [hn]
  rfl
@[simp] theorem low_dead {n : Nat} : Cell.low n .dead = true := rfl
@[simp] theorem nl_dead : Cell.nolist .dead = true := rfl
/-! text.index(piece) -/
def Tx.occ (t p : Tx) : List Nat := Builtin.Str.occurrences t.str p.str 0 t.str.length 1
def Tx.idx (t p : Tx) : Int := match t.occ p with
  | i :: _ => (i : Nat)
  | [] => 0
def Tx.idxOk (t p : Tx) : Prop := t.occ p ≠ []
theorem tv_indext {a b : E} {t p : Tx} (ha : Vv cf a env st t) (hb : Vv cf b env st p) (h : Tx.idxOk t p) : Tv cf (.mt .sindex a (.cons b .nil)) env st (Tx.idx t p) := by
  obtain ⟨v, e1, h1⟩ := ha.t
  obtain ⟨w, e2, h2⟩ := hb.t
  refine ⟨.v (.int (Tx.idx t p)), ?_, rfl⟩
  rw [evX_mt, e1, R.bind_ok, h1, if_pos (show mtIs .sindex (enc t) st = true from rfl), evXs_cons, e2, R.bind_ok, evXs_nil, R.bind_ok, R.bind_ok, h2]
  show (match t.occ p with
    | i :: _ => R.ok (Val.v (D.int (i : Nat))) st
    | [] => R.stuck) = _
  unfold Tx.idxOk at h
  unfold Tx.idx
  cases q : t.occ p with
  | nil => exact absurd q h
  | cons i r => rfl
/-- one list's item is put behind another list -/
theorem wp_apppop {Q : MP.X → Prop} {rest : List S} {i j n m : Nat} {f : E} {k : Int} [Inhabited α] {l l2 : List α} (hv : env[i]? = some (some (.ref n))) (hn : st[n]? = some (.lst (l.map enc))) (hv2 : env[j]? = some (some (.ref m))) (hm : st[m]? = some (.lst (l2.map enc))) (hnm : n ≠ m) (hf : Vv cf f env st k) (hk : PopOk l2 k) (hz : Sz1 l)
    (hr : Wp cf rest env ((st.set m (.lst ((popI l2 k).map enc))).set n (.lst ((l ++ [ix l2 k]).map enc))) Q) :
    Wp cf (.expr (.mt .append (.var i) (.cons (.mt .popAt (.var j) (.cons f .nil)) .nil)) :: rest) env st Q := by
  refine wp_step (exS_expr_ok (w := .v .none) ?_) hr
  have hs : sizeLine = 16777216 := sizeLine_eq
  obtain ⟨h1, h2⟩ := hk
  have hx := atI_ix h1
  unfold atI at hx
  cases q : ixN l2.length k with
  | none => rw [q] at hx; cases hx
  | some jj =>
    rw [q] at hx
    have hx : l2[jj]? = some (ix l2 k) := hx
    have e1 : evX cf (.mt .popAt (.var j) (.cons f .nil)) env st = .ok (.v (enc (ix l2 k))) (st.set m (.lst ((popI l2 k).map enc))) := by
      rw [evX_mt, evX_var, hv2]
      dsimp only
      rw [R.bind_ok, if_pos (by show (listOf st (.ref m)).isSome = true; rw [listOf_ref, hm]; rfl), evXs_cons, int_v hf, R.bind_ok, evXs_nil, R.bind_ok, R.bind_ok]
      show onCell (.ref m) st (fun n xs => popAtV xs (.int k) fun y k => R.ok (Val.v y) (st.set n (.lst (xs.eraseIdx k)))) = _
      rw [onCell_at hm]
      unfold popAtV
      dsimp only
      unfold InR at h1
      rw [if_pos ⟨by omega, by omega⟩, List.length_map, q]
      dsimp only
      rw [List.getElem?_map, hx]
      show R.ok (Val.v (enc (ix l2 k))) (st.set m (.lst ((l2.map enc).eraseIdx jj))) = _
      unfold popI
      rw [q]
      dsimp only
      rw [map_eraseIdx]
    rw [evX_mt, evX_var, hv]
    dsimp only
    rw [R.bind_ok, if_pos (by show (listOf st (.ref n)).isSome = true; rw [listOf_ref, hn]; rfl), evXs_cons, e1, R.bind_ok, evXs_nil, R.bind_ok, R.bind_ok]
    show mtV .append (.ref n) [enc (ix l2 k)] _ = _
    have hn2 : (st.set m (.lst ((popI l2 k).map enc)))[n]? = some (.lst (l.map enc)) := by
      rw [List.getElem?_set_ne (fun e => hnm e.symm)]; exact hn
    rw [mt_append, hn2]
    dsimp only
    rw [if_pos (by rw [List.length_map, hs]; exact hz), List.map_append]
    rfl
end MP

/-! The typed layer: statements that bind a name in the mirror. -/
namespace MP
open PySem PySem.Spec PyProof.Rows L2
open Enc (enc)
/-- a name for a value -/
def lt {α : Type} {β : Sort u} (v : α) (B : α → β) : β := B v
theorem lt_eq {α : Type} {β : Sort u} (v : α) (B : α → β) : lt v B = B v := rfl
theorem ltE {α : Type} {v x : α} {S : α → Prop} (h : lt v S) (hx : x = v) : S x := by subst hx; exact h
variable {α β γ δ σ ρ : Type} [Enc α] [Enc β] [Enc γ] [Enc δ] {cf : CF} {env : MP.Env} {st : Sto} {rest : List S}
section
variable (R : ρ → MP.X → Prop)
theorem wl_set {i : Nat} {e : E} {x : α} {B : α → ρ} (h : Tv cf e env st x) (hr : ∀ x', x' = x → Wp cf rest (env.set i (some (enc x'))) st (R (B x'))) : Wp cf (.set i e :: rest) env st (R (lt x B)) := wp_set h (hr x rfl)
theorem wl_cell {i : Nat} {e : E} {l : List α} {B : List α → ρ} (h : Nv cf e env st l) (hr : ∀ l', l' = l → Wp cf rest (env.set i (some (.ref st.length))) (st ++ [.lst (l'.map enc)]) (R (B l'))) : Wp cf (.set i (.cell e) :: rest) env st (R (lt l B)) := wp_cell h (hr l rfl)
theorem wl_un2 {i j : Nat} {e : E} {x : T2 α β} {B : T2 α β → ρ} (h : Tv cf e env st x) (hr : ∀ x', x' = x → Wp cf rest ((env.set i (some (enc x'.a))).set j (some (enc x'.b))) st (R (B x'))) : Wp cf (.unpack [i, j] e :: rest) env st (R (lt x B)) := unR_2 h (hr x rfl)
theorem wl_un3 {i j k : Nat} {e : E} {x : T3 α β γ} {B : T3 α β γ → ρ} (h : Tv cf e env st x) (hr : ∀ x', x' = x → Wp cf rest (((env.set i (some (enc x'.a))).set j (some (enc x'.b))).set k (some (enc x'.c))) st (R (B x'))) : Wp cf (.unpack [i, j, k] e :: rest) env st (R (lt x B)) := unR_3 h (hr x rfl)
theorem wl_un4 {i j k m : Nat} {e : E} {x : T4 α β γ δ} {B : T4 α β γ δ → ρ} (h : Tv cf e env st x) (hr : ∀ x', x' = x → Wp cf rest ((((env.set i (some (enc x'.a))).set j (some (enc x'.b))).set k (some (enc x'.c))).set m (some (enc x'.d))) st (R (B x'))) : Wp cf (.unpack [i, j, k, m] e :: rest) env st (R (lt x B)) := unR_4 h (hr x rfl)
theorem wl_par2 {i j : Nat} {a b : E} {x : α} {y : β} {B : α → β → ρ} (h : Tv cf a env st x) (h2 : Tv cf b env st y) (hr : ∀ x', x' = x → ∀ y', y' = y → Wp cf rest ((env.set i (some (enc x'))).set j (some (enc y'))) st (R (B x' y'))) : Wp cf (.par2 i j a b :: rest) env st (R (lt x fun x' => lt y fun y' => B x' y')) := wp_par2 h h2 (hr x rfl y rfl)
theorem wl_join {c : E} {a b : List S} {x : Bool} {u v : σ} {B : σ → ρ} (P : σ → MP.Env → Sto → Prop) (hc : Vv cf c env st x) (ha : x = true → Wp cf a env st (QB P u)) (hb : x = false → Wp cf b env st (QB P v))
    (hr : ∀ s, s = (if x = true then u else v) → ∀ env' st', P s env' st' → Wp cf rest env' st' (R (B s))) : Wp cf (.ife c a b :: rest) env st (R (lt (if x = true then u else v) B)) := wp_join P hc ha hb (hr _ rfl)
theorem wl_append {i n : Nat} {e : E} {l : List α} {x : α} {B : List α → ρ} (hv : env[i]? = some (some (.ref n))) (hn : st[n]? = some (.lst (l.map enc))) (h : Tv cf e env st x) (hz : Sz1 l) (hr : ∀ l', l' = l ++ [x] → Wp cf rest env (st.set n (.lst (l'.map enc))) (R (B l'))) :
    Wp cf (.expr (.mt .append (.var i) (.cons e .nil)) :: rest) env st (R (lt (l ++ [x]) B)) := wp_append hv hn h hz (hr _ rfl)
theorem wl_extend {i n : Nat} {e : E} {l m : List α} {B : List α → ρ} (hv : env[i]? = some (some (.ref n))) (hn : st[n]? = some (.lst (l.map enc))) (h : Vv cf e env st m) (hz : Sz (l ++ m)) (hr : ∀ l', l' = l ++ m → Wp cf rest env (st.set n (.lst (l'.map enc))) (R (B l'))) :
    Wp cf (.expr (.mt .extend (.var i) (.cons e .nil)) :: rest) env st (R (lt (l ++ m) B)) := wp_extend hv hn h hz (hr _ rfl)
theorem wl_put {i n : Nat} {e f : E} {l : List α} {k : Int} {x : α} {B : List α → ρ} (hv : env[i]? = some (some (.ref n))) (hn : st[n]? = some (.lst (l.map enc))) (hf : Vv cf f env st k) (h : Tv cf e env st x) (hk : InR l.length k) (hr : ∀ l', l' = setI l k x → Wp cf rest env (st.set n (.lst (l'.map enc))) (R (B l'))) :
    Wp cf (.put (.var i) f e :: rest) env st (R (lt (setI l k x) B)) := wp_put hv hn hf h hk (hr _ rfl)
theorem wl_pop {i n j : Nat} [Inhabited α] {l : List α} {B : α → List α → ρ} (hv : env[i]? = some (some (.ref n))) (hn : st[n]? = some (.lst (l.map enc))) (hk : InR l.length (-1)) (hr : ∀ x, x = ix l (-1) → ∀ l', l' = l.dropLast → Wp cf rest (env.set j (some (enc x))) (st.set n (.lst (l'.map enc))) (R (B x l'))) :
    Wp cf (.set j (.mt .pop0 (.var i) .nil) :: rest) env st (R (lt (ix l (-1)) fun x => lt l.dropLast fun l' => B x l')) := wp_pop hv hn hk (hr _ rfl _ rfl)
theorem wl_reverse {i n : Nat} {l : List α} {B : List α → ρ} (hv : env[i]? = some (some (.ref n))) (hn : st[n]? = some (.lst (l.map enc))) (hr : ∀ l', l' = l.reverse → Wp cf rest env (st.set n (.lst (l'.map enc))) (R (B l'))) : Wp cf (.expr (.mt .reverse (.var i) .nil) :: rest) env st (R (lt l.reverse B)) := wp_reverse hv hn (hr _ rfl)
theorem wl_clear {i n : Nat} {l : List α} {B : List α → ρ} (hv : env[i]? = some (some (.ref n))) (hn : st[n]? = some (.lst (l.map enc))) (hr : ∀ l' : List α, l' = [] → Wp cf rest env (st.set n (.lst (l'.map enc))) (R (B l'))) : Wp cf (.expr (.mt .clear (.var i) .nil) :: rest) env st (R (lt [] B)) := wp_clear hv hn (hr _ rfl)
theorem wl_popx {i n : Nat} {l : List α} {B : List α → ρ} (hv : env[i]? = some (some (.ref n))) (hn : st[n]? = some (.lst (l.map enc))) (h : 0 < l.length) (hr : ∀ l', l' = l.dropLast → Wp cf rest env (st.set n (.lst (l'.map enc))) (R (B l'))) : Wp cf (.expr (.mt .pop0 (.var i) .nil) :: rest) env st (R (lt l.dropLast B)) := wp_popx hv hn h (hr _ rfl)
theorem wl_insert {i n : Nat} {e f : E} {l : List α} {k : Int} {x : α} {B : List α → ρ} (hv : env[i]? = some (some (.ref n))) (hn : st[n]? = some (.lst (l.map enc))) (hf : Vv cf f env st k) (h : Tv cf e env st x) (hk : InsOk l k) (hr : ∀ l', l' = insI l k x → Wp cf rest env (st.set n (.lst (l'.map enc))) (R (B l'))) :
    Wp cf (.expr (.mt .insert (.var i) (.cons f (.cons e .nil))) :: rest) env st (R (lt (insI l k x) B)) := wp_insert hv hn hf h hk (hr _ rfl)
theorem wl_popat {i n : Nat} {f : E} {l : List α} {k : Int} {B : List α → ρ} (hv : env[i]? = some (some (.ref n))) (hn : st[n]? = some (.lst (l.map enc))) (hf : Vv cf f env st k) (hk : PopOk l k) (hr : ∀ l', l' = popI l k → Wp cf rest env (st.set n (.lst (l'.map enc))) (R (B l'))) :
    Wp cf (.expr (.mt .popAt (.var i) (.cons f .nil)) :: rest) env st (R (lt (popI l k) B)) := wp_popat hv hn hf hk (hr _ rfl)
theorem wl_apppop {i j n m : Nat} {f : E} {k : Int} [Inhabited α] {l l2 : List α} {B : α → List α → List α → ρ} (hv : env[i]? = some (some (.ref n))) (hn : st[n]? = some (.lst (l.map enc))) (hv2 : env[j]? = some (some (.ref m))) (hm : st[m]? = some (.lst (l2.map enc))) (hnm : n ≠ m) (hf : Vv cf f env st k) (hk : PopOk l2 k) (hz : Sz1 l)
    (hr : ∀ u, u = ix l2 k → ∀ l2', l2' = popI l2 k → ∀ l', l' = l ++ [u] → Wp cf rest env ((st.set m (.lst (l2'.map enc))).set n (.lst (l'.map enc))) (R (B u l2' l'))) :
    Wp cf (.expr (.mt .append (.var i) (.cons (.mt .popAt (.var j) (.cons f .nil)) .nil)) :: rest) env st (R (lt (ix l2 k) fun u => lt (popI l2 k) fun l2' => lt (l ++ [u]) fun l' => B u l2' l')) := wp_apppop hv hn hv2 hm hnm hf hk hz (hr _ rfl _ rfl _ rfl)
section
variable {tg : Tg} {it : It} {body : List S} {tmp : List Nat} {trim : Bool} {l : List α} {B : σ → ρ}
theorem wl_for {s : σ} (P : σ → MP.Env → Sto → Prop) (safe : σ → α → Prop) (f : σ → α → σ) (envOf : α → MP.Env → MP.Env) (hi : Iw cf it env st l) (h0 : P s env st) (hs : foldS safe f l s) (hbd : ∀ x env, bindT env tg (enc x) = some (envOf x env))
    (hb : ∀ x ∈ l, ∀ s env st', P s env st' → safe s x → Wp cf body (envOf x env) st' (QT trim st.length tmp P (f s x)))
    (hr : ∀ s', s' = l.foldl f s → ∀ env' st', P s' env' st' → Wp cf rest env' st' (R (B s'))) : Wp cf (.for_ tg it body tmp trim :: rest) env st (R (lt (l.foldl f s) B)) :=
  wp_for P safe f envOf hi h0 hs hbd hb (hr _ rfl)
theorem wl_while {c : E} {s : σ} (P : σ → MP.Env → Sto → Prop) (sc : σ → Prop) (cb : σ → Bool) (sf : σ → Prop) (f : σ → σ) (h0 : P s env st) (hs : whS sc cb sf f wmost s)
    (hc : ∀ s env st, P s env st → sc s → Vv cf c env st (cb s)) (hb : ∀ s env st', P s env st' → cb s = true → sf s → Wp cf body env st' (QT trim st.length tmp P (f s)))
    (hr : ∀ s', s' = whl cb f wmost s → ∀ env' st', P s' env' st' → Wp cf rest env' st' (R (B s'))) : Wp cf (.while_ c body tmp trim :: rest) env st (R (lt (whl cb f wmost s) B)) :=
  wp_while P sc cb sf f h0 hs hc hb (hr _ rfl)
end
end
end MP
namespace MP
open PySem PySem.Spec PyProof.Rows L2
open Enc (enc)
/-! a list that a def has made is taken over -/
section
variable {α ρ : Type} [Enc α] {cf : CF} {env : MP.Env} {st : Sto} {rest : List S}
/-- one list, or a pair of lists, in cells of their own -/
def Relc (x : List α) (d : D) (st : Sto) : Prop := relay d st = some (.ref 0, [.lst (x.map enc)])
def QRc (x : List α) (r : MP.X) : Prop := ∃ d st', endR r = .ok d st' ∧ Relc x d st'
def QEc (x : Except Str (List α)) (r : MP.X) : Prop := match x with
  | .ok x => QRc x r
  | .error c => ∃ st', endR r = .err c st'
def Okc (cf : CF) (f : Nat) (ts : List D) (x : List α) : Prop := ∃ d st', cf f ts [] = .ok d st' ∧ Relc x d st'
def Okce (cf : CF) (f : Nat) (ts : List D) (x : Except Str (List α)) : Prop := match x with
  | .ok x => Okc cf f ts x
  | .error c => ∃ st', cf f ts [] = .err c st'
theorem okc_of {T : Nat → Option Def} {k f : Nat} {d : Def} {ts : List D} {x : List α} (h : T f = some d) (hl : ts.length = d.pars.length) (hw : Wp (run T k) d.body (ts.map some ++ List.replicate (d.locs.length - ts.length) Option.none) [] (QRc x)) : Okc (run T (k + 1)) f ts x := by
  unfold Okc
  rw [run_at h hl]
  exact hw
theorem okce_of {T : Nat → Option Def} {k f : Nat} {d : Def} {ts : List D} {x : Except Str (List α)} (h : T f = some d) (hl : ts.length = d.pars.length) (hw : Wp (run T k) d.body (ts.map some ++ List.replicate (d.locs.length - ts.length) Option.none) [] (QEc x)) : Okce (run T (k + 1)) f ts x := by
  unfold Okce Okc
  cases x <;> rw [run_at h hl] <;> exact hw
theorem okce_ok [Inhabited α] {f : Nat} {ts : List D} {m : Except Str (List α)} (h : Okce cf f ts m) (hm : isOk m) : Okc cf f ts (okv m) := by
  obtain ⟨x, rfl⟩ := hm
  exact h
theorem QEc_ok {x : List α} {r : MP.X} (h : QRc x r) : QEc (.ok x) r := h
theorem QEc_er {c : Str} {env' : MP.Env} {st' : Sto} : QEc (α := α) (.error c) (.err c env' st') := ⟨st', rfl⟩
theorem relc_ref {st : Sto} {n : Nat} {x : List α} (h : st[n]? = some (.lst (x.map enc))) : Relc x (.ref n) st := by
  have hn : norefs (x.map (enc : α → D)) = true := nrs x
  have e1 : keepC st [n] = some [.lst (x.map enc)] := by
    unfold keepC
    rw [h]
    dsimp only
    rw [if_pos hn]
    rfl
  have e2 : (D.ref n).mapRef (ren [n]) = some (.ref 0) := by
    show ren [n] n = _
    unfold ren
    simp
  show relay (.ref n) st = _
  unfold relay
  rw [show refsOf (.ref n) = [n] from rfl, e1, e2, if_pos (by simp)]
theorem Relc.okp {f : Nat} {ts : List D} {x : List α} (h : Okc cf f ts x) : Okp cf f ts x := by
  obtain ⟨d, st', h1, h2⟩ := h
  refine ⟨d, st', h1, ?_⟩
  unfold Relc relay at h2
  split at h2
  · split at h2
    · rename_i x1 x2 e1 e2
      cases h2
      cases d with
      | ref n =>
        have e1 : keepC st' [n] = some [.lst (x.map enc)] := e1
        unfold keepC at e1
        split at e1
        · rename_i ds e3
          split at e1
          · rename_i hn
            split at e1
            · cases e1
              exact frz_ref e3 hn
            · cases e1
          · cases e1
        · cases e1
      | none => cases e2
      | bool _ => cases e2
      | int _ => cases e2
      | str _ => cases e2
      | scr _ => cases e2
      | list xs => simp only [D.mapRef] at e2; split at e2 <;> cases e2
      | tup xs => simp only [D.mapRef] at e2; split at e2 <;> cases e2
      | dk _ xs => simp only [D.mapRef] at e2; split at e2 <;> cases e2
      | dt _ xs => simp only [D.mapRef] at e2; split at e2 <;> cases e2
    · cases h2
  · cases h2
theorem okc_oke {f : Nat} {ts : List D} {x : Except Str (List α)} (h : Okce cf f ts x) : Oke cf f ts x := by
  cases x with
  | ok x => exact Relc.okp h
  | error c => exact h
theorem wp_retcc {i n : Nat} {x : List α} (h : env[i]? = some (some (.ref n))) (h2 : st[n]? = some (.lst (x.map enc))) : Wp cf (.ret (.var i) :: rest) env st (QRc x) := by
  have : exL cf (.ret (.var i) :: rest) env st = .rt (.ref n) st := by rw [exL_cons, exS_ret, evE_eq, evX_var, h]; rfl
  refine ⟨.ref n, st, ?_, relc_ref h2⟩
  show endR (exL cf (.ret (.var i) :: rest) env st) = _
  rw [this]; rfl
theorem wl_callC (R : ρ → MP.X → Prop) {i f : Nat} {es : Es} {ts : List D} {x : List α} {B : List α → ρ} (h : As cf es env st ts) (hf : Okc cf f ts x) (hr : ∀ x', x' = x → Wp cf rest (env.set i (some (.ref st.length))) (st ++ [.lst (x'.map enc)]) (R (B x'))) :
    Wp cf (.set i (.callC f es) :: rest) env st (R (lt x B)) := by
  refine wp_step ?_ (hr x rfl)
  obtain ⟨d, st', hf, hre⟩ := hf
  rw [exS_set, evE_eq, evX_callC, h.1, MP.R.bind_ok, callC_at h.2 hf hre]
  have e1 : (D.ref 0).shift st.length = .ref st.length := by
    show D.ref (0 + st.length) = _
    rw [Nat.zero_add]
  rw [e1]
  show MP.X.nx _ (st ++ [Cell.shift st.length (.lst (x.map enc))]) = _
  rw [cell_shift_nr (nrs x)]
  rfl
/-! a pair of lists, each in a cell of its own -/
variable {β : Type} [Enc β]
def Relc2 (x : T2 (List α) (List β)) (d : D) (st : Sto) : Prop := relay d st = some (.tup [.ref 0, .ref 1], [.lst (x.a.map enc), .lst (x.b.map enc)]) ∧ frz st d = some (enc x)
def QRc2 (x : T2 (List α) (List β)) (r : MP.X) : Prop := ∃ d st', endR r = .ok d st' ∧ Relc2 x d st'
def QEc2 (x : Except Str (T2 (List α) (List β))) (r : MP.X) : Prop := match x with
  | .ok x => QRc2 x r
  | .error c => ∃ st', endR r = .err c st'
def Okc2 (cf : CF) (f : Nat) (ts : List D) (x : T2 (List α) (List β)) : Prop := ∃ d st', cf f ts [] = .ok d st' ∧ Relc2 x d st'
def Okce2 (cf : CF) (f : Nat) (ts : List D) (x : Except Str (T2 (List α) (List β))) : Prop := match x with
  | .ok x => Okc2 cf f ts x
  | .error c => ∃ st', cf f ts [] = .err c st'
theorem okc2_of {T : Nat → Option Def} {k f : Nat} {d : Def} {ts : List D} {x : T2 (List α) (List β)} (h : T f = some d) (hl : ts.length = d.pars.length) (hw : Wp (run T k) d.body (ts.map some ++ List.replicate (d.locs.length - ts.length) Option.none) [] (QRc2 x)) : Okc2 (run T (k + 1)) f ts x := by
  unfold Okc2
  rw [run_at h hl]
  exact hw
theorem okce2_of {T : Nat → Option Def} {k f : Nat} {d : Def} {ts : List D} {x : Except Str (T2 (List α) (List β))} (h : T f = some d) (hl : ts.length = d.pars.length) (hw : Wp (run T k) d.body (ts.map some ++ List.replicate (d.locs.length - ts.length) Option.none) [] (QEc2 x)) : Okce2 (run T (k + 1)) f ts x := by
  unfold Okce2 Okc2
  cases x <;> rw [run_at h hl] <;> exact hw
theorem okce2_ok [Inhabited α] [Inhabited β] {f : Nat} {ts : List D} {m : Except Str (T2 (List α) (List β))} (h : Okce2 cf f ts m) (hm : isOk m) : Okc2 cf f ts (okv m) := by
  obtain ⟨x, rfl⟩ := hm
  exact h
theorem relc2_ref {st : Sto} {n m : Nat} {x : List α} {y : List β} (h : st[n]? = some (.lst (x.map enc))) (h2 : st[m]? = some (.lst (y.map enc))) (hnm : n ≠ m) : Relc2 ⟨x, y⟩ (.tup [.ref n, .ref m]) st := by
  have hn : norefs (x.map (enc : α → D)) = true := nrs x
  have hn2 : norefs (y.map (enc : β → D)) = true := nrs y
  have e1 : keepC st [n, m] = some [.lst (x.map enc), .lst (y.map enc)] := by
    unfold keepC
    rw [h]
    dsimp only
    rw [if_pos hn]
    unfold keepC
    rw [h2]
    dsimp only
    rw [if_pos hn2]
    rfl
  have e3 : ren [n, m] n = some (.ref 0) := by
    unfold ren
    simp
  have e4 : ren [n, m] m = some (.ref 1) := by
    unfold ren
    have : (n == m) = false := by simpa using hnm
    simp [List.idxOf_cons, this]
  have e2 : (D.tup [.ref n, .ref m]).mapRef (ren [n, m]) = some (.tup [.ref 0, .ref 1]) := by
    simp only [D.mapRef, mapRefs, e3, e4]
  refine ⟨?_, frz_tup (frzs_cons (frz_ref h hn) (frzs_cons (frz_ref h2 hn2) frzs_nil))⟩
  unfold relay
  rw [show refsOf (.tup [.ref n, .ref m]) = [n, m] from rfl, e1, e2, if_pos (by simpa using hnm)]
theorem okc2_oke {f : Nat} {ts : List D} {x : Except Str (T2 (List α) (List β))} (h : Okce2 cf f ts x) : Oke cf f ts x := by
  cases x with
  | ok x =>
    obtain ⟨d, st', h1, h2⟩ := h
    exact ⟨d, st', h1, h2.2⟩
  | error c => exact h
theorem okc2_okp {f : Nat} {ts : List D} {x : T2 (List α) (List β)} (h : Okc2 cf f ts x) : Okp cf f ts x := by
  obtain ⟨d, st', h1, h2⟩ := h
  exact ⟨d, st', h1, h2.2⟩
theorem QEc2_ok {x : T2 (List α) (List β)} {r : MP.X} (h : QRc2 x r) : QEc2 (.ok x) r := h
theorem QEc2_er {c : Str} {env' : MP.Env} {st' : Sto} : QEc2 (α := α) (β := β) (.error c) (.err c env' st') := ⟨st', rfl⟩
theorem nl_all [NL α] : ∀ l : List α, nolists (l.map enc) = true
  | [] => rfl
  | a :: l => by
    show ((enc a).nolist && nolists (l.map enc)) = true
    rw [NL.nl a, nl_all l]; rfl
theorem nl_flat [NL α] (l : List α) : (Cell.lst (l.map enc)).nolist = true := nl_all l
theorem wp_retc2 {i f : Nat} {es : Es} {ts : List D} {n : Nat} {x : List α} {y : List β} (h : env[i]? = some (some (.ref n))) (h2 : st[n]? = some (.lst (x.map enc))) (hz : Zs cf es env st ts) (hf : Okc cf f ts y) (hfl : (Cell.lst (y.map (enc : β → D))).nolist = true) :
    Wp cf (.ret (.tup (.cons (.var i) (.cons (.callC f es) .nil))) :: rest) env st (QRc2 ⟨x, y⟩) := by
  obtain ⟨ds, e1, hz⟩ := hz
  obtain ⟨d, st', hf, hre⟩ := hf
  have hs : sizeLine = 16777216 := sizeLine_eq
  have hlt := (List.getElem?_eq_some_iff.mp h2).1
  have e2 : callC cf f ds st = .ok (.v (.ref st.length)) (st ++ [.lst (y.map enc)]) := by
    rw [callC_atz hz hf hre rfl (by simpa using hfl)]
    show R.ok (Val.v (D.ref (0 + st.length))) (st ++ [Cell.shift st.length (.lst (y.map enc))]) = _
    rw [cell_shift_nr (nrs y), Nat.zero_add]
  have e3 : exL cf (.ret (.tup (.cons (.var i) (.cons (.callC f es) .nil))) :: rest) env st = .rt (.tup [.ref n, .ref st.length]) (st ++ [.lst (y.map enc)]) := by
    rw [exL_cons, exS_ret, evE_eq, evX_tup, evXs_cons, evX_var, h]
    simp only [MP.R.bind_ok]
    rw [evXs_cons, evX_callC, e1]
    simp only [MP.R.bind_ok]
    rw [e2]
    simp only [MP.R.bind_ok]
    rw [evXs_nil]
    simp only [MP.R.bind_ok]
    rw [if_pos (by show 2 ≤ sizeLine; omega)]
    rfl
  refine ⟨.tup [.ref n, .ref st.length], st ++ [.lst (y.map enc)], ?_, relc2_ref (by rw [List.getElem?_append_left hlt]; exact h2) (by simp) (by omega)⟩
  show endR (exL cf _ env st) = _
  rw [e3]; rfl
theorem wl_callC2 (R : ρ → MP.X → Prop) {i f : Nat} {es : Es} {ts : List D} {x : T2 (List α) (List β)} {B : T2 (List α) (List β) → ρ} (h : As cf es env st ts) (hf : Okc2 cf f ts x) (hr : ∀ x', x' = x → Wp cf rest (env.set i (some (.tup [.ref st.length, .ref (st.length + 1)]))) (st ++ [.lst (x'.a.map enc), .lst (x'.b.map enc)]) (R (B x'))) :
    Wp cf (.set i (.callC f es) :: rest) env st (R (lt x B)) := by
  refine wp_step ?_ (hr x rfl)
  obtain ⟨d, st', hf, hre⟩ := hf
  rw [exS_set, evE_eq, evX_callC, h.1, MP.R.bind_ok, callC_at h.2 hf hre.1]
  have e1 : (D.tup [.ref 0, .ref 1]).shift st.length = .tup [.ref st.length, .ref (st.length + 1)] := by
    show D.tup [.ref (0 + st.length), .ref (1 + st.length)] = _
    rw [Nat.zero_add, Nat.add_comm]
  rw [e1]
  show MP.X.nx _ (st ++ [Cell.shift st.length (.lst (x.a.map enc)), Cell.shift st.length (.lst (x.b.map enc))]) = _
  rw [cell_shift_nr (nrs x.a), cell_shift_nr (nrs x.b)]
  rfl
/-! the parts of such a pair -/
theorem evX_ixv {a : E} {k : Int} {d t : D} (h : evX cf a env st = .ok (.v d) st) (ht : ixV st d (.int k) = some t) : evX cf (.ix a (.lit (.int k))) env st = .ok (.v t) st := by
  rw [evX_ix, h, R.bind_ok, evX_lit, R.bind_ok]
  show (match ixV st d (.int k) with
    | some t => R.ok (Val.v t) st
    | Option.none => R.stuck) = _
  rw [ht]
theorem pair_var {i : Nat} {d : D} (h : env[i]? = some (some d)) : evX cf (.var i) env st = .ok (.v d) st := by
  rw [evX_var, h]
theorem vv_pair0 {i n m : Nat} {x : List α} (h : env[i]? = some (some (.tup [.ref n, .ref m]))) (h2 : st[n]? = some (.lst (x.map enc))) : Vv cf (.ix (.var i) (.lit (.int 0))) env st x :=
  ⟨.v (.ref n), evX_ixv (pair_var h) rfl, .inr ⟨n, _, rfl, h2, rfl⟩⟩
theorem vv_pair1 {i n m : Nat} {x : List α} (h : env[i]? = some (some (.tup [.ref n, .ref m]))) (h2 : st[m]? = some (.lst (x.map enc))) : Vv cf (.ix (.var i) (.lit (.int 1))) env st x :=
  ⟨.v (.ref m), evX_ixv (pair_var h) rfl, .inr ⟨m, _, rfl, h2, rfl⟩⟩
theorem tv_pairlen {i n m : Nat} (h : env[i]? = some (some (.tup [.ref n, .ref m]))) : Tv cf (.bi .len (.cons (.var i) .nil)) env st (2 : Int) :=
  ⟨.v (.int 2), by rw [evX_bi, evXs_cons, pair_var h, R.bind_ok, evXs_nil, R.bind_ok, R.bind_ok]; rfl, rfl⟩
theorem tv_pairtup {i n m : Nat} (h : env[i]? = some (some (.tup [.ref n, .ref m]))) : Tv cf (.bi (.isinst "tuple") (.cons (.var i) .nil)) env st true :=
  ⟨.v (.bool true), by rw [evX_bi, evXs_cons, pair_var h, R.bind_ok, evXs_nil, R.bind_ok, R.bind_ok]; rfl, rfl⟩
/-- y[k].append(x) -/
theorem wl_appendp (R : ρ → MP.X → Prop) {a : E} {n : Nat} {e : E} {l : List α} {x : α} {B : List α → ρ} (hv : evX cf a env st = .ok (.v (.ref n)) st) (hn : st[n]? = some (.lst (l.map enc))) (h : Tv cf e env st x) (hz : Sz1 l) (hr : ∀ l', l' = l ++ [x] → Wp cf rest env (st.set n (.lst (l'.map enc))) (R (B l'))) :
    Wp cf (.expr (.mt .append a (.cons e .nil)) :: rest) env st (R (lt (l ++ [x]) B)) := by
  obtain ⟨w, e1, h1⟩ := h
  refine wp_step (exS_expr_ok (w := .v .none) (st' := st.set n (.lst ((l ++ [x]).map enc))) ?_) (hr _ rfl)
  have hs : sizeLine = 16777216 := sizeLine_eq
  rw [evX_mt, hv, MP.R.bind_ok]
  rw [if_pos (by show (listOf st (.ref n)).isSome = true; rw [listOf_ref, hn]; rfl), evXs_cons, e1, MP.R.bind_ok, evXs_nil, MP.R.bind_ok, MP.R.bind_ok]
  show mtV .append (.ref n) [w.d] st = _
  rw [mt_append, hn]
  dsimp only
  rw [if_pos (by rw [List.length_map, hs]; exact hz), h1, List.map_append]
  rfl
end
end MP
namespace MP
open PySem
open Enc (enc)
theorem frz_bool_of {st : Sto} {d : D} {b : Bool} (h : frz st d = some (.bool b)) : d = .bool b := by
  cases d with
  | bool c => have : some (D.bool c) = some (D.bool b) := h; injection this
  | none => cases h
  | int i => cases h
  | str s => cases h
  | scr s => cases h
  | ref n =>
    have h : readN st.length st n = some (.bool b) := h
    cases hk : st.length with
    | zero => rw [hk] at h; cases h
    | succ k =>
      rw [hk] at h
      unfold readN at h
      split at h
      · split at h <;> cases h
      · cases h
  | list xs =>
    unfold frz at h
    simp only [D.mapRef] at h
    split at h <;> cases h
  | tup xs =>
    unfold frz at h
    simp only [D.mapRef] at h
    split at h <;> cases h
  | dk ks xs =>
    unfold frz at h
    simp only [D.mapRef] at h
    split at h <;> cases h
  | dt ks xs =>
    unfold frz at h
    simp only [D.mapRef] at h
    split at h <;> cases h
/-- the law says True -/
theorem law_of {T : Nat → Option Def} {k f : Nat} {sc : Sc} {m : Bool} (h : Okp (run T k) f [enc sc] m) (hm : m = true) : ∃ st, run T k f [.scr sc.ns] [] = .ok (.bool true) st := by
  obtain ⟨d, st, e, hd⟩ := h
  subst hm
  have := frz_bool_of (b := true) hd
  subst this
  exact ⟨st, e⟩
end MP

/-! Trees of texts and tuples; a written table; max(.., default=0). -/
namespace MP
open PySem PySem.Spec PyProof.Rows L2
open Enc (enc)
/-- a text or a tuple of such -/
inductive Sn where
  | x (t : Tx)
  | n (l : List Sn)
instance : Inhabited Sn := ⟨.n []⟩
mutual
def Sn.enc : Sn → D
  | .x t => D.str t.str
  | .n l => D.tup (Sn.encs l)
def Sn.encs : List Sn → List D
  | [] => []
  | a :: r => Sn.enc a :: Sn.encs r
end
theorem Sn.encs_map : ∀ l : List Sn, Sn.encs l = l.map Sn.enc
  | [] => by rw [Sn.encs]; rfl
  | a :: r => by rw [Sn.encs, Sn.encs_map r]; rfl
mutual
theorem Sn.nr : ∀ x : Sn, x.enc.noref = true
  | .x t => by rw [Sn.enc]; rfl
  | .n l => by rw [Sn.enc]; exact Sn.nrs l
theorem Sn.nrs : ∀ l : List Sn, norefs (Sn.encs l) = true
  | [] => by rw [Sn.encs]; rfl
  | a :: r => by rw [Sn.encs, norefs_cons, Sn.nr a, Sn.nrs r]; first | done | rfl
end
instance : Enc Sn := ⟨Sn.enc, Sn.nr⟩
theorem sn_x (t : Tx) : (enc (Sn.x t) : D) = D.str t.str := by show Sn.enc _ = _; rw [Sn.enc]
theorem sn_n (l : List Sn) : (enc (Sn.n l) : D) = D.tup (l.map enc) := by show Sn.enc _ = _; rw [Sn.enc, Sn.encs_map]; rfl
mutual
theorem Sn.layL : ∀ x : Sn, x.enc.py.canLay0 = true
  | .x t => by rw [Sn.enc]; exact Lay.lay (α := Tx) t
  | .n l => by
    rw [Sn.enc]
    show PyData.canLay0 (.tuple (pys (Sn.encs l))) = true
    simp only [PyData.canLay0]
    exact Sn.layLs l
theorem Sn.layLs : ∀ l : List Sn, PyData.canLayAll0 (pys (Sn.encs l)) = true
  | [] => by rw [Sn.encs]; rfl
  | a :: r => by
    rw [Sn.encs]
    show PyData.canLayAll0 (a.enc.py :: pys (Sn.encs r)) = true
    simp only [PyData.canLayAll0, Sn.layL a, Sn.layLs r, Bool.and_self]
end
instance : Lay Sn := ⟨Sn.layL⟩
mutual
theorem Sn.nlL : ∀ x : Sn, x.enc.nolist = true
  | .x t => by rw [Sn.enc]; rfl
  | .n l => by rw [Sn.enc]; exact Sn.nlLs l
theorem Sn.nlLs : ∀ l : List Sn, nolists (Sn.encs l) = true
  | [] => by rw [Sn.encs]; rfl
  | a :: r => by
    rw [Sn.encs]
    show (a.enc.nolist && nolists (Sn.encs r)) = true
    rw [Sn.nlL a, Sn.nlLs r]; rfl
end
instance : NL Sn := ⟨Sn.nlL⟩
instance : NS Sn := ⟨fun x ds => by
  cases x with
  | x t => rw [sn_x]; exact fun h => by cases h
  | n l => rw [sn_n]; exact fun h => by cases h⟩
def Sn.isX : Sn → Bool
  | .x _ => true
  | _ => false
def Sn.isN : Sn → Bool
  | .n _ => true
  | _ => false
def Sn.tx : Sn → Tx
  | .x t => t
  | _ => default
def Sn.its : Sn → List Sn
  | .n l => l
  | _ => []
theorem Sn.tx_of {s : Sn} (h : s.isX = true) : s = .x s.tx := by cases s; rfl; cases h
theorem Sn.its_of {s : Sn} (h : s.isN = true) : s = .n s.its := by cases s; cases h; rfl
variable {cf : CF} {env : MP.Env} {st : Sto} {a b e : E}
theorem tv_rtx {s : Sn} (h : Tv cf e env st s) (hx : s.isX = true) : Tv cf e env st s.tx := by
  obtain ⟨w, e1, h1⟩ := h
  refine ⟨w, e1, ?_⟩
  rw [h1, Sn.tx_of hx, sn_x]; rfl
theorem tv_xr {t : Tx} (h : Tv cf e env st t) : Tv cf e env st (Sn.x t) := by
  obtain ⟨w, e1, h1⟩ := h
  exact ⟨w, e1, by rw [h1, sn_x]; rfl⟩
theorem tv_rix {s : Sn} {i : Int} (ha : Tv cf a env st s) (hb : Vv cf b env st i) (hn : s.isN = true) (h : InR s.its.length i) : Tv cf (.ix a b) env st (ix s.its i) :=
  ix_of ha.v hb fun d hd => by
    rw [hd.ns, Sn.its_of hn, sn_n]
    show atI (s.its.map enc) i = _
    rw [atI_map, atI_ix h]; rfl
theorem tv_rlen {s : Sn} (ha : Tv cf a env st s) (hn : s.isN = true) : Tv cf (.bi .len (.cons a .nil)) env st (len s.its) :=
  bi1_of ha.v fun d hd => ⟨.v (.int s.its.length), by
    rw [hd.ns, Sn.its_of hn, sn_n]
    show R.ok (Val.v (.int ((s.its.map enc).length : Nat))) st = _
    rw [List.length_map]; rfl, rfl⟩
theorem tv_risx {s : Sn} (ha : Tv cf a env st s) : Tv cf (.bi (.isinst "str") (.cons a .nil)) env st s.isX :=
  tv_isinst ha.v fun d hd => by
    rw [hd.ns]
    cases s with
    | x t => rw [sn_x]; exact ⟨"str", rfl, show isinstT "str" "str" = true by decide⟩
    | n l => rw [sn_n]; exact ⟨"tuple", rfl, show isinstT "str" "tuple" = false by decide⟩
theorem tv_risn {s : Sn} (ha : Tv cf a env st s) : Tv cf (.bi (.isinst "tuple") (.cons a .nil)) env st s.isN :=
  tv_isinst ha.v fun d hd => by
    rw [hd.ns]
    cases s with
    | x t => rw [sn_x]; exact ⟨"str", rfl, show isinstT "tuple" "str" = false by decide⟩
    | n l => rw [sn_n]; exact ⟨"tuple", rfl, show isinstT "tuple" "tuple" = true by decide⟩
/-- behind the first -/
theorem tv_rtail {s : Sn} (ha : Tv cf a env st s) (hn : s.isN = true) (h0 : 0 < s.its.length) : Tv cf (.sl a (.lit (.int 1)) (.lit .none)) env st (Sn.n (s.its.drop 1)) := by
  obtain ⟨v, e1, h1⟩ := ha
  refine ⟨.v (enc (Sn.n (s.its.drop 1))), ?_, rfl⟩
  rw [evX_sl, e1, R.bind_ok, evX_lit, R.bind_ok]
  show ((evX cf (.lit .none) env st).bind fun z st => _) = _
  rw [evX_lit, R.bind_ok, h1, Sn.its_of hn, sn_n, sn_n]
  generalize hl : s.its = l at *
  have hl2 : (l.map (enc : Sn → D)).length = l.length := List.length_map _
  show (if HT.sIx (l.map enc).length 0 (some 1) = 0 ∧ HT.sIx (l.map enc).length (l.map enc).length none = (l.map enc).length then R.stuck else R.ok (Val.v (.tup (cutA (l.map enc) (some 1) none))) st) = _
  have e1 : HT.sIx (l.map (enc : Sn → D)).length 0 (some 1) = 1 := by
    unfold HT.sIx
    rw [hl2]
    simp only
    rw [if_neg (by decide)]
    show min 1 l.length = 1
    omega
  rw [if_neg (by rw [e1]; simp)]
  unfold cutA
  rw [e1]
  show R.ok (Val.v (.tup (((l.map enc).drop 1).take ((l.map (enc : Sn → D)).length - 1)))) st = _
  rw [List.take_of_length_le (by rw [List.length_drop]; exact Nat.le_refl _), ← List.map_drop]
  rfl
theorem iv_rseq {s : Sn} (h : Tv cf e env st s) (hn : s.isN = true) : Iv cf (.seq e) env st s.its := by
  obtain ⟨w, e1, h1⟩ := h
  have h1 : w.d = D.tup (s.its.map enc) := by rw [h1]; conv => lhs; rw [Sn.its_of hn, sn_n]
  refine ⟨w.d, ?_, by rw [h1]; rfl⟩
  rw [evI_seq, e1, R.bind_ok]
  unfold itR
  rw [h1]; rfl
theorem iw_rseq {s : Sn} (h : Tv cf e env st s) (hn : s.isN = true) : Iw cf (.seq e) env st s.its := by
  obtain ⟨w, e1, h1⟩ := h
  have h1 : w.d = D.tup (s.its.map enc) := by rw [h1]; conv => lhs; rw [Sn.its_of hn, sn_n]
  refine ⟨w.d, ?_, fun _ => by rw [h1]; rfl⟩
  rw [evI_seq, e1, R.bind_ok]
  unfold itR
  rw [h1]; rfl
theorem nv_rlist {s : Sn} (ha : Tv cf a env st s) (hn : s.isN = true) : Nv cf (.bi .listOf (.cons a .nil)) env st s.its :=
  bi1n_of ha.v fun d hd => by
    rw [hd.ns]
    conv => lhs; rw [Sn.its_of hn, sn_n]
    rfl
theorem tv_maxd0 {l : List Int} (ha : Vv cf a env st l) : Tv cf (.bi .maxD0 (.cons a .nil)) env st (maxI l) :=
  bi1_of ha fun d hd => ⟨.v (.int (maxI l)), by show onInts d st _ = _; rw [ints_of hd], rfl⟩
/-! a written table -/
def lookX (t : Tx) : List (Tx × Int) → Option Int
  | (k, v) :: r => if k = t then some v else lookX t r
  | [] => none
theorem lookS_X (t : Tx) : ∀ T : List (Tx × Int), lookS t.str (T.map fun p => p.1.str) (T.map fun p => p.2) = lookX t T
  | [] => rfl
  | (k, v) :: r => by
    show (if (k.str == t.str) = true then some v else lookS t.str _ _) = if k = t then some v else lookX t r
    rw [lookS_X t r]
    by_cases q : k = t
    · rw [if_pos (by rw [q]; simp), if_pos q]
    · rw [if_neg (fun z => q (Tx.inj (by simpa using z))), if_neg q]
theorem tv_tabin {t : Tx} {g : Str} (T : List (Tx × Int)) (ha : Vv cf a env st t) : Tv cf (.bi (.tabIn false g (T.map fun p => p.1.str) (T.map fun p => p.2)) (.cons a .nil)) env st (lookX t T).isSome :=
  bi1_of ha fun d hd => ⟨.v (.bool (lookX t T).isSome), by
    rw [hd.ns]
    show R.ok (Val.v (.bool (false != (lookS t.str (T.map fun p => p.1.str) (T.map fun p => p.2)).isSome))) st = _
    rw [lookS_X]
    cases (lookX t T).isSome <;> rfl, rfl⟩
theorem tv_tabnotin {t : Tx} {g : Str} (T : List (Tx × Int)) (ha : Vv cf a env st t) : Tv cf (.bi (.tabIn true g (T.map fun p => p.1.str) (T.map fun p => p.2)) (.cons a .nil)) env st (!(lookX t T).isSome) :=
  bi1_of ha fun d hd => ⟨.v (.bool (!(lookX t T).isSome)), by
    rw [hd.ns]
    show R.ok (Val.v (.bool (true != (lookS t.str (T.map fun p => p.1.str) (T.map fun p => p.2)).isSome))) st = _
    rw [lookS_X]
    cases (lookX t T).isSome <;> rfl, rfl⟩
theorem tv_tabget {t : Tx} {g : Str} (T : List (Tx × Int)) (ha : Vv cf a env st t) (h : (lookX t T).isSome = true) : Tv cf (.bi (.tabGet g (T.map fun p => p.1.str) (T.map fun p => p.2)) (.cons a .nil)) env st (uw (lookX t T)) := by
  obtain ⟨i, hi⟩ := Option.isSome_iff_exists.mp h
  refine bi1_of ha fun d hd => ⟨.v (.int i), ?_, by rw [hi]; rfl⟩
  rw [hd.ns]
  show (match lookS t.str (T.map fun p => p.1.str) (T.map fun p => p.2) with
    | some i => R.ok (Val.v (.int i)) st
    | Option.none => R.stuck) = _
  rw [lookS_X, hi]
theorem dk_inj {ks ks' : List Str} {vs vs' : List Int} (h : some (D.dk (ks.map Sum.inr) (vs.map D.int)) = some (D.dk (ks'.map Sum.inr) (vs'.map D.int))) : ks = ks' ∧ vs = vs' := by
  injection h with h
  injection h with h1 h2
  exact ⟨(List.map_inj_right fun _ _ e => Sum.inr.inj e).mp h1, (List.map_inj_right fun _ _ e => D.int.inj e).mp h2⟩
end MP

namespace Law
open PySem PySem.Spec PyProof.Rows L2 MP
open MP.Enc (enc)
noncomputable section
def tab_PARTS : List (Tx × Int) := [(tx "yes", 0), (tx "not", 1), (tx "and", 2), (tx "or", 2), (tx "some next", 1), (tx "all next", 1), (tx "some until", 2), (tx "all until", 2), (tx "some always", 1), (tx "all always", 1)]
def t_rises_I_1 (some_ : (List Int)) (s1 : Unit) (k_ : Int) : Out (Bool) (Unit) :=
  if (decide ((ix some_ k_) ≤ (ix some_ (k_ - (1 : Int))))) = true then
    .rt false
  else
    .nx ()
def u_rises_I_1 (some_ : (List Int)) (s1 : Unit) (k_ : Int) : Prop :=
  (InR (List.length some_) (k_ - (1 : Int))) ∧
  (InR (List.length some_) k_) ∧
  True
def m_rises_I (some_ : (List Int)) : Bool :=
  (foldO (t_rises_I_1 some_) (rng2 (1 : Int) (len some_)) ()).then (fun x => x) fun f1 =>
  true
def s_rises_I (some_ : (List Int)) : Prop :=
  (Rg2Ok (1 : Int) (len some_)) ∧
  (foldOS (u_rises_I_1 some_) (t_rises_I_1 some_) (rng2 (1 : Int) (len some_)) ()) ∧
  True

def t_rises_X_1 (some_ : (List Tx)) (s1 : Unit) (k_ : Int) : Out (Bool) (Unit) :=
  if (!(Tx.lt (ix some_ (k_ - (1 : Int))) (ix some_ k_))) = true then
    .rt false
  else
    .nx ()
def u_rises_X_1 (some_ : (List Tx)) (s1 : Unit) (k_ : Int) : Prop :=
  (InR (List.length some_) (k_ - (1 : Int))) ∧
  (InR (List.length some_) k_) ∧
  True
def m_rises_X (some_ : (List Tx)) : Bool :=
  (foldO (t_rises_X_1 some_) (rng2 (1 : Int) (len some_)) ()).then (fun x => x) fun f1 =>
  true
def s_rises_X (some_ : (List Tx)) : Prop :=
  (Rg2Ok (1 : Int) (len some_)) ∧
  (foldOS (u_rises_X_1 some_) (t_rises_X_1 some_) (rng2 (1 : Int) (len some_)) ()) ∧
  True

def m_are_marks (marks : (List Tx)) : Bool :=
  ((List.all marks (fun (mark : Tx) => ((decide ((Tx.len mark) = (1 : Int))) && (Tx.has (tx "abcdef") mark)))) && (m_rises_X marks))
def s_are_marks (marks : (List Tx)) : Prop :=
  (Sz marks) ∧
  (∀ mark ∈ marks, Sz (mark).cs) ∧
  (((List.all marks (fun (mark : Tx) => ((decide ((Tx.len mark) = (1 : Int))) && (Tx.has (tx "abcdef") mark)))) = true) → s_rises_X marks) ∧
  True

def m_are_rooms (rooms : (List Int)) (many : Int) : Bool :=
  ((List.all rooms (fun (room : Int) => ((decide ((0 : Int) ≤ room)) && (decide (room < many))))) && (m_rises_I rooms))
def s_are_rooms (rooms : (List Int)) (many : Int) : Prop :=
  (Sz rooms) ∧
  (((List.all rooms (fun (room : Int) => ((decide ((0 : Int) ≤ room)) && (decide (room < many))))) = true) → s_rises_I rooms) ∧
  True

def t_is_world_1 (owners : (List Int)) (marks : (List (List Tx))) (steps : (List (List Int))) (many : Int) (s1 : Unit) (room : Int) : Out (Bool) (Unit) :=
  if ((!(decide ((ix owners room) ∈ ([(0 : Int), (1 : Int)] : List Int)))) || (!(m_are_marks (ix marks room)))) = true then
    .rt false
  else
    if ((decide ((len (ix steps room)) = (0 : Int))) || (!(m_are_rooms (ix steps room) many))) = true then
      .rt false
    else
      .nx ()
def u_is_world_1 (owners : (List Int)) (marks : (List (List Tx))) (steps : (List (List Int))) (many : Int) (s1 : Unit) (room : Int) : Prop :=
  (InR (List.length owners) room) ∧
  (((!(decide ((ix owners room) ∈ ([(0 : Int), (1 : Int)] : List Int)))) = false) → InR (List.length marks) room) ∧
  (((!(decide ((ix owners room) ∈ ([(0 : Int), (1 : Int)] : List Int)))) = false) → s_are_marks (ix marks room)) ∧
  ((((!(decide ((ix owners room) ∈ ([(0 : Int), (1 : Int)] : List Int)))) || (!(m_are_marks (ix marks room)))) = false) →
  (InR (List.length steps) room) ∧
  (((decide ((len (ix steps room)) = (0 : Int))) = false) → InR (List.length steps) room) ∧
  (((decide ((len (ix steps room)) = (0 : Int))) = false) → s_are_rooms (ix steps room) many) ∧
  True)
def m_is_world (owners : (List Int)) (marks : (List (List Tx))) (steps : (List (List Int))) : Bool :=
  lt ((len owners) : Int) fun many =>
  if ((!((decide ((1 : Int) ≤ many)) && (decide (many ≤ (24 : Int))))) || ((!(decide ((len marks) = many))) || (!(decide ((len steps) = many))))) = true then
    false
  else
    (foldO (t_is_world_1 owners marks steps many) (rng many) ()).then (fun x => x) fun f1 =>
    true
def s_is_world (owners : (List Int)) (marks : (List (List Tx))) (steps : (List (List Int))) : Prop :=
  lt ((len owners) : Int) fun many =>
  ((((!((decide ((1 : Int) ≤ many)) && (decide (many ≤ (24 : Int))))) || ((!(decide ((len marks) = many))) || (!(decide ((len steps) = many))))) = false) →
  (RgOk many) ∧
  (foldOS (u_is_world_1 owners marks steps many) (t_is_world_1 owners marks steps many) (rng many) ()) ∧
  True)

def m_ask_world (world : W) : Except PySem.Str Unit :=
  if (!(m_is_world world.a world.b world.c)) = true then
    .error "NoWorld"
  else
    .ok ()
def s_ask_world (world : W) : Prop :=
  (s_is_world world.a world.b world.c) ∧
  True

def m_ask_rooms (world : W) (rooms : (List Int)) : Except PySem.Str Unit :=
  if (!(m_are_rooms rooms (len world.a))) = true then
    .error "NoRoom"
  else
    .ok ()
def s_ask_rooms (world : W) (rooms : (List Int)) : Prop :=
  (s_are_rooms rooms (len world.a)) ∧
  True

def m_ask_player (player : Int) : Except PySem.Str Unit :=
  if (!(decide (player ∈ ([(0 : Int), (1 : Int)] : List Int)))) = true then
    .error "NoPlayer"
  else
    .ok ()
def s_ask_player (player : Int) : Prop :=
  True

def m_ask_marks (marks : (List Tx)) : Except PySem.Str Unit :=
  if (!(m_are_marks marks)) = true then
    .error "NoMark"
  else
    .ok ()
def s_ask_marks (marks : (List Tx)) : Prop :=
  (s_are_marks marks) ∧
  True

def m_marked (world : W) (mark : Tx) : Except PySem.Str (List Int) :=
  els (m_ask_world world) (fun c => .error c) fun (u3 : Unit) =>
  els (m_ask_marks ([mark] : (List Tx))) (fun c => .error c) fun (u2 : Unit) =>
  .ok (List.filter (fun (room : Int) => (decide (mark ∈ (ix world.b room)))) (rng (len world.a)))
def s_marked (world : W) (mark : Tx) : Prop :=
  (s_ask_world world) ∧
  (∀ u3 : Unit, (m_ask_world world) = .ok u3 →
  (s_ask_marks ([mark] : (List Tx))) ∧
  (∀ u2 : Unit, (m_ask_marks ([mark] : (List Tx))) = .ok u2 →
  (RgOk (len world.a)) ∧
  (∀ room ∈ (rng (len world.a)), InR (List.length world.b) room) ∧
  True))

def t_is_plan_1 (world : W) (player : Int) (plan : (List (Option Int))) (s1 : Unit) (room : Int) : Out (Except PySem.Str Bool) (Unit) :=
  if ((Option.isSome (ix plan room)) && ((!(decide ((ix world.a room) = player))) || (!(decide ((uw (ix plan room)) ∈ (ix world.c room)))))) = true then
    .rt (.ok false)
  else
    .nx ()
def u_is_plan_1 (world : W) (player : Int) (plan : (List (Option Int))) (s1 : Unit) (room : Int) : Prop :=
  (InR (List.length plan) room) ∧
  (((Option.isSome (ix plan room)) = true) → InR (List.length world.a) room) ∧
  (((Option.isSome (ix plan room)) = true) → ((!(decide ((ix world.a room) = player))) = false) → InR (List.length plan) room) ∧
  (((Option.isSome (ix plan room)) = true) → ((!(decide ((ix world.a room) = player))) = false) → Option.isSome (ix plan room) = true) ∧
  (((Option.isSome (ix plan room)) = true) → ((!(decide ((ix world.a room) = player))) = false) → InR (List.length world.c) room) ∧
  True
def m_is_plan (world : W) (player : Int) (plan : (List (Option Int))) : Except PySem.Str Bool :=
  els (m_ask_world world) (fun c => .error c) fun (u6 : Unit) =>
  els (m_ask_player player) (fun c => .error c) fun (u5 : Unit) =>
  if (!(decide ((len plan) = (len world.a)))) = true then
    .ok false
  else
    (foldO (t_is_plan_1 world player plan) (rng (len plan)) ()).then (fun x => x) fun f1 =>
    .ok true
def s_is_plan (world : W) (player : Int) (plan : (List (Option Int))) : Prop :=
  (s_ask_world world) ∧
  (∀ u6 : Unit, (m_ask_world world) = .ok u6 →
  (s_ask_player player) ∧
  (∀ u5 : Unit, (m_ask_player player) = .ok u5 →
  (((!(decide ((len plan) = (len world.a)))) = false) →
  (RgOk (len plan)) ∧
  (foldOS (u_is_plan_1 world player plan) (t_is_plan_1 world player plan) (rng (len plan)) ()) ∧
  True)))

def m_ask_plan (world : W) (player : Int) (plan : (List (Option Int))) : Except PySem.Str Unit :=
  if (!(okv (m_is_plan world player plan))) = true then
    .error "NoPlan"
  else
    .ok ()
def s_ask_plan (world : W) (player : Int) (plan : (List (Option Int))) : Prop :=
  (s_is_plan world player plan) ∧
  (isOk (m_is_plan world player plan)) ∧
  True

def t_follow_1 (world : W) (plan : (List (Option Int))) (s1 : (List (List Int))) (room : Int) : (List (List Int)) :=
  if (Option.isNone (ix plan room)) = true then
    lt (s1 ++ [(ix world.c room)] : (List (List Int))) fun steps =>
    steps
  else
    lt (s1 ++ [([(uw (ix plan room))] : (List Int))] : (List (List Int))) fun steps =>
    steps
def u_follow_1 (world : W) (plan : (List (Option Int))) (s1 : (List (List Int))) (room : Int) : Prop :=
  (InR (List.length plan) room) ∧
  (((Option.isNone (ix plan room)) = true) →
  (InR (List.length world.c) room) ∧
  (Sz1 s1) ∧
  True) ∧
  (((Option.isNone (ix plan room)) = false) →
  (InR (List.length plan) room) ∧
  (Option.isSome (ix plan room) = true) ∧
  (Sz1 s1) ∧
  True)
def m_follow (world : W) (player : Int) (plan : (List (Option Int))) : Except PySem.Str W :=
  els (m_ask_plan world player plan) (fun c => .error c) fun (u3 : Unit) =>
  lt (([] : (List (List Int))) : (List (List Int))) fun steps =>
  lt (List.foldl (t_follow_1 world plan) steps (rng (len world.a)) : (List (List Int))) fun f1 =>
  .ok (⟨world.a, (List.map (fun (marks : (List Tx)) => marks) world.b), f1⟩ : W)
def s_follow (world : W) (player : Int) (plan : (List (Option Int))) : Prop :=
  (s_ask_plan world player plan) ∧
  (∀ u3 : Unit, (m_ask_plan world player plan) = .ok u3 →
  lt (([] : (List (List Int))) : (List (List Int))) fun steps =>
  (RgOk (len world.a)) ∧
  (foldS (u_follow_1 world plan) (t_follow_1 world plan) (rng (len world.a)) steps) ∧
  lt (List.foldl (t_follow_1 world plan) steps (rng (len world.a)) : (List (List Int))) fun f1 =>
  (Sz world.b) ∧
  True)

def m_ask_game (world : W) (player : Int) (rooms : (List Int)) : Except PySem.Str Unit :=
  els (m_ask_world world) (fun c => .error c) fun (u3 : Unit) =>
  els (m_ask_player player) (fun c => .error c) fun (u2 : Unit) =>
  els (m_ask_rooms world rooms) (fun c => .error c) fun (u1 : Unit) =>
  .ok ()
def s_ask_game (world : W) (player : Int) (rooms : (List Int)) : Prop :=
  (s_ask_world world) ∧
  (∀ u3 : Unit, (m_ask_world world) = .ok u3 →
  (s_ask_player player) ∧
  (∀ u2 : Unit, (m_ask_player player) = .ok u2 →
  (s_ask_rooms world rooms) ∧
  True))

def m_can_now (world : W) (player : Int) (room : Int) (known : (List Int)) : Bool :=
  lt ((List.filter (fun (there : Int) => (decide (there ∈ known))) (ix world.c room)) : (List Int)) fun into =>
  if (decide ((ix world.a room) = player)) = true then
    (decide ((0 : Int) < (len into)))
  else
    (decide ((len into) = (len (ix world.c room))))
def s_can_now (world : W) (player : Int) (room : Int) (known : (List Int)) : Prop :=
  (InR (List.length world.c) room) ∧
  (Sz (ix world.c room)) ∧
  lt ((List.filter (fun (there : Int) => (decide (there ∈ known))) (ix world.c room)) : (List Int)) fun into =>
  (InR (List.length world.a) room) ∧
  (((decide ((ix world.a room) = player)) = false) →
  (InR (List.length world.c) room) ∧
  True)

def t_brought_2 (rank : Int) (s2 : (List (Option Int))) (room : Int) : (List (Option Int)) :=
  lt (setI s2 room (some rank) : (List (Option Int))) fun ranks =>
  ranks
def u_brought_2 (rank : Int) (s2 : (List (Option Int))) (room : Int) : Prop :=
  (InR (List.length s2) room) ∧
  True
def t_brought_1 (world : W) (player : Int) (within : (List Int)) (had : (List Int)) (s1 : Int × (List (Option Int)) × Bool) : Int × (List (Option Int)) × Bool :=
  lt ((had ++ (List.filter (fun (room : Int) => (Option.isSome (ix s1.2.1 room))) (rng (len s1.2.1)))) : (List Int)) fun known =>
  lt ((List.filter (fun (room : Int) => ((Option.isNone (ix s1.2.1 room)) && (m_can_now world player room known))) within) : (List Int)) fun new =>
  lt ((s1.1 + (1 : Int)) : Int) fun rank =>
  lt (List.foldl (t_brought_2 rank) s1.2.1 new : (List (Option Int))) fun f1 =>
  lt ((decide ((0 : Int) < (len new))) : Bool) fun more =>
  (rank, f1, more)
def u_brought_1 (world : W) (player : Int) (within : (List Int)) (had : (List Int)) (s1 : Int × (List (Option Int)) × Bool) : Prop :=
  (RgOk (len s1.2.1)) ∧
  (∀ room ∈ (rng (len s1.2.1)), InR (List.length s1.2.1) room) ∧
  (Sz (had ++ (List.filter (fun (room : Int) => (Option.isSome (ix s1.2.1 room))) (rng (len s1.2.1))))) ∧
  lt ((had ++ (List.filter (fun (room : Int) => (Option.isSome (ix s1.2.1 room))) (rng (len s1.2.1)))) : (List Int)) fun known =>
  (Sz within) ∧
  (∀ room ∈ within, InR (List.length s1.2.1) room) ∧
  (∀ room ∈ within, ((Option.isNone (ix s1.2.1 room)) = true) → s_can_now world player room known) ∧
  lt ((List.filter (fun (room : Int) => ((Option.isNone (ix s1.2.1 room)) && (m_can_now world player room known))) within) : (List Int)) fun new =>
  lt ((s1.1 + (1 : Int)) : Int) fun rank =>
  (foldS (u_brought_2 rank) (t_brought_2 rank) new s1.2.1) ∧
  True
def c_brought_1 (world : W) (player : Int) (within : (List Int)) (had : (List Int)) (s1 : Int × (List (Option Int)) × Bool) : Bool :=
  s1.2.2
def v_brought_1 (world : W) (player : Int) (within : (List Int)) (had : (List Int)) (s1 : Int × (List (Option Int)) × Bool) : Prop :=
  True
def m_brought (world : W) (player : Int) (rooms : (List Int)) (within : (List Int)) (had : (List Int)) : (List (Option Int)) :=
  lt ((List.map (fun (room : Int) => (if ((decide (room ∈ rooms)) && (decide (room ∈ within))) = true then (some (0 : Int)) else (none : (Option Int)))) (rng (len world.a))) : (List (Option Int))) fun ranks =>
  lt ((0 : Int) : Int) fun rank =>
  lt (true : Bool) fun more =>
  lt (whl (c_brought_1 world player within had) (t_brought_1 world player within had) wmost (rank, ranks, more) : Int × (List (Option Int)) × Bool) fun f2 =>
  f2.2.1
def s_brought (world : W) (player : Int) (rooms : (List Int)) (within : (List Int)) (had : (List Int)) : Prop :=
  (RgOk (len world.a)) ∧
  lt ((List.map (fun (room : Int) => (if ((decide (room ∈ rooms)) && (decide (room ∈ within))) = true then (some (0 : Int)) else (none : (Option Int)))) (rng (len world.a))) : (List (Option Int))) fun ranks =>
  lt ((0 : Int) : Int) fun rank =>
  lt (true : Bool) fun more =>
  (whS (v_brought_1 world player within had) (c_brought_1 world player within had) (u_brought_1 world player within had) (t_brought_1 world player within had) wmost (rank, ranks, more)) ∧
  True

def t_downwards_1 (world : W) (player : Int) (ranks : (List (Option Int))) (s1 : (List (Option Int))) (room : Int) : (List (Option Int)) :=
  lt ((none : (Option Int)) : (Option Int)) fun step =>
  lt (if ((decide ((ix world.a room) = player)) && ((Option.isSome (ix ranks room)) && (decide ((0 : Int) < (uw (ix ranks room)))))) = true then
      lt ((List.filter (fun (there : Int) => ((Option.isSome (ix ranks there)) && (decide ((uw (ix ranks there)) < (uw (ix ranks room)))))) (ix world.c room)) : (List Int)) fun lower =>
      lt ((some (ix lower (0 : Int))) : (Option Int)) fun step =>
      step
    else
      step : (Option Int)) fun j1 =>
  lt (s1 ++ [j1] : (List (Option Int))) fun plan =>
  plan
def u_downwards_1 (world : W) (player : Int) (ranks : (List (Option Int))) (s1 : (List (Option Int))) (room : Int) : Prop :=
  lt ((none : (Option Int)) : (Option Int)) fun step =>
  (InR (List.length world.a) room) ∧
  (((decide ((ix world.a room) = player)) = true) → InR (List.length ranks) room) ∧
  (((decide ((ix world.a room) = player)) = true) → ((Option.isSome (ix ranks room)) = true) → InR (List.length ranks) room) ∧
  (((decide ((ix world.a room) = player)) = true) → ((Option.isSome (ix ranks room)) = true) → Option.isSome (ix ranks room) = true) ∧
  (((((decide ((ix world.a room) = player)) && ((Option.isSome (ix ranks room)) && (decide ((0 : Int) < (uw (ix ranks room)))))) = true) →
  (InR (List.length world.c) room) ∧
  (Sz (ix world.c room)) ∧
  (∀ there ∈ (ix world.c room), InR (List.length ranks) there) ∧
  (∀ there ∈ (ix world.c room), ((Option.isSome (ix ranks there)) = true) → InR (List.length ranks) there) ∧
  (∀ there ∈ (ix world.c room), ((Option.isSome (ix ranks there)) = true) → Option.isSome (ix ranks there) = true) ∧
  (∀ there ∈ (ix world.c room), ((Option.isSome (ix ranks there)) = true) → InR (List.length ranks) room) ∧
  (∀ there ∈ (ix world.c room), ((Option.isSome (ix ranks there)) = true) → Option.isSome (ix ranks room) = true) ∧
  lt ((List.filter (fun (there : Int) => ((Option.isSome (ix ranks there)) && (decide ((uw (ix ranks there)) < (uw (ix ranks room)))))) (ix world.c room)) : (List Int)) fun lower =>
  (InR (List.length lower) (0 : Int)) ∧
  True)) ∧
  lt (if ((decide ((ix world.a room) = player)) && ((Option.isSome (ix ranks room)) && (decide ((0 : Int) < (uw (ix ranks room)))))) = true then
      lt ((List.filter (fun (there : Int) => ((Option.isSome (ix ranks there)) && (decide ((uw (ix ranks there)) < (uw (ix ranks room)))))) (ix world.c room)) : (List Int)) fun lower =>
      lt ((some (ix lower (0 : Int))) : (Option Int)) fun step =>
      step
    else
      step : (Option Int)) fun j1 =>
  (Sz1 s1) ∧
  True
def m_downwards (world : W) (player : Int) (ranks : (List (Option Int))) : (List (Option Int)) :=
  lt (([] : (List (Option Int))) : (List (Option Int))) fun plan =>
  lt (List.foldl (t_downwards_1 world player ranks) plan (rng (len world.a)) : (List (Option Int))) fun f2 =>
  f2
def s_downwards (world : W) (player : Int) (ranks : (List (Option Int))) : Prop :=
  lt (([] : (List (Option Int))) : (List (Option Int))) fun plan =>
  (RgOk (len world.a)) ∧
  (foldS (u_downwards_1 world player ranks) (t_downwards_1 world player ranks) (rng (len world.a)) plan) ∧
  True

def m_bring (world : W) (player : Int) (rooms : (List Int)) : Except PySem.Str (T2 (List (Option Int)) (List (Option Int))) :=
  els (m_ask_game world player rooms) (fun c => .error c) fun (u1 : Unit) =>
  lt ((m_brought world player rooms (rng (len world.a)) ([] : (List Int))) : (List (Option Int))) fun ranks =>
  .ok (⟨ranks, (m_downwards world player ranks)⟩ : (T2 (List (Option Int)) (List (Option Int))))
def s_bring (world : W) (player : Int) (rooms : (List Int)) : Prop :=
  (s_ask_game world player rooms) ∧
  (∀ u1 : Unit, (m_ask_game world player rooms) = .ok u1 →
  (RgOk (len world.a)) ∧
  (s_brought world player rooms (rng (len world.a)) ([] : (List Int))) ∧
  lt ((m_brought world player rooms (rng (len world.a)) ([] : (List Int))) : (List (Option Int))) fun ranks =>
  (s_downwards world player ranks) ∧
  True)

def m_parts_of (sentence : Sn) : (List Sn) :=
  if (decide ((Sn.tx (ix (Sn.its sentence) (0 : Int))) = (tx "mark"))) = true then
    ([] : (List Sn))
  else
    (Sn.its (Sn.n (List.drop 1 (Sn.its sentence))))
def s_parts_of (sentence : Sn) : Prop :=
  (Sn.isN sentence = true) ∧
  (InR (List.length (Sn.its sentence)) (0 : Int)) ∧
  (Sn.isX (ix (Sn.its sentence) (0 : Int)) = true) ∧
  (((decide ((Sn.tx (ix (Sn.its sentence) (0 : Int))) = (tx "mark"))) = false) →
  (Sn.isN sentence = true) ∧
  (0 < List.length (Sn.its sentence)) ∧
  (Sn.isN (Sn.n (List.drop 1 (Sn.its sentence))) = true) ∧
  True)

def m_well_made : Nat → Sn → Bool
  | 0, _ => default
  | fuel + 1, some_ =>
    if ((decide ((len (Sn.its some_)) = (0 : Int))) || (!(Sn.isX (ix (Sn.its some_) (0 : Int))))) = true then
      false
    else
      if (decide ((Sn.tx (ix (Sn.its some_) (0 : Int))) = (tx "mark"))) = true then
        ((decide ((len (Sn.its some_)) = (2 : Int))) && ((Sn.isX (ix (Sn.its some_) (1 : Int))) && (m_are_marks ([(Sn.tx (ix (Sn.its some_) (1 : Int)))] : (List Tx)))))
      else
        if ((!(Option.isSome (lookX (Sn.tx (ix (Sn.its some_) (0 : Int))) tab_PARTS))) || (!(decide ((len (Sn.its some_)) = ((uw (lookX (Sn.tx (ix (Sn.its some_) (0 : Int))) tab_PARTS)) + (1 : Int)))))) = true then
          false
        else
          (List.all (Sn.its (Sn.n (List.drop 1 (Sn.its some_)))) (fun (piece : Sn) => ((Sn.isN piece) && (m_well_made fuel piece))))
def s_well_made : Nat → Sn → Prop
  | 0, _ => False
  | fuel + 1, some_ =>
    (Sn.isN some_ = true) ∧
    (((decide ((len (Sn.its some_)) = (0 : Int))) = false) → Sn.isN some_ = true) ∧
    (((decide ((len (Sn.its some_)) = (0 : Int))) = false) → InR (List.length (Sn.its some_)) (0 : Int)) ∧
    ((((decide ((len (Sn.its some_)) = (0 : Int))) || (!(Sn.isX (ix (Sn.its some_) (0 : Int))))) = false) →
    (Sn.isN some_ = true) ∧
    (InR (List.length (Sn.its some_)) (0 : Int)) ∧
    (Sn.isX (ix (Sn.its some_) (0 : Int)) = true) ∧
    (((decide ((Sn.tx (ix (Sn.its some_) (0 : Int))) = (tx "mark"))) = true) →
    (Sn.isN some_ = true) ∧
    (((decide ((len (Sn.its some_)) = (2 : Int))) = true) → Sn.isN some_ = true) ∧
    (((decide ((len (Sn.its some_)) = (2 : Int))) = true) → InR (List.length (Sn.its some_)) (1 : Int)) ∧
    (((decide ((len (Sn.its some_)) = (2 : Int))) = true) → ((Sn.isX (ix (Sn.its some_) (1 : Int))) = true) → Sn.isN some_ = true) ∧
    (((decide ((len (Sn.its some_)) = (2 : Int))) = true) → ((Sn.isX (ix (Sn.its some_) (1 : Int))) = true) → InR (List.length (Sn.its some_)) (1 : Int)) ∧
    (((decide ((len (Sn.its some_)) = (2 : Int))) = true) → ((Sn.isX (ix (Sn.its some_) (1 : Int))) = true) → Sn.isX (ix (Sn.its some_) (1 : Int)) = true) ∧
    (((decide ((len (Sn.its some_)) = (2 : Int))) = true) → ((Sn.isX (ix (Sn.its some_) (1 : Int))) = true) → s_are_marks ([(Sn.tx (ix (Sn.its some_) (1 : Int)))] : (List Tx))) ∧
    True) ∧
    (((decide ((Sn.tx (ix (Sn.its some_) (0 : Int))) = (tx "mark"))) = false) →
    (Sn.isN some_ = true) ∧
    (InR (List.length (Sn.its some_)) (0 : Int)) ∧
    (Sn.isX (ix (Sn.its some_) (0 : Int)) = true) ∧
    (((!(Option.isSome (lookX (Sn.tx (ix (Sn.its some_) (0 : Int))) tab_PARTS))) = false) → Sn.isN some_ = true) ∧
    (((!(Option.isSome (lookX (Sn.tx (ix (Sn.its some_) (0 : Int))) tab_PARTS))) = false) → Sn.isN some_ = true) ∧
    (((!(Option.isSome (lookX (Sn.tx (ix (Sn.its some_) (0 : Int))) tab_PARTS))) = false) → InR (List.length (Sn.its some_)) (0 : Int)) ∧
    (((!(Option.isSome (lookX (Sn.tx (ix (Sn.its some_) (0 : Int))) tab_PARTS))) = false) → Sn.isX (ix (Sn.its some_) (0 : Int)) = true) ∧
    (((!(Option.isSome (lookX (Sn.tx (ix (Sn.its some_) (0 : Int))) tab_PARTS))) = false) → Option.isSome (lookX (Sn.tx (ix (Sn.its some_) (0 : Int))) tab_PARTS) = true) ∧
    ((((!(Option.isSome (lookX (Sn.tx (ix (Sn.its some_) (0 : Int))) tab_PARTS))) || (!(decide ((len (Sn.its some_)) = ((uw (lookX (Sn.tx (ix (Sn.its some_) (0 : Int))) tab_PARTS)) + (1 : Int)))))) = false) →
    (Sn.isN some_ = true) ∧
    (0 < List.length (Sn.its some_)) ∧
    (Sn.isN (Sn.n (List.drop 1 (Sn.its some_))) = true) ∧
    (Sz (Sn.its (Sn.n (List.drop 1 (Sn.its some_))))) ∧
    (∀ piece ∈ (Sn.its (Sn.n (List.drop 1 (Sn.its some_)))), ((Sn.isN piece) = true) → s_well_made fuel piece) ∧
    True)))

def m_count : Nat → Sn → Int
  | 0, _ => default
  | fuel + 1, sentence =>
    ((1 : Int) + (List.sum (List.map (fun (piece : Sn) => (m_count fuel piece)) (m_parts_of sentence))))
def s_count : Nat → Sn → Prop
  | 0, _ => False
  | fuel + 1, sentence =>
    (s_parts_of sentence) ∧
    (Sz (m_parts_of sentence)) ∧
    (∀ piece ∈ (m_parts_of sentence), s_count fuel piece) ∧
    True

def m_deep : Nat → Sn → Int
  | 0, _ => default
  | fuel + 1, sentence =>
    ((1 : Int) + (maxI (List.map (fun (piece : Sn) => (m_deep fuel piece)) (m_parts_of sentence))))
def s_deep : Nat → Sn → Prop
  | 0, _ => False
  | fuel + 1, sentence =>
    (s_parts_of sentence) ∧
    (Sz (m_parts_of sentence)) ∧
    (∀ piece ∈ (m_parts_of sentence), s_deep fuel piece) ∧
    True

def m_is_sentence (some_ : Sn) : Bool :=
  ((m_well_made 30 some_) && ((decide ((m_count 30 some_) ≤ (200 : Int))) && (decide ((m_deep 30 some_) ≤ (24 : Int)))))
def s_is_sentence (some_ : Sn) : Prop :=
  (s_well_made 30 some_) ∧
  (((m_well_made 30 some_) = true) → s_count 30 some_) ∧
  (((m_well_made 30 some_) = true) → ((decide ((m_count 30 some_) ≤ (200 : Int))) = true) → s_deep 30 some_) ∧
  True

def m_ask_sentence (sentence : Sn) : Except PySem.Str Unit :=
  if (!(m_is_sentence sentence)) = true then
    .error "NoSentence"
  else
    .ok ()
def s_ask_sentence (sentence : Sn) : Prop :=
  (s_is_sentence sentence) ∧
  True

def t_some_ranks_2 (world : W) (stay : (List Int)) (s1 : Int × (List (Option Int)) × Bool) (s2 : (List Int)) (room : Int) : (List Int) :=
  if ((Option.isNone (ix s1.2.1 room)) && (decide (room ∈ stay))) = true then
    if (decide ((0 : Int) < (len (List.filter (fun (there : Int) => (Option.isSome (ix s1.2.1 there))) (ix world.c room))))) = true then
      lt (s2 ++ [room] : (List Int)) fun new =>
      new
    else
      s2
  else
    s2
def u_some_ranks_2 (world : W) (stay : (List Int)) (s1 : Int × (List (Option Int)) × Bool) (s2 : (List Int)) (room : Int) : Prop :=
  (InR (List.length s1.2.1) room) ∧
  ((((Option.isNone (ix s1.2.1 room)) && (decide (room ∈ stay))) = true) →
  (InR (List.length world.c) room) ∧
  (Sz (ix world.c room)) ∧
  (∀ there ∈ (ix world.c room), InR (List.length s1.2.1) there) ∧
  (((decide ((0 : Int) < (len (List.filter (fun (there : Int) => (Option.isSome (ix s1.2.1 there))) (ix world.c room))))) = true) →
  (Sz1 s2) ∧
  True))
def t_some_ranks_3 (turn : Int) (s3 : (List (Option Int))) (room : Int) : (List (Option Int)) :=
  lt (setI s3 room (some turn) : (List (Option Int))) fun ranks =>
  ranks
def u_some_ranks_3 (turn : Int) (s3 : (List (Option Int))) (room : Int) : Prop :=
  (InR (List.length s3) room) ∧
  True
def t_some_ranks_1 (world : W) (stay : (List Int)) (many : Int) (s1 : Int × (List (Option Int)) × Bool) : Int × (List (Option Int)) × Bool :=
  lt (([] : (List Int)) : (List Int)) fun new =>
  lt (List.foldl (t_some_ranks_2 world stay s1) new (rng many) : (List Int)) fun f1 =>
  lt ((s1.1 + (1 : Int)) : Int) fun turn =>
  lt (List.foldl (t_some_ranks_3 turn) s1.2.1 f1 : (List (Option Int))) fun f2 =>
  lt ((decide ((0 : Int) < (len f1))) : Bool) fun more =>
  (turn, f2, more)
def u_some_ranks_1 (world : W) (stay : (List Int)) (many : Int) (s1 : Int × (List (Option Int)) × Bool) : Prop :=
  lt (([] : (List Int)) : (List Int)) fun new =>
  (RgOk many) ∧
  (foldS (u_some_ranks_2 world stay s1) (t_some_ranks_2 world stay s1) (rng many) new) ∧
  lt (List.foldl (t_some_ranks_2 world stay s1) new (rng many) : (List Int)) fun f1 =>
  lt ((s1.1 + (1 : Int)) : Int) fun turn =>
  (foldS (u_some_ranks_3 turn) (t_some_ranks_3 turn) f1 s1.2.1) ∧
  True
def c_some_ranks_1 (world : W) (stay : (List Int)) (many : Int) (s1 : Int × (List (Option Int)) × Bool) : Bool :=
  s1.2.2
def v_some_ranks_1 (world : W) (stay : (List Int)) (many : Int) (s1 : Int × (List (Option Int)) × Bool) : Prop :=
  True
def m_some_ranks (world : W) (stay : (List Int)) (goal : (List Int)) : (List (Option Int)) :=
  lt ((len world.a) : Int) fun many =>
  lt ((List.map (fun (room : Int) => (if (decide (room ∈ goal)) = true then (some (0 : Int)) else (none : (Option Int)))) (rng many)) : (List (Option Int))) fun ranks =>
  lt ((0 : Int) : Int) fun turn =>
  lt ((decide ((0 : Int) < (len goal))) : Bool) fun more =>
  lt (whl (c_some_ranks_1 world stay many) (t_some_ranks_1 world stay many) wmost (turn, ranks, more) : Int × (List (Option Int)) × Bool) fun f3 =>
  f3.2.1
def s_some_ranks (world : W) (stay : (List Int)) (goal : (List Int)) : Prop :=
  lt ((len world.a) : Int) fun many =>
  (RgOk many) ∧
  lt ((List.map (fun (room : Int) => (if (decide (room ∈ goal)) = true then (some (0 : Int)) else (none : (Option Int)))) (rng many)) : (List (Option Int))) fun ranks =>
  lt ((0 : Int) : Int) fun turn =>
  lt ((decide ((0 : Int) < (len goal))) : Bool) fun more =>
  (whS (v_some_ranks_1 world stay many) (c_some_ranks_1 world stay many) (u_some_ranks_1 world stay many) (t_some_ranks_1 world stay many) wmost (turn, ranks, more)) ∧
  True

def t_all_ranks_2 (world : W) (stay : (List Int)) (s1 : Int × (List (Option Int)) × Bool) (s2 : (List Int)) (room : Int) : (List Int) :=
  if ((Option.isNone (ix s1.2.1 room)) && (decide (room ∈ stay))) = true then
    if (decide ((len (List.filter (fun (there : Int) => (Option.isNone (ix s1.2.1 there))) (ix world.c room))) = (0 : Int))) = true then
      lt (s2 ++ [room] : (List Int)) fun new =>
      new
    else
      s2
  else
    s2
def u_all_ranks_2 (world : W) (stay : (List Int)) (s1 : Int × (List (Option Int)) × Bool) (s2 : (List Int)) (room : Int) : Prop :=
  (InR (List.length s1.2.1) room) ∧
  ((((Option.isNone (ix s1.2.1 room)) && (decide (room ∈ stay))) = true) →
  (InR (List.length world.c) room) ∧
  (Sz (ix world.c room)) ∧
  (∀ there ∈ (ix world.c room), InR (List.length s1.2.1) there) ∧
  (((decide ((len (List.filter (fun (there : Int) => (Option.isNone (ix s1.2.1 there))) (ix world.c room))) = (0 : Int))) = true) →
  (Sz1 s2) ∧
  True))
def t_all_ranks_3 (turn : Int) (s3 : (List (Option Int))) (room : Int) : (List (Option Int)) :=
  lt (setI s3 room (some turn) : (List (Option Int))) fun ranks =>
  ranks
def u_all_ranks_3 (turn : Int) (s3 : (List (Option Int))) (room : Int) : Prop :=
  (InR (List.length s3) room) ∧
  True
def t_all_ranks_1 (world : W) (stay : (List Int)) (many : Int) (s1 : Int × (List (Option Int)) × Bool) : Int × (List (Option Int)) × Bool :=
  lt (([] : (List Int)) : (List Int)) fun new =>
  lt (List.foldl (t_all_ranks_2 world stay s1) new (rng many) : (List Int)) fun f1 =>
  lt ((s1.1 + (1 : Int)) : Int) fun turn =>
  lt (List.foldl (t_all_ranks_3 turn) s1.2.1 f1 : (List (Option Int))) fun f2 =>
  lt ((decide ((0 : Int) < (len f1))) : Bool) fun more =>
  (turn, f2, more)
def u_all_ranks_1 (world : W) (stay : (List Int)) (many : Int) (s1 : Int × (List (Option Int)) × Bool) : Prop :=
  lt (([] : (List Int)) : (List Int)) fun new =>
  (RgOk many) ∧
  (foldS (u_all_ranks_2 world stay s1) (t_all_ranks_2 world stay s1) (rng many) new) ∧
  lt (List.foldl (t_all_ranks_2 world stay s1) new (rng many) : (List Int)) fun f1 =>
  lt ((s1.1 + (1 : Int)) : Int) fun turn =>
  (foldS (u_all_ranks_3 turn) (t_all_ranks_3 turn) f1 s1.2.1) ∧
  True
def c_all_ranks_1 (world : W) (stay : (List Int)) (many : Int) (s1 : Int × (List (Option Int)) × Bool) : Bool :=
  s1.2.2
def v_all_ranks_1 (world : W) (stay : (List Int)) (many : Int) (s1 : Int × (List (Option Int)) × Bool) : Prop :=
  True
def m_all_ranks (world : W) (stay : (List Int)) (goal : (List Int)) : (List (Option Int)) :=
  lt ((len world.a) : Int) fun many =>
  lt ((List.map (fun (room : Int) => (if (decide (room ∈ goal)) = true then (some (0 : Int)) else (none : (Option Int)))) (rng many)) : (List (Option Int))) fun ranks =>
  lt ((0 : Int) : Int) fun turn =>
  lt ((decide ((0 : Int) < (len goal))) : Bool) fun more =>
  lt (whl (c_all_ranks_1 world stay many) (t_all_ranks_1 world stay many) wmost (turn, ranks, more) : Int × (List (Option Int)) × Bool) fun f3 =>
  f3.2.1
def s_all_ranks (world : W) (stay : (List Int)) (goal : (List Int)) : Prop :=
  lt ((len world.a) : Int) fun many =>
  (RgOk many) ∧
  lt ((List.map (fun (room : Int) => (if (decide (room ∈ goal)) = true then (some (0 : Int)) else (none : (Option Int)))) (rng many)) : (List (Option Int))) fun ranks =>
  lt ((0 : Int) : Int) fun turn =>
  lt ((decide ((0 : Int) < (len goal))) : Bool) fun more =>
  (whS (v_all_ranks_1 world stay many) (c_all_ranks_1 world stay many) (u_all_ranks_1 world stay many) (t_all_ranks_1 world stay many) wmost (turn, ranks, more)) ∧
  True

def m_others (world : W) (rooms : (List Int)) : (List Int) :=
  (List.filter (fun (room : Int) => (!(decide (room ∈ rooms)))) (rng (len world.a)))
def s_others (world : W) (rooms : (List Int)) : Prop :=
  (RgOk (len world.a)) ∧
  True

def m_time_ranks (world : W) (word : Tx) (one_ : (List Int)) (other : (List Int)) : (List (Option Int)) :=
  lt ((rng (len world.a)) : (List Int)) fun whole =>
  if (decide (word = (tx "some until"))) = true then
    (m_some_ranks world one_ other)
  else
    if (decide (word = (tx "all until"))) = true then
      (m_all_ranks world one_ other)
    else
      if (decide (word = (tx "some always"))) = true then
        (m_all_ranks world whole (m_others world one_))
      else
        (m_some_ranks world whole (m_others world one_))
def s_time_ranks (world : W) (word : Tx) (one_ : (List Int)) (other : (List Int)) : Prop :=
  (RgOk (len world.a)) ∧
  lt ((rng (len world.a)) : (List Int)) fun whole =>
  (((decide (word = (tx "some until"))) = true) →
  (s_some_ranks world one_ other) ∧
  True) ∧
  (((decide (word = (tx "some until"))) = false) →
  (((decide (word = (tx "all until"))) = true) →
  (s_all_ranks world one_ other) ∧
  True) ∧
  (((decide (word = (tx "all until"))) = false) →
  (((decide (word = (tx "some always"))) = true) →
  (s_others world one_) ∧
  (s_all_ranks world whole (m_others world one_)) ∧
  True) ∧
  (((decide (word = (tx "some always"))) = false) →
  (s_others world one_) ∧
  (s_some_ranks world whole (m_others world one_)) ∧
  True)))

def m_rooms_by_ranks (word : Tx) (ranks : (List (Option Int))) : (List Int) :=
  lt ((decide (word ∈ ([(tx "some until"), (tx "all until")] : List Tx))) : Bool) fun wanted =>
  (List.filter (fun (room : Int) => (decide ((Option.isSome (ix ranks room)) = wanted))) (rng (len ranks)))
def s_rooms_by_ranks (word : Tx) (ranks : (List (Option Int))) : Prop :=
  lt ((decide (word ∈ ([(tx "some until"), (tx "all until")] : List Tx))) : Bool) fun wanted =>
  (RgOk (len ranks)) ∧
  (∀ room ∈ (rng (len ranks)), InR (List.length ranks) room) ∧
  True

def t_stepping_1 (world : W) (word : Tx) (rooms : (List Int)) (s1 : (List Int)) (room : Int) : (List Int) :=
  lt ((List.filter (fun (there : Int) => (decide (there ∈ rooms))) (ix world.c room)) : (List Int)) fun into =>
  if ((decide ((len into) = (len (ix world.c room)))) || ((decide (word = (tx "some next"))) && (decide ((0 : Int) < (len into))))) = true then
    lt (s1 ++ [room] : (List Int)) fun found =>
    found
  else
    s1
def u_stepping_1 (world : W) (word : Tx) (rooms : (List Int)) (s1 : (List Int)) (room : Int) : Prop :=
  (InR (List.length world.c) room) ∧
  (Sz (ix world.c room)) ∧
  lt ((List.filter (fun (there : Int) => (decide (there ∈ rooms))) (ix world.c room)) : (List Int)) fun into =>
  (InR (List.length world.c) room) ∧
  ((((decide ((len into) = (len (ix world.c room)))) || ((decide (word = (tx "some next"))) && (decide ((0 : Int) < (len into))))) = true) →
  (Sz1 s1) ∧
  True)
def m_stepping (world : W) (word : Tx) (rooms : (List Int)) : (List Int) :=
  lt (([] : (List Int)) : (List Int)) fun found =>
  lt (List.foldl (t_stepping_1 world word rooms) found (rng (len world.a)) : (List Int)) fun f1 =>
  f1
def s_stepping (world : W) (word : Tx) (rooms : (List Int)) : Prop :=
  lt (([] : (List Int)) : (List Int)) fun found =>
  (RgOk (len world.a)) ∧
  (foldS (u_stepping_1 world word rooms) (t_stepping_1 world word rooms) (rng (len world.a)) found) ∧
  True

def m_plain_rooms (world : W) (sentence : Sn) (parts : (List (List Int))) : (List Int) :=
  lt ((Sn.tx (ix (Sn.its sentence) (0 : Int))) : Tx) fun word =>
  lt ((rng (len world.a)) : (List Int)) fun whole =>
  if (decide (word = (tx "yes"))) = true then
    whole
  else
    if (decide (word = (tx "mark"))) = true then
      (List.filter (fun (room : Int) => (decide ((Sn.tx (ix (Sn.its sentence) (1 : Int))) ∈ (ix world.b room)))) whole)
    else
      if (decide (word = (tx "not"))) = true then
        (m_others world (ix parts (0 : Int)))
      else
        if (decide (word = (tx "and"))) = true then
          (List.filter (fun (room : Int) => (decide (room ∈ (ix parts (1 : Int))))) (ix parts (0 : Int)))
        else
          if (decide (word = (tx "or"))) = true then
            (List.filter (fun (room : Int) => ((decide (room ∈ (ix parts (0 : Int)))) || (decide (room ∈ (ix parts (1 : Int)))))) whole)
          else
            (m_stepping world word (ix parts (0 : Int)))
def s_plain_rooms (world : W) (sentence : Sn) (parts : (List (List Int))) : Prop :=
  (Sn.isN sentence = true) ∧
  (InR (List.length (Sn.its sentence)) (0 : Int)) ∧
  (Sn.isX (ix (Sn.its sentence) (0 : Int)) = true) ∧
  lt ((Sn.tx (ix (Sn.its sentence) (0 : Int))) : Tx) fun word =>
  (RgOk (len world.a)) ∧
  lt ((rng (len world.a)) : (List Int)) fun whole =>
  (((decide (word = (tx "yes"))) = false) →
  (((decide (word = (tx "mark"))) = true) →
  (Sz whole) ∧
  (∀ room ∈ whole, Sn.isN sentence = true) ∧
  (∀ room ∈ whole, InR (List.length (Sn.its sentence)) (1 : Int)) ∧
  (∀ room ∈ whole, Sn.isX (ix (Sn.its sentence) (1 : Int)) = true) ∧
  (∀ room ∈ whole, InR (List.length world.b) room) ∧
  True) ∧
  (((decide (word = (tx "mark"))) = false) →
  (((decide (word = (tx "not"))) = true) →
  (InR (List.length parts) (0 : Int)) ∧
  (s_others world (ix parts (0 : Int))) ∧
  True) ∧
  (((decide (word = (tx "not"))) = false) →
  (((decide (word = (tx "and"))) = true) →
  (InR (List.length parts) (0 : Int)) ∧
  (Sz (ix parts (0 : Int))) ∧
  (∀ room ∈ (ix parts (0 : Int)), InR (List.length parts) (1 : Int)) ∧
  True) ∧
  (((decide (word = (tx "and"))) = false) →
  (((decide (word = (tx "or"))) = true) →
  (Sz whole) ∧
  (∀ room ∈ whole, InR (List.length parts) (0 : Int)) ∧
  (∀ room ∈ whole, ((decide (room ∈ (ix parts (0 : Int)))) = false) → InR (List.length parts) (1 : Int)) ∧
  True) ∧
  (((decide (word = (tx "or"))) = false) →
  (InR (List.length parts) (0 : Int)) ∧
  (s_stepping world word (ix parts (0 : Int))) ∧
  True)))))

def m_judged : Nat → W → Sn → (List Int)
  | 0, _, _ => default
  | fuel + 1, world, sentence =>
    if ((decide ((Sn.tx (ix (Sn.its sentence) (0 : Int))) = (tx "yes"))) || (decide ((Sn.tx (ix (Sn.its sentence) (0 : Int))) = (tx "mark")))) = true then
      (m_plain_rooms world sentence ([] : (List (List Int))))
    else
      lt ((List.map (fun (piece : Sn) => (m_judged fuel world piece)) (Sn.its (Sn.n (List.drop 1 (Sn.its sentence))))) : (List (List Int))) fun parts =>
      if ((Tx.has (Sn.tx (ix (Sn.its sentence) (0 : Int))) (tx "until")) || (Tx.has (Sn.tx (ix (Sn.its sentence) (0 : Int))) (tx "always"))) = true then
        (m_rooms_by_ranks (Sn.tx (ix (Sn.its sentence) (0 : Int))) (m_time_ranks world (Sn.tx (ix (Sn.its sentence) (0 : Int))) (ix parts (0 : Int)) (ix parts (-1 : Int))))
      else
        (m_plain_rooms world sentence parts)
def s_judged : Nat → W → Sn → Prop
  | 0, _, _ => False
  | fuel + 1, world, sentence =>
    (Sn.isN sentence = true) ∧
    (InR (List.length (Sn.its sentence)) (0 : Int)) ∧
    (Sn.isX (ix (Sn.its sentence) (0 : Int)) = true) ∧
    (((decide ((Sn.tx (ix (Sn.its sentence) (0 : Int))) = (tx "yes"))) = false) → Sn.isN sentence = true) ∧
    (((decide ((Sn.tx (ix (Sn.its sentence) (0 : Int))) = (tx "yes"))) = false) → InR (List.length (Sn.its sentence)) (0 : Int)) ∧
    (((decide ((Sn.tx (ix (Sn.its sentence) (0 : Int))) = (tx "yes"))) = false) → Sn.isX (ix (Sn.its sentence) (0 : Int)) = true) ∧
    ((((decide ((Sn.tx (ix (Sn.its sentence) (0 : Int))) = (tx "yes"))) || (decide ((Sn.tx (ix (Sn.its sentence) (0 : Int))) = (tx "mark")))) = true) →
    (s_plain_rooms world sentence ([] : (List (List Int)))) ∧
    True) ∧
    ((((decide ((Sn.tx (ix (Sn.its sentence) (0 : Int))) = (tx "yes"))) || (decide ((Sn.tx (ix (Sn.its sentence) (0 : Int))) = (tx "mark")))) = false) →
    (Sn.isN sentence = true) ∧
    (0 < List.length (Sn.its sentence)) ∧
    (Sn.isN (Sn.n (List.drop 1 (Sn.its sentence))) = true) ∧
    (Sz (Sn.its (Sn.n (List.drop 1 (Sn.its sentence))))) ∧
    (∀ piece ∈ (Sn.its (Sn.n (List.drop 1 (Sn.its sentence)))), s_judged fuel world piece) ∧
    lt ((List.map (fun (piece : Sn) => (m_judged fuel world piece)) (Sn.its (Sn.n (List.drop 1 (Sn.its sentence))))) : (List (List Int))) fun parts =>
    (Sn.isN sentence = true) ∧
    (InR (List.length (Sn.its sentence)) (0 : Int)) ∧
    (Sn.isX (ix (Sn.its sentence) (0 : Int)) = true) ∧
    (((Tx.has (Sn.tx (ix (Sn.its sentence) (0 : Int))) (tx "until")) = false) → Sn.isN sentence = true) ∧
    (((Tx.has (Sn.tx (ix (Sn.its sentence) (0 : Int))) (tx "until")) = false) → InR (List.length (Sn.its sentence)) (0 : Int)) ∧
    (((Tx.has (Sn.tx (ix (Sn.its sentence) (0 : Int))) (tx "until")) = false) → Sn.isX (ix (Sn.its sentence) (0 : Int)) = true) ∧
    ((((Tx.has (Sn.tx (ix (Sn.its sentence) (0 : Int))) (tx "until")) || (Tx.has (Sn.tx (ix (Sn.its sentence) (0 : Int))) (tx "always"))) = true) →
    (Sn.isN sentence = true) ∧
    (InR (List.length (Sn.its sentence)) (0 : Int)) ∧
    (Sn.isX (ix (Sn.its sentence) (0 : Int)) = true) ∧
    (Sn.isN sentence = true) ∧
    (InR (List.length (Sn.its sentence)) (0 : Int)) ∧
    (Sn.isX (ix (Sn.its sentence) (0 : Int)) = true) ∧
    (InR (List.length parts) (0 : Int)) ∧
    (InR (List.length parts) (-1 : Int)) ∧
    (s_time_ranks world (Sn.tx (ix (Sn.its sentence) (0 : Int))) (ix parts (0 : Int)) (ix parts (-1 : Int))) ∧
    (s_rooms_by_ranks (Sn.tx (ix (Sn.its sentence) (0 : Int))) (m_time_ranks world (Sn.tx (ix (Sn.its sentence) (0 : Int))) (ix parts (0 : Int)) (ix parts (-1 : Int)))) ∧
    True) ∧
    ((((Tx.has (Sn.tx (ix (Sn.its sentence) (0 : Int))) (tx "until")) || (Tx.has (Sn.tx (ix (Sn.its sentence) (0 : Int))) (tx "always"))) = false) →
    (s_plain_rooms world sentence parts) ∧
    True))

def m_holds (world : W) (sentence : Sn) : Except PySem.Str (List Int) :=
  els (m_ask_world world) (fun c => .error c) fun (u2 : Unit) =>
  els (m_ask_sentence sentence) (fun c => .error c) fun (u1 : Unit) =>
  .ok (m_judged 30 world sentence)
def s_holds (world : W) (sentence : Sn) : Prop :=
  (s_ask_world world) ∧
  (∀ u2 : Unit, (m_ask_world world) = .ok u2 →
  (s_ask_sentence sentence) ∧
  (∀ u1 : Unit, (m_ask_sentence sentence) = .ok u1 →
  (s_judged 30 world sentence) ∧
  True))

def m_beyond (world : W) (rooms : (List Int)) : (List Int) :=
  (List.filter (fun (room : Int) => (!(decide (room ∈ rooms)))) (rng (len world.a)))
def s_beyond (world : W) (rooms : (List Int)) : Prop :=
  (RgOk (len world.a)) ∧
  True

def t_keep_1 (world : W) (player : Int) (kept : (List Int)) (s1 : (List (Option Int))) (room : Int) : (List (Option Int)) :=
  lt ((none : (Option Int)) : (Option Int)) fun step =>
  lt (if ((decide (room ∈ kept)) && (decide ((ix world.a room) = player))) = true then
      lt ((some (ix (List.filter (fun (there : Int) => (decide (there ∈ kept))) (ix world.c room)) (0 : Int))) : (Option Int)) fun step =>
      step
    else
      step : (Option Int)) fun j1 =>
  lt (s1 ++ [j1] : (List (Option Int))) fun plan =>
  plan
def u_keep_1 (world : W) (player : Int) (kept : (List Int)) (s1 : (List (Option Int))) (room : Int) : Prop :=
  lt ((none : (Option Int)) : (Option Int)) fun step =>
  (((decide (room ∈ kept)) = true) → InR (List.length world.a) room) ∧
  (((((decide (room ∈ kept)) && (decide ((ix world.a room) = player))) = true) →
  (InR (List.length world.c) room) ∧
  (Sz (ix world.c room)) ∧
  (InR (List.length (List.filter (fun (there : Int) => (decide (there ∈ kept))) (ix world.c room))) (0 : Int)) ∧
  True)) ∧
  lt (if ((decide (room ∈ kept)) && (decide ((ix world.a room) = player))) = true then
      lt ((some (ix (List.filter (fun (there : Int) => (decide (there ∈ kept))) (ix world.c room)) (0 : Int))) : (Option Int)) fun step =>
      step
    else
      step : (Option Int)) fun j1 =>
  (Sz1 s1) ∧
  True
def m_keep (world : W) (player : Int) (rooms : (List Int)) : Except PySem.Str (T4 (List Int) (List (Option Int)) (List (Option Int)) (List (Option Int))) :=
  els (m_ask_game world player rooms) (fun c => .error c) fun (u6 : Unit) =>
  lt ((okv (m_bring world ((1 : Int) - player) (m_beyond world rooms))) : (T2 (List (Option Int)) (List (Option Int)))) fun u1 =>
  lt ((List.filter (fun (room : Int) => (Option.isNone (ix u1.a room))) (rng (len u1.a))) : (List Int)) fun kept =>
  lt (([] : (List (Option Int))) : (List (Option Int))) fun plan =>
  lt (List.foldl (t_keep_1 world player kept) plan (rng (len world.a)) : (List (Option Int))) fun f2 =>
  .ok (⟨kept, f2, u1.a, u1.b⟩ : (T4 (List Int) (List (Option Int)) (List (Option Int)) (List (Option Int))))
def s_keep (world : W) (player : Int) (rooms : (List Int)) : Prop :=
  (s_ask_game world player rooms) ∧
  (∀ u6 : Unit, (m_ask_game world player rooms) = .ok u6 →
  (s_beyond world rooms) ∧
  (s_bring world ((1 : Int) - player) (m_beyond world rooms)) ∧
  (isOk (m_bring world ((1 : Int) - player) (m_beyond world rooms))) ∧
  lt ((okv (m_bring world ((1 : Int) - player) (m_beyond world rooms))) : (T2 (List (Option Int)) (List (Option Int)))) fun u1 =>
  (RgOk (len u1.a)) ∧
  (∀ room ∈ (rng (len u1.a)), InR (List.length u1.a) room) ∧
  lt ((List.filter (fun (room : Int) => (Option.isNone (ix u1.a room))) (rng (len u1.a))) : (List Int)) fun kept =>
  lt (([] : (List (Option Int))) : (List (Option Int))) fun plan =>
  (RgOk (len world.a)) ∧
  (foldS (u_keep_1 world player kept) (t_keep_1 world player kept) (rng (len world.a)) plan) ∧
  True)

def m_law_cell_at (script : Sc) (k_ : Int) : Int :=
  if (decide (k_ < (len (script).ns))) = true then
    (ix (script).ns k_)
  else
    (0 : Int)
def s_law_cell_at (script : Sc) (k_ : Int) : Prop :=
  (((decide (k_ < (len (script).ns))) = true) →
  (InR (List.length (script).ns) k_) ∧
  True)

def t_law_draw_1 (bound : Int) (s1 : Int) (j : Int) : Int :=
  lt ((Int.fdiv s1 bound) : Int) fun left_ =>
  left_
def u_law_draw_1 (bound : Int) (s1 : Int) (j : Int) : Prop :=
  (DivOk s1 bound) ∧
  True
def m_law_draw (cell : Int) (k_ : Int) (bound : Int) : Int :=
  if (decide ((1000000000000000000 : Int) ≤ cell)) = true then
    lt (cell : Int) fun left_ =>
    lt (List.foldl (t_law_draw_1 bound) left_ (rng k_) : Int) fun f1 =>
    (Int.fmod f1 bound)
  else
    lt ((Int.fmod ((((Int.fmod cell (1000000007 : Int)) + ((1009 : Int) * k_)) + (17 : Int)) * (69621 : Int)) (2147483647 : Int)) : Int) fun stir =>
    lt ((Int.fmod (((stir * stir) + ((40503 : Int) * k_)) + (5 : Int)) (2147483629 : Int)) : Int) fun stir =>
    (Int.fmod (Int.fdiv (Int.fmod (stir * (48271 : Int)) (2147483647 : Int)) (32 : Int)) bound)
def s_law_draw (cell : Int) (k_ : Int) (bound : Int) : Prop :=
  (((decide ((1000000000000000000 : Int) ≤ cell)) = true) →
  lt (cell : Int) fun left_ =>
  (RgOk k_) ∧
  (foldS (u_law_draw_1 bound) (t_law_draw_1 bound) (rng k_) left_) ∧
  lt (List.foldl (t_law_draw_1 bound) left_ (rng k_) : Int) fun f1 =>
  (bound ≠ 0) ∧
  True) ∧
  (((decide ((1000000000000000000 : Int) ≤ cell)) = false) →
  lt ((Int.fmod ((((Int.fmod cell (1000000007 : Int)) + ((1009 : Int) * k_)) + (17 : Int)) * (69621 : Int)) (2147483647 : Int)) : Int) fun stir =>
  (MulOk stir stir) ∧
  lt ((Int.fmod (((stir * stir) + ((40503 : Int) * k_)) + (5 : Int)) (2147483629 : Int)) : Int) fun stir =>
  (bound ≠ 0) ∧
  True)

def t_law_world_v2_1 (script : Sc) (at_ : Int) (many : Int) (s1 : (List Int) × (List (List Tx)) × (List (List Int))) (room : Int) : (List Int) × (List (List Tx)) × (List (List Int)) :=
  lt ((m_law_cell_at script ((at_ + (1 : Int)) + room)) : Int) fun cell =>
  lt (s1.1 ++ [(m_law_draw cell (0 : Int) (2 : Int))] : (List Int)) fun owners =>
  lt (s1.2.1 ++ [(List.filter (fun (mark : Tx) => (decide ((m_law_draw cell ((1 : Int) + (Tx.idx (tx "abc") mark)) (2 : Int)) = (1 : Int)))) (chars (tx "abc")))] : (List (List Tx))) fun marks =>
  lt ((List.filter (fun (there : Int) => (decide ((m_law_draw cell ((4 : Int) + there) ((2 : Int) + (boolI (decide ((3 : Int) < many))))) = (1 : Int)))) (rng many)) : (List Int)) fun row =>
  lt (if (decide (row = ([] : (List Int)))) = true then
      lt (([(m_law_draw cell ((4 : Int) + many) many)] : (List Int)) : (List Int)) fun row =>
      row
    else
      row : (List Int)) fun j1 =>
  lt (s1.2.2 ++ [j1] : (List (List Int))) fun steps =>
  (owners, marks, steps)
def u_law_world_v2_1 (script : Sc) (at_ : Int) (many : Int) (s1 : (List Int) × (List (List Tx)) × (List (List Int))) (room : Int) : Prop :=
  (s_law_cell_at script ((at_ + (1 : Int)) + room)) ∧
  lt ((m_law_cell_at script ((at_ + (1 : Int)) + room)) : Int) fun cell =>
  (s_law_draw cell (0 : Int) (2 : Int)) ∧
  (Sz1 s1.1) ∧
  lt (s1.1 ++ [(m_law_draw cell (0 : Int) (2 : Int))] : (List Int)) fun owners =>
  (Sz (chars (tx "abc"))) ∧
  (∀ mark ∈ (chars (tx "abc")), Tx.idxOk (tx "abc") mark) ∧
  (∀ mark ∈ (chars (tx "abc")), s_law_draw cell ((1 : Int) + (Tx.idx (tx "abc") mark)) (2 : Int)) ∧
  (Sz1 s1.2.1) ∧
  lt (s1.2.1 ++ [(List.filter (fun (mark : Tx) => (decide ((m_law_draw cell ((1 : Int) + (Tx.idx (tx "abc") mark)) (2 : Int)) = (1 : Int)))) (chars (tx "abc")))] : (List (List Tx))) fun marks =>
  (RgOk many) ∧
  (∀ there ∈ (rng many), s_law_draw cell ((4 : Int) + there) ((2 : Int) + (boolI (decide ((3 : Int) < many))))) ∧
  lt ((List.filter (fun (there : Int) => (decide ((m_law_draw cell ((4 : Int) + there) ((2 : Int) + (boolI (decide ((3 : Int) < many))))) = (1 : Int)))) (rng many)) : (List Int)) fun row =>
  ((((decide (row = ([] : (List Int)))) = true) →
  (s_law_draw cell ((4 : Int) + many) many) ∧
  True)) ∧
  lt (if (decide (row = ([] : (List Int)))) = true then
      lt (([(m_law_draw cell ((4 : Int) + many) many)] : (List Int)) : (List Int)) fun row =>
      row
    else
      row : (List Int)) fun j1 =>
  (Sz1 s1.2.2) ∧
  True
def m_law_world_v2 (script : Sc) (at_ : Int) (most : Int) : W :=
  lt (((1 : Int) + (Int.fmod (m_law_cell_at script at_) most)) : Int) fun many =>
  lt (([] : (List Int)) : (List Int)) fun owners =>
  lt (([] : (List (List Tx))) : (List (List Tx))) fun marks =>
  lt (([] : (List (List Int))) : (List (List Int))) fun steps =>
  lt (List.foldl (t_law_world_v2_1 script at_ many) (owners, marks, steps) (rng many) : (List Int) × (List (List Tx)) × (List (List Int))) fun f2 =>
  (⟨f2.1, f2.2.1, f2.2.2⟩ : W)
def s_law_world_v2 (script : Sc) (at_ : Int) (most : Int) : Prop :=
  (s_law_cell_at script at_) ∧
  (most ≠ 0) ∧
  lt (((1 : Int) + (Int.fmod (m_law_cell_at script at_) most)) : Int) fun many =>
  lt (([] : (List Int)) : (List Int)) fun owners =>
  lt (([] : (List (List Tx))) : (List (List Tx))) fun marks =>
  lt (([] : (List (List Int))) : (List (List Int))) fun steps =>
  (RgOk many) ∧
  (foldS (u_law_world_v2_1 script at_ many) (t_law_world_v2_1 script at_ many) (rng many) (owners, marks, steps)) ∧
  True

def m_law_k86 (script : Sc) : Bool :=
  lt ((m_law_world_v2 script (0 : Int) (6 : Int)) : W) fun world =>
  lt ((m_law_draw (m_law_cell_at script (7 : Int)) (0 : Int) (2 : Int)) : Int) fun player =>
  lt ((Tx.ix (tx "abc") (m_law_draw (m_law_cell_at script (7 : Int)) (1 : Int) (3 : Int))) : Tx) fun mark =>
  lt ((okv (m_marked world mark)) : (List Int)) fun rooms =>
  lt ((okv (m_bring world player rooms)) : (T2 (List (Option Int)) (List (Option Int)))) fun u1 =>
  lt ((List.filter (fun (room : Int) => (Option.isSome (ix u1.a room))) (rng (len u1.a))) : (List Int)) fun come =>
  if (!(decide ((okv (m_holds (okv (m_follow world player u1.b)) (Sn.n [(Sn.x (tx "all until")), (Sn.n [(Sn.x (tx "yes"))]), (Sn.n [(Sn.x (tx "mark")), (Sn.x mark)])]))) = come))) = true then
    false
  else
    lt ((okv (m_keep world player rooms)) : (T4 (List Int) (List (Option Int)) (List (Option Int)) (List (Option Int)))) fun u4 =>
    lt ((okv (m_holds (okv (m_follow world player u4.b)) (Sn.n [(Sn.x (tx "all always")), (Sn.n [(Sn.x (tx "mark")), (Sn.x mark)])]))) : (List Int)) fun stays =>
    lt ((okv (m_holds (okv (m_follow world ((1 : Int) - player) u4.d)) (Sn.n [(Sn.x (tx "all until")), (Sn.n [(Sn.x (tx "yes"))]), (Sn.n [(Sn.x (tx "not")), (Sn.n [(Sn.x (tx "mark")), (Sn.x mark)])])]))) : (List Int)) fun out =>
    ((decide (stays = u4.a)) && (decide (out = (List.filter (fun (room : Int) => (!(decide (room ∈ u4.a)))) (rng (len u4.c))))))
def s_law_k86 (script : Sc) : Prop :=
  (s_law_world_v2 script (0 : Int) (6 : Int)) ∧
  lt ((m_law_world_v2 script (0 : Int) (6 : Int)) : W) fun world =>
  (s_law_cell_at script (7 : Int)) ∧
  (s_law_draw (m_law_cell_at script (7 : Int)) (0 : Int) (2 : Int)) ∧
  lt ((m_law_draw (m_law_cell_at script (7 : Int)) (0 : Int) (2 : Int)) : Int) fun player =>
  (s_law_cell_at script (7 : Int)) ∧
  (s_law_draw (m_law_cell_at script (7 : Int)) (1 : Int) (3 : Int)) ∧
  (InR (List.length ((tx "abc")).cs) (m_law_draw (m_law_cell_at script (7 : Int)) (1 : Int) (3 : Int))) ∧
  (Sz ((tx "abc")).cs) ∧
  lt ((Tx.ix (tx "abc") (m_law_draw (m_law_cell_at script (7 : Int)) (1 : Int) (3 : Int))) : Tx) fun mark =>
  (s_marked world mark) ∧
  (isOk (m_marked world mark)) ∧
  lt ((okv (m_marked world mark)) : (List Int)) fun rooms =>
  (s_bring world player rooms) ∧
  (isOk (m_bring world player rooms)) ∧
  lt ((okv (m_bring world player rooms)) : (T2 (List (Option Int)) (List (Option Int)))) fun u1 =>
  (RgOk (len u1.a)) ∧
  (∀ room ∈ (rng (len u1.a)), InR (List.length u1.a) room) ∧
  lt ((List.filter (fun (room : Int) => (Option.isSome (ix u1.a room))) (rng (len u1.a))) : (List Int)) fun come =>
  (s_follow world player u1.b) ∧
  (isOk (m_follow world player u1.b)) ∧
  (s_holds (okv (m_follow world player u1.b)) (Sn.n [(Sn.x (tx "all until")), (Sn.n [(Sn.x (tx "yes"))]), (Sn.n [(Sn.x (tx "mark")), (Sn.x mark)])])) ∧
  (isOk (m_holds (okv (m_follow world player u1.b)) (Sn.n [(Sn.x (tx "all until")), (Sn.n [(Sn.x (tx "yes"))]), (Sn.n [(Sn.x (tx "mark")), (Sn.x mark)])]))) ∧
  (((!(decide ((okv (m_holds (okv (m_follow world player u1.b)) (Sn.n [(Sn.x (tx "all until")), (Sn.n [(Sn.x (tx "yes"))]), (Sn.n [(Sn.x (tx "mark")), (Sn.x mark)])]))) = come))) = false) →
  (s_keep world player rooms) ∧
  (isOk (m_keep world player rooms)) ∧
  lt ((okv (m_keep world player rooms)) : (T4 (List Int) (List (Option Int)) (List (Option Int)) (List (Option Int)))) fun u4 =>
  (s_follow world player u4.b) ∧
  (isOk (m_follow world player u4.b)) ∧
  (s_holds (okv (m_follow world player u4.b)) (Sn.n [(Sn.x (tx "all always")), (Sn.n [(Sn.x (tx "mark")), (Sn.x mark)])])) ∧
  (isOk (m_holds (okv (m_follow world player u4.b)) (Sn.n [(Sn.x (tx "all always")), (Sn.n [(Sn.x (tx "mark")), (Sn.x mark)])]))) ∧
  lt ((okv (m_holds (okv (m_follow world player u4.b)) (Sn.n [(Sn.x (tx "all always")), (Sn.n [(Sn.x (tx "mark")), (Sn.x mark)])]))) : (List Int)) fun stays =>
  (s_follow world ((1 : Int) - player) u4.d) ∧
  (isOk (m_follow world ((1 : Int) - player) u4.d)) ∧
  (s_holds (okv (m_follow world ((1 : Int) - player) u4.d)) (Sn.n [(Sn.x (tx "all until")), (Sn.n [(Sn.x (tx "yes"))]), (Sn.n [(Sn.x (tx "not")), (Sn.n [(Sn.x (tx "mark")), (Sn.x mark)])])])) ∧
  (isOk (m_holds (okv (m_follow world ((1 : Int) - player) u4.d)) (Sn.n [(Sn.x (tx "all until")), (Sn.n [(Sn.x (tx "yes"))]), (Sn.n [(Sn.x (tx "not")), (Sn.n [(Sn.x (tx "mark")), (Sn.x mark)])])]))) ∧
  lt ((okv (m_holds (okv (m_follow world ((1 : Int) - player) u4.d)) (Sn.n [(Sn.x (tx "all until")), (Sn.n [(Sn.x (tx "yes"))]), (Sn.n [(Sn.x (tx "not")), (Sn.n [(Sn.x (tx "mark")), (Sn.x mark)])])]))) : (List Int)) fun out =>
  (((decide (stays = u4.a)) = true) → RgOk (len u4.c)) ∧
  True)

def m_shut_out (world : W) (player : Int) (rooms : (List Int)) (left_ : (List Int)) : (T2 (List (Option Int)) (List (Option Int))) :=
  lt ((m_brought world player rooms left_ ([] : (List Int))) : (List (Option Int))) fun ranks =>
  lt ((List.filter (fun (room : Int) => (Option.isNone (ix ranks room))) left_) : (List Int)) fun free =>
  lt ((List.filter (fun (room : Int) => (!(decide (room ∈ left_)))) (rng (len world.a))) : (List Int)) fun gone =>
  (⟨ranks, (m_brought world ((1 : Int) - player) free left_ gone)⟩ : (T2 (List (Option Int)) (List (Option Int))))
def s_shut_out (world : W) (player : Int) (rooms : (List Int)) (left_ : (List Int)) : Prop :=
  (s_brought world player rooms left_ ([] : (List Int))) ∧
  lt ((m_brought world player rooms left_ ([] : (List Int))) : (List (Option Int))) fun ranks =>
  (Sz left_) ∧
  (∀ room ∈ left_, InR (List.length ranks) room) ∧
  lt ((List.filter (fun (room : Int) => (Option.isNone (ix ranks room))) left_) : (List Int)) fun free =>
  (RgOk (len world.a)) ∧
  lt ((List.filter (fun (room : Int) => (!(decide (room ∈ left_)))) (rng (len world.a))) : (List Int)) fun gone =>
  (s_brought world ((1 : Int) - player) free left_ gone) ∧
  True

def t_plan_by_1 (world : W) (player : Int) (ranks : (List (Option Int))) (s1 : (List (Option Int))) (room : Int) : (List (Option Int)) :=
  lt ((none : (Option Int)) : (Option Int)) fun step =>
  lt (if ((decide ((ix world.a room) = player)) && (Option.isSome (ix ranks room))) = true then
      lt ((List.filter (fun (there : Int) => (Option.isSome (ix ranks there))) (ix world.c room)) : (List Int)) fun known =>
      lt ((List.filter (fun (there : Int) => ((decide ((ix ranks room) = (some (0 : Int)))) || (decide ((uw (ix ranks there)) < (uw (ix ranks room)))))) known) : (List Int)) fun lower =>
      lt ((some (ix lower (0 : Int))) : (Option Int)) fun step =>
      step
    else
      step : (Option Int)) fun j1 =>
  lt (s1 ++ [j1] : (List (Option Int))) fun plan =>
  plan
def u_plan_by_1 (world : W) (player : Int) (ranks : (List (Option Int))) (s1 : (List (Option Int))) (room : Int) : Prop :=
  lt ((none : (Option Int)) : (Option Int)) fun step =>
  (InR (List.length world.a) room) ∧
  (((decide ((ix world.a room) = player)) = true) → InR (List.length ranks) room) ∧
  (((((decide ((ix world.a room) = player)) && (Option.isSome (ix ranks room))) = true) →
  (InR (List.length world.c) room) ∧
  (Sz (ix world.c room)) ∧
  (∀ there ∈ (ix world.c room), InR (List.length ranks) there) ∧
  lt ((List.filter (fun (there : Int) => (Option.isSome (ix ranks there))) (ix world.c room)) : (List Int)) fun known =>
  (Sz known) ∧
  (∀ there ∈ known, InR (List.length ranks) room) ∧
  (∀ there ∈ known, ((decide ((ix ranks room) = (some (0 : Int)))) = false) → InR (List.length ranks) there) ∧
  (∀ there ∈ known, ((decide ((ix ranks room) = (some (0 : Int)))) = false) → Option.isSome (ix ranks there) = true) ∧
  (∀ there ∈ known, ((decide ((ix ranks room) = (some (0 : Int)))) = false) → InR (List.length ranks) room) ∧
  (∀ there ∈ known, ((decide ((ix ranks room) = (some (0 : Int)))) = false) → Option.isSome (ix ranks room) = true) ∧
  lt ((List.filter (fun (there : Int) => ((decide ((ix ranks room) = (some (0 : Int)))) || (decide ((uw (ix ranks there)) < (uw (ix ranks room)))))) known) : (List Int)) fun lower =>
  (InR (List.length lower) (0 : Int)) ∧
  True)) ∧
  lt (if ((decide ((ix world.a room) = player)) && (Option.isSome (ix ranks room))) = true then
      lt ((List.filter (fun (there : Int) => (Option.isSome (ix ranks there))) (ix world.c room)) : (List Int)) fun known =>
      lt ((List.filter (fun (there : Int) => ((decide ((ix ranks room) = (some (0 : Int)))) || (decide ((uw (ix ranks there)) < (uw (ix ranks room)))))) known) : (List Int)) fun lower =>
      lt ((some (ix lower (0 : Int))) : (Option Int)) fun step =>
      step
    else
      step : (Option Int)) fun j1 =>
  (Sz1 s1) ∧
  True
def m_plan_by (world : W) (player : Int) (ranks : (List (Option Int))) : (List (Option Int)) :=
  lt (([] : (List (Option Int))) : (List (Option Int))) fun plan =>
  lt (List.foldl (t_plan_by_1 world player ranks) plan (rng (len world.a)) : (List (Option Int))) fun f2 =>
  f2
def s_plan_by (world : W) (player : Int) (ranks : (List (Option Int))) : Prop :=
  lt (([] : (List (Option Int))) : (List (Option Int))) fun plan =>
  (RgOk (len world.a)) ∧
  (foldS (u_plan_by_1 world player ranks) (t_plan_by_1 world player ranks) (rng (len world.a)) plan) ∧
  True

def m_turned_to (turns : (List (Option (T2 Int Int)))) (there : Int) (room : Int) : Bool :=
  if (Option.isNone (ix turns there)) = true then
    false
  else
    if (!(decide ((uw (ix turns there)).a = (uw (ix turns room)).a))) = true then
      (decide ((uw (ix turns there)).a < (uw (ix turns room)).a))
    else
      ((decide ((uw (ix turns there)).b < (uw (ix turns room)).b)) || ((decide ((uw (ix turns room)).b = (0 : Int))) && (decide ((uw (ix turns there)).b = (0 : Int)))))
def s_turned_to (turns : (List (Option (T2 Int Int)))) (there : Int) (room : Int) : Prop :=
  (InR (List.length turns) there) ∧
  (((Option.isNone (ix turns there)) = false) →
  (InR (List.length turns) there) ∧
  (Option.isSome (ix turns there) = true) ∧
  (InR (List.length turns) room) ∧
  (Option.isSome (ix turns room) = true) ∧
  (((!(decide ((uw (ix turns there)).a = (uw (ix turns room)).a))) = true) →
  (InR (List.length turns) there) ∧
  (Option.isSome (ix turns there) = true) ∧
  (InR (List.length turns) room) ∧
  (Option.isSome (ix turns room) = true) ∧
  True) ∧
  (((!(decide ((uw (ix turns there)).a = (uw (ix turns room)).a))) = false) →
  (InR (List.length turns) there) ∧
  (Option.isSome (ix turns there) = true) ∧
  (InR (List.length turns) room) ∧
  (Option.isSome (ix turns room) = true) ∧
  (((decide ((uw (ix turns there)).b < (uw (ix turns room)).b)) = false) → InR (List.length turns) room) ∧
  (((decide ((uw (ix turns there)).b < (uw (ix turns room)).b)) = false) → Option.isSome (ix turns room) = true) ∧
  (((decide ((uw (ix turns there)).b < (uw (ix turns room)).b)) = false) → ((decide ((uw (ix turns room)).b = (0 : Int))) = true) → InR (List.length turns) there) ∧
  (((decide ((uw (ix turns there)).b < (uw (ix turns room)).b)) = false) → ((decide ((uw (ix turns room)).b = (0 : Int))) = true) → Option.isSome (ix turns there) = true) ∧
  True))

def t_counter_by_1 (world : W) (other : Int) (turns : (List (Option (T2 Int Int)))) (s1 : (List (Option Int))) (room : Int) : (List (Option Int)) :=
  lt ((none : (Option Int)) : (Option Int)) fun step =>
  lt (if ((decide ((ix world.a room) = other)) && (Option.isSome (ix turns room))) = true then
      lt ((some (ix (List.filter (fun (there : Int) => (m_turned_to turns there room)) (ix world.c room)) (0 : Int))) : (Option Int)) fun step =>
      step
    else
      step : (Option Int)) fun j1 =>
  lt (s1 ++ [j1] : (List (Option Int))) fun plan =>
  plan
def u_counter_by_1 (world : W) (other : Int) (turns : (List (Option (T2 Int Int)))) (s1 : (List (Option Int))) (room : Int) : Prop :=
  lt ((none : (Option Int)) : (Option Int)) fun step =>
  (InR (List.length world.a) room) ∧
  (((decide ((ix world.a room) = other)) = true) → InR (List.length turns) room) ∧
  (((((decide ((ix world.a room) = other)) && (Option.isSome (ix turns room))) = true) →
  (InR (List.length world.c) room) ∧
  (Sz (ix world.c room)) ∧
  (∀ there ∈ (ix world.c room), s_turned_to turns there room) ∧
  (InR (List.length (List.filter (fun (there : Int) => (m_turned_to turns there room)) (ix world.c room))) (0 : Int)) ∧
  True)) ∧
  lt (if ((decide ((ix world.a room) = other)) && (Option.isSome (ix turns room))) = true then
      lt ((some (ix (List.filter (fun (there : Int) => (m_turned_to turns there room)) (ix world.c room)) (0 : Int))) : (Option Int)) fun step =>
      step
    else
      step : (Option Int)) fun j1 =>
  (Sz1 s1) ∧
  True
def m_counter_by (world : W) (other : Int) (turns : (List (Option (T2 Int Int)))) : (List (Option Int)) :=
  lt (([] : (List (Option Int))) : (List (Option Int))) fun plan =>
  lt (List.foldl (t_counter_by_1 world other turns) plan (rng (len world.a)) : (List (Option Int))) fun f2 =>
  f2
def s_counter_by (world : W) (other : Int) (turns : (List (Option (T2 Int Int)))) : Prop :=
  lt (([] : (List (Option Int))) : (List (Option Int))) fun plan =>
  (RgOk (len world.a)) ∧
  (foldS (u_counter_by_1 world other turns) (t_counter_by_1 world other turns) (rng (len world.a)) plan) ∧
  True

def t_again_2 (s1 : (Option (List (Option Int))) × (List (Option (T2 Int Int))) × (List Int) × Bool × Int) (u2 : (T2 (List (Option Int)) (List (Option Int)))) (s2 : (List (Option (T2 Int Int)))) (room : Int) : (List (Option (T2 Int Int))) :=
  if (Option.isSome (ix u2.b room)) = true then
    lt (setI s2 room (some (⟨s1.2.2.2.2, (uw (ix u2.b room))⟩ : (T2 Int Int))) : (List (Option (T2 Int Int)))) fun turns =>
    turns
  else
    s2
def u_again_2 (s1 : (Option (List (Option Int))) × (List (Option (T2 Int Int))) × (List Int) × Bool × Int) (u2 : (T2 (List (Option Int)) (List (Option Int)))) (s2 : (List (Option (T2 Int Int)))) (room : Int) : Prop :=
  (InR (List.length u2.b) room) ∧
  (((Option.isSome (ix u2.b room)) = true) →
  (InR (List.length u2.b) room) ∧
  (Option.isSome (ix u2.b room) = true) ∧
  (InR (List.length s2) room) ∧
  True)
def t_again_1 (world : W) (player : Int) (rooms : (List Int)) (s1 : (Option (List (Option Int))) × (List (Option (T2 Int Int))) × (List Int) × Bool × Int) : (Option (List (Option Int))) × (List (Option (T2 Int Int))) × (List Int) × Bool × Int :=
  lt ((m_shut_out world player rooms s1.2.2.1) : (T2 (List (Option Int)) (List (Option Int)))) fun u2 =>
  lt (List.foldl (t_again_2 s1 u2) s1.2.1 s1.2.2.1 : (List (Option (T2 Int Int)))) fun f1 =>
  lt ((List.filter (fun (room : Int) => (Option.isNone (ix f1 room))) s1.2.2.1) : (List Int)) fun left_ =>
  lt ((decide ((0 : Int) < (len (List.filter (fun (room : (Option Int)) => (Option.isSome room)) u2.b)))) : Bool) fun more =>
  lt ((s1.2.2.2.2 + (1 : Int)) : Int) fun turn =>
  ((some u2.a), f1, left_, more, turn)
def u_again_1 (world : W) (player : Int) (rooms : (List Int)) (s1 : (Option (List (Option Int))) × (List (Option (T2 Int Int))) × (List Int) × Bool × Int) : Prop :=
  (s_shut_out world player rooms s1.2.2.1) ∧
  lt ((m_shut_out world player rooms s1.2.2.1) : (T2 (List (Option Int)) (List (Option Int)))) fun u2 =>
  (foldS (u_again_2 s1 u2) (t_again_2 s1 u2) s1.2.2.1 s1.2.1) ∧
  lt (List.foldl (t_again_2 s1 u2) s1.2.1 s1.2.2.1 : (List (Option (T2 Int Int)))) fun f1 =>
  (Sz s1.2.2.1) ∧
  (∀ room ∈ s1.2.2.1, InR (List.length f1) room) ∧
  lt ((List.filter (fun (room : Int) => (Option.isNone (ix f1 room))) s1.2.2.1) : (List Int)) fun left_ =>
  (Sz u2.b) ∧
  True
def c_again_1 (world : W) (player : Int) (rooms : (List Int)) (s1 : (Option (List (Option Int))) × (List (Option (T2 Int Int))) × (List Int) × Bool × Int) : Bool :=
  s1.2.2.2.1
def v_again_1 (world : W) (player : Int) (rooms : (List Int)) (s1 : (Option (List (Option Int))) × (List (Option (T2 Int Int))) × (List Int) × Bool × Int) : Prop :=
  True
def m_again (world : W) (player : Int) (rooms : (List Int)) : Except PySem.Str (T4 (List (Option Int)) (List (Option Int)) (List (Option (T2 Int Int))) (List (Option Int))) :=
  els (m_ask_game world player rooms) (fun c => .error c) fun (u6 : Unit) =>
  lt ((rng (len world.a)) : (List Int)) fun left_ =>
  lt ((List.map (fun (room : Int) => (none : (Option (T2 Int Int)))) left_) : (List (Option (T2 Int Int)))) fun turns =>
  lt ((0 : Int) : Int) fun turn =>
  lt (true : Bool) fun more =>
  lt (whl (c_again_1 world player rooms) (t_again_1 world player rooms) wmost ((none : Option (List (Option Int))), turns, left_, more, turn) : (Option (List (Option Int))) × (List (Option (T2 Int Int))) × (List Int) × Bool × Int) fun f2 =>
  .ok (⟨(uw f2.1), (m_plan_by world player (uw f2.1)), f2.2.1, (m_counter_by world ((1 : Int) - player) f2.2.1)⟩ : (T4 (List (Option Int)) (List (Option Int)) (List (Option (T2 Int Int))) (List (Option Int))))
def s_again (world : W) (player : Int) (rooms : (List Int)) : Prop :=
  (s_ask_game world player rooms) ∧
  (∀ u6 : Unit, (m_ask_game world player rooms) = .ok u6 →
  (RgOk (len world.a)) ∧
  lt ((rng (len world.a)) : (List Int)) fun left_ =>
  (Sz left_) ∧
  lt ((List.map (fun (room : Int) => (none : (Option (T2 Int Int)))) left_) : (List (Option (T2 Int Int)))) fun turns =>
  lt ((0 : Int) : Int) fun turn =>
  lt (true : Bool) fun more =>
  (whS (v_again_1 world player rooms) (c_again_1 world player rooms) (u_again_1 world player rooms) (t_again_1 world player rooms) wmost ((none : Option (List (Option Int))), turns, left_, more, turn)) ∧
  lt (whl (c_again_1 world player rooms) (t_again_1 world player rooms) wmost ((none : Option (List (Option Int))), turns, left_, more, turn) : (Option (List (Option Int))) × (List (Option (T2 Int Int))) × (List Int) × Bool × Int) fun f2 =>
  (Option.isSome f2.1 = true) ∧
  (Option.isSome f2.1 = true) ∧
  (s_plan_by world player (uw f2.1)) ∧
  (s_counter_by world ((1 : Int) - player) f2.2.1) ∧
  True)

def m_law_rooms_v2 (cell : Int) (many : Int) : (List Int) :=
  (List.filter (fun (room : Int) => (decide ((0 : Int) < (m_law_draw cell room (3 : Int))))) (rng many))
def s_law_rooms_v2 (cell : Int) (many : Int) : Prop :=
  (RgOk many) ∧
  (∀ room ∈ (rng many), s_law_draw cell room (3 : Int)) ∧
  True

def m_law_now (world : W) (player : Int) (room : Int) (known : (List Int)) : Bool :=
  lt ((List.filter (fun (there : Int) => (decide (there ∈ known))) (ix world.c room)) : (List Int)) fun into =>
  if (decide ((ix world.a room) = player)) = true then
    (decide ((0 : Int) < (len into)))
  else
    (decide ((len into) = (len (ix world.c room))))
def s_law_now (world : W) (player : Int) (room : Int) (known : (List Int)) : Prop :=
  (InR (List.length world.c) room) ∧
  (Sz (ix world.c room)) ∧
  lt ((List.filter (fun (there : Int) => (decide (there ∈ known))) (ix world.c room)) : (List Int)) fun into =>
  (InR (List.length world.a) room) ∧
  (((decide ((ix world.a room) = player)) = false) →
  (InR (List.length world.c) room) ∧
  True)

def t_law_again_2 (world : W) (player : Int) (good : (List Int)) (s2 : (List Int)) (turn : Int) : (List Int) :=
  lt ((List.filter (fun (room : Int) => ((decide (room ∈ good)) || (m_law_now world player room s2))) (rng (len world.a))) : (List Int)) fun known =>
  known
def u_law_again_2 (world : W) (player : Int) (good : (List Int)) (s2 : (List Int)) (turn : Int) : Prop :=
  (RgOk (len world.a)) ∧
  (∀ room ∈ (rng (len world.a)), ((decide (room ∈ good)) = false) → s_law_now world player room s2) ∧
  True
def t_law_again_1 (world : W) (player : Int) (rooms : (List Int)) (s1 : Int × (List Int)) : Int × (List Int) :=
  lt ((len s1.2) : Int) fun size =>
  lt ((List.filter (fun (room : Int) => (m_law_now world player room s1.2)) rooms) : (List Int)) fun good =>
  lt (good : (List Int)) fun known =>
  lt (List.foldl (t_law_again_2 world player good) known (rng (len world.a)) : (List Int)) fun f1 =>
  lt ((List.filter (fun (room : Int) => (decide (room ∈ f1))) s1.2) : (List Int)) fun won =>
  (size, won)
def u_law_again_1 (world : W) (player : Int) (rooms : (List Int)) (s1 : Int × (List Int)) : Prop :=
  lt ((len s1.2) : Int) fun size =>
  (Sz rooms) ∧
  (∀ room ∈ rooms, s_law_now world player room s1.2) ∧
  lt ((List.filter (fun (room : Int) => (m_law_now world player room s1.2)) rooms) : (List Int)) fun good =>
  lt (good : (List Int)) fun known =>
  (RgOk (len world.a)) ∧
  (foldS (u_law_again_2 world player good) (t_law_again_2 world player good) (rng (len world.a)) known) ∧
  lt (List.foldl (t_law_again_2 world player good) known (rng (len world.a)) : (List Int)) fun f1 =>
  (Sz s1.2) ∧
  True
def c_law_again_1 (world : W) (player : Int) (rooms : (List Int)) (s1 : Int × (List Int)) : Bool :=
  (!(decide (s1.1 = (len s1.2))))
def v_law_again_1 (world : W) (player : Int) (rooms : (List Int)) (s1 : Int × (List Int)) : Prop :=
  True
def m_law_again (world : W) (player : Int) (rooms : (List Int)) : (List Int) :=
  lt ((rng (len world.a)) : (List Int)) fun won =>
  lt ((-1 : Int) : Int) fun size =>
  lt (whl (c_law_again_1 world player rooms) (t_law_again_1 world player rooms) wmost (size, won) : Int × (List Int)) fun f2 =>
  f2.2
def s_law_again (world : W) (player : Int) (rooms : (List Int)) : Prop :=
  (RgOk (len world.a)) ∧
  lt ((rng (len world.a)) : (List Int)) fun won =>
  lt ((-1 : Int) : Int) fun size =>
  (whS (v_law_again_1 world player rooms) (c_law_again_1 world player rooms) (u_law_again_1 world player rooms) (t_law_again_1 world player rooms) wmost (size, won)) ∧
  True

def m_law_beyond (world : W) (rooms : (List Int)) : (List Int) :=
  (List.filter (fun (room : Int) => (!(decide (room ∈ rooms)))) (rng (len world.a)))
def s_law_beyond (world : W) (rooms : (List Int)) : Prop :=
  (RgOk (len world.a)) ∧
  True

def m_law_has (ranks : (List (Option Int))) : (List Int) :=
  (List.filter (fun (room : Int) => (Option.isSome (ix ranks room))) (rng (len ranks)))
def s_law_has (ranks : (List (Option Int))) : Prop :=
  (RgOk (len ranks)) ∧
  (∀ room ∈ (rng (len ranks)), InR (List.length ranks) room) ∧
  True

def m_law_has_T (ranks : (List (Option (T2 Int Int)))) : (List Int) :=
  (List.filter (fun (room : Int) => (Option.isSome (ix ranks room))) (rng (len ranks)))
def s_law_has_T (ranks : (List (Option (T2 Int Int)))) : Prop :=
  (RgOk (len ranks)) ∧
  (∀ room ∈ (rng (len ranks)), InR (List.length ranks) room) ∧
  True

def m_copy_of (world : W) : W :=
  (⟨world.a, (List.map (fun (marks : (List Tx)) => marks) world.b), (List.map (fun (steps : (List Int)) => steps) world.c)⟩ : W)
def s_copy_of (world : W) : Prop :=
  (Sz world.b) ∧
  (Sz world.c) ∧
  True

def m_renamed (world : W) (order : (List Int)) : Except PySem.Str W :=
  els (m_ask_world world) (fun c => .error c) fun (u6 : Unit) =>
  if (!(decide ((sortI order) = (rng (len world.a))))) = true then
    .error "NoRoom"
  else
    lt ((List.map (fun (room : Int) => (ix world.a room)) order) : (List Int)) fun owners =>
    lt ((List.map (fun (room : Int) => (ix world.b room)) order) : (List (List Tx))) fun marks =>
    .ok (⟨owners, marks, (List.map (fun (room : Int) => (sortI (List.map (fun (there : Int) => ((List.idxOf there order : Nat) : Int)) (ix world.c room)))) order)⟩ : W)
def s_renamed (world : W) (order : (List Int)) : Prop :=
  (s_ask_world world) ∧
  (∀ u6 : Unit, (m_ask_world world) = .ok u6 →
  (List.length order < 64) ∧
  (RgOk (len world.a)) ∧
  (((!(decide ((sortI order) = (rng (len world.a))))) = false) →
  (Sz order) ∧
  (∀ room ∈ order, InR (List.length world.a) room) ∧
  lt ((List.map (fun (room : Int) => (ix world.a room)) order) : (List Int)) fun owners =>
  (Sz order) ∧
  (∀ room ∈ order, InR (List.length world.b) room) ∧
  lt ((List.map (fun (room : Int) => (ix world.b room)) order) : (List (List Tx))) fun marks =>
  (Sz order) ∧
  (∀ room ∈ order, InR (List.length world.c) room) ∧
  (∀ room ∈ order, Sz (ix world.c room)) ∧
  (∀ room ∈ order, ∀ there ∈ (ix world.c room), there ∈ order) ∧
  (∀ room ∈ order, List.length (List.map (fun (there : Int) => ((List.idxOf there order : Nat) : Int)) (ix world.c room)) < 64) ∧
  True))

def m_handed_over (world : W) : Except PySem.Str W :=
  els (m_ask_world world) (fun c => .error c) fun (u2 : Unit) =>
  lt ((m_copy_of world) : W) fun found =>
  .ok (⟨(List.map (fun (owner : Int) => ((1 : Int) - owner)) found.a), found.b, found.c⟩ : W)
def s_handed_over (world : W) : Prop :=
  (s_ask_world world) ∧
  (∀ u2 : Unit, (m_ask_world world) = .ok u2 →
  (s_copy_of world) ∧
  lt ((m_copy_of world) : W) fun found =>
  (Sz found.a) ∧
  True)

def m_beside (one_ : W) (other : W) : Except PySem.Str W :=
  els (m_ask_world one_) (fun c => .error c) fun (u5 : Unit) =>
  els (m_ask_world other) (fun c => .error c) fun (u4 : Unit) =>
  lt ((len one_.a) : Int) fun many =>
  if (decide ((24 : Int) < (many + (len other.a)))) = true then
    .error "TooGreat"
  else
    lt ((m_copy_of one_) : W) fun first_ =>
    lt ((m_copy_of other) : W) fun second =>
    lt ((List.map (fun (row : (List Int)) => (List.map (fun (room : Int) => (room + many)) row)) second.c) : (List (List Int))) fun steps =>
    .ok (⟨(first_.a ++ second.a), (first_.b ++ second.b), (first_.c ++ steps)⟩ : W)
def s_beside (one_ : W) (other : W) : Prop :=
  (s_ask_world one_) ∧
  (∀ u5 : Unit, (m_ask_world one_) = .ok u5 →
  (s_ask_world other) ∧
  (∀ u4 : Unit, (m_ask_world other) = .ok u4 →
  lt ((len one_.a) : Int) fun many =>
  (((decide ((24 : Int) < (many + (len other.a)))) = false) →
  (s_copy_of one_) ∧
  lt ((m_copy_of one_) : W) fun first_ =>
  (s_copy_of other) ∧
  lt ((m_copy_of other) : W) fun second =>
  (Sz second.c) ∧
  (∀ row ∈ second.c, Sz row) ∧
  lt ((List.map (fun (row : (List Int)) => (List.map (fun (room : Int) => (room + many)) row)) second.c) : (List (List Int))) fun steps =>
  (Sz (first_.a ++ second.a)) ∧
  (Sz (first_.b ++ second.b)) ∧
  (Sz (first_.c ++ steps)) ∧
  True)))

def m_ask_fair (world : W) (rooms : (List Int)) (marks : (List Tx)) : Except PySem.Str Unit :=
  els (m_ask_world world) (fun c => .error c) fun (u3 : Unit) =>
  els (m_ask_marks marks) (fun c => .error c) fun (u2 : Unit) =>
  els (m_ask_rooms world rooms) (fun c => .error c) fun (u1 : Unit) =>
  .ok ()
def s_ask_fair (world : W) (rooms : (List Int)) (marks : (List Tx)) : Prop :=
  (s_ask_world world) ∧
  (∀ u3 : Unit, (m_ask_world world) = .ok u3 →
  (s_ask_marks marks) ∧
  (∀ u2 : Unit, (m_ask_marks marks) = .ok u2 →
  (s_ask_rooms world rooms) ∧
  True))

def t_inner_1 (world : W) (rooms : (List Int)) (s1 : (List (List Int))) (room : Int) : (List (List Int)) :=
  lt (s1 ++ [(List.filter (fun (there : Int) => ((decide (room ∈ rooms)) && (decide (there ∈ rooms)))) (ix world.c room))] : (List (List Int))) fun found =>
  found
def u_inner_1 (world : W) (rooms : (List Int)) (s1 : (List (List Int))) (room : Int) : Prop :=
  (InR (List.length world.c) room) ∧
  (Sz (ix world.c room)) ∧
  (Sz1 s1) ∧
  True
def m_inner (world : W) (rooms : (List Int)) : (List (List Int)) :=
  lt (([] : (List (List Int))) : (List (List Int))) fun found =>
  lt (List.foldl (t_inner_1 world rooms) found (rng (len world.a)) : (List (List Int))) fun f1 =>
  f1
def s_inner (world : W) (rooms : (List Int)) : Prop :=
  lt (([] : (List (List Int))) : (List (List Int))) fun found =>
  (RgOk (len world.a)) ∧
  (foldS (u_inner_1 world rooms) (t_inner_1 world rooms) (rng (len world.a)) found) ∧
  True

def t_leading_1 (steps : (List (List Int))) (kept : (List Int)) (s1 : (List Int) × Bool) : (List Int) × Bool :=
  lt ((List.filter (fun (room : Int) => ((!(decide (room ∈ s1.1))) && (decide ((0 : Int) < (len (List.filter (fun (one_ : Int) => (decide (one_ ∈ s1.1))) (ix steps room))))))) kept) : (List Int)) fun new =>
  lt ((s1.1 ++ new) : (List Int)) fun found =>
  lt ((decide ((0 : Int) < (len new))) : Bool) fun more =>
  (found, more)
def u_leading_1 (steps : (List (List Int))) (kept : (List Int)) (s1 : (List Int) × Bool) : Prop :=
  (Sz kept) ∧
  (∀ room ∈ kept, ((!(decide (room ∈ s1.1))) = true) → InR (List.length steps) room) ∧
  (∀ room ∈ kept, ((!(decide (room ∈ s1.1))) = true) → Sz (ix steps room)) ∧
  lt ((List.filter (fun (room : Int) => ((!(decide (room ∈ s1.1))) && (decide ((0 : Int) < (len (List.filter (fun (one_ : Int) => (decide (one_ ∈ s1.1))) (ix steps room))))))) kept) : (List Int)) fun new =>
  (Sz (s1.1 ++ new)) ∧
  True
def c_leading_1 (steps : (List (List Int))) (kept : (List Int)) (s1 : (List Int) × Bool) : Bool :=
  s1.2
def v_leading_1 (steps : (List (List Int))) (kept : (List Int)) (s1 : (List Int) × Bool) : Prop :=
  True
def m_leading (steps : (List (List Int))) (kept : (List Int)) (goal : (List Int)) : (List Int) :=
  lt ((List.filter (fun (room : Int) => (decide (room ∈ goal))) kept) : (List Int)) fun found =>
  lt (true : Bool) fun more =>
  lt (whl (c_leading_1 steps kept) (t_leading_1 steps kept) wmost (found, more) : (List Int) × Bool) fun f1 =>
  (sortI f1.1)
def s_leading (steps : (List (List Int))) (kept : (List Int)) (goal : (List Int)) : Prop :=
  (Sz kept) ∧
  lt ((List.filter (fun (room : Int) => (decide (room ∈ goal))) kept) : (List Int)) fun found =>
  lt (true : Bool) fun more =>
  (whS (v_leading_1 steps kept) (c_leading_1 steps kept) (u_leading_1 steps kept) (t_leading_1 steps kept) wmost (found, more)) ∧
  lt (whl (c_leading_1 steps kept) (t_leading_1 steps kept) wmost (found, more) : (List Int) × Bool) fun f1 =>
  (List.length f1.1 < 64) ∧
  True

def t_taken_off_2 (world : W) (s2 : (List (List Int)) × (List Int) × Bool × (List (T2 (List Int) (Option Tx)))) (mark : Tx) : (List (List Int)) × (List Int) × Bool × (List (T2 (List Int) (Option Tx))) :=
  lt ((m_inner world s2.2.1) : (List (List Int))) fun steps =>
  lt ((m_leading steps s2.2.1 (List.filter (fun (room : Int) => (decide (mark ∈ (ix world.b room)))) s2.2.1)) : (List Int)) fun near =>
  lt ((List.filter (fun (room : Int) => (!(decide (room ∈ near)))) s2.2.1) : (List Int)) fun far =>
  if (decide ((0 : Int) < (len far))) = true then
    lt (s2.2.2.2 ++ [(⟨far, (some mark)⟩ : (T2 (List Int) (Option Tx)))] : (List (T2 (List Int) (Option Tx)))) fun rows =>
    lt (near : (List Int)) fun kept =>
    lt (true : Bool) fun more =>
    (steps, kept, more, rows)
  else
    (steps, s2.2.1, s2.2.2.1, s2.2.2.2)
def u_taken_off_2 (world : W) (s2 : (List (List Int)) × (List Int) × Bool × (List (T2 (List Int) (Option Tx)))) (mark : Tx) : Prop :=
  (s_inner world s2.2.1) ∧
  lt ((m_inner world s2.2.1) : (List (List Int))) fun steps =>
  (Sz s2.2.1) ∧
  (∀ room ∈ s2.2.1, InR (List.length world.b) room) ∧
  (s_leading steps s2.2.1 (List.filter (fun (room : Int) => (decide (mark ∈ (ix world.b room)))) s2.2.1)) ∧
  lt ((m_leading steps s2.2.1 (List.filter (fun (room : Int) => (decide (mark ∈ (ix world.b room)))) s2.2.1)) : (List Int)) fun near =>
  (Sz s2.2.1) ∧
  lt ((List.filter (fun (room : Int) => (!(decide (room ∈ near)))) s2.2.1) : (List Int)) fun far =>
  (((decide ((0 : Int) < (len far))) = true) →
  (Sz1 s2.2.2.2) ∧
  True)
def t_taken_off_1 (world : W) (marks : (List Tx)) (s1 : Bool × (List Int) × (List (T2 (List Int) (Option Tx)))) : Bool × (List Int) × (List (T2 (List Int) (Option Tx))) :=
  lt (false : Bool) fun more =>
  lt ((m_inner world s1.2.1) : (List (List Int))) fun steps =>
  lt ((List.filter (fun (room : Int) => (decide ((len (ix steps room)) = (0 : Int)))) s1.2.1) : (List Int)) fun stuck =>
  lt (if (decide ((0 : Int) < (len stuck))) = true then
      lt (s1.2.2 ++ [(⟨stuck, (none : (Option Tx))⟩ : (T2 (List Int) (Option Tx)))] : (List (T2 (List Int) (Option Tx)))) fun rows =>
      lt ((List.filter (fun (room : Int) => (!(decide (room ∈ stuck)))) s1.2.1) : (List Int)) fun kept =>
      lt (true : Bool) fun more =>
      (rows, kept, more)
    else
      (s1.2.2, s1.2.1, more) : (List (T2 (List Int) (Option Tx))) × (List Int) × Bool) fun j1 =>
  lt (List.foldl (t_taken_off_2 world) (steps, j1.2.1, j1.2.2, j1.1) marks : (List (List Int)) × (List Int) × Bool × (List (T2 (List Int) (Option Tx)))) fun f2 =>
  (f2.2.2.1, f2.2.1, f2.2.2.2)
def u_taken_off_1 (world : W) (marks : (List Tx)) (s1 : Bool × (List Int) × (List (T2 (List Int) (Option Tx)))) : Prop :=
  lt (false : Bool) fun more =>
  (s_inner world s1.2.1) ∧
  lt ((m_inner world s1.2.1) : (List (List Int))) fun steps =>
  (Sz s1.2.1) ∧
  (∀ room ∈ s1.2.1, InR (List.length steps) room) ∧
  lt ((List.filter (fun (room : Int) => (decide ((len (ix steps room)) = (0 : Int)))) s1.2.1) : (List Int)) fun stuck =>
  ((((decide ((0 : Int) < (len stuck))) = true) →
  (Sz1 s1.2.2) ∧
  lt (s1.2.2 ++ [(⟨stuck, (none : (Option Tx))⟩ : (T2 (List Int) (Option Tx)))] : (List (T2 (List Int) (Option Tx)))) fun rows =>
  (Sz s1.2.1) ∧
  True)) ∧
  lt (if (decide ((0 : Int) < (len stuck))) = true then
      lt (s1.2.2 ++ [(⟨stuck, (none : (Option Tx))⟩ : (T2 (List Int) (Option Tx)))] : (List (T2 (List Int) (Option Tx)))) fun rows =>
      lt ((List.filter (fun (room : Int) => (!(decide (room ∈ stuck)))) s1.2.1) : (List Int)) fun kept =>
      lt (true : Bool) fun more =>
      (rows, kept, more)
    else
      (s1.2.2, s1.2.1, more) : (List (T2 (List Int) (Option Tx))) × (List Int) × Bool) fun j1 =>
  (foldS (u_taken_off_2 world) (t_taken_off_2 world) marks (steps, j1.2.1, j1.2.2, j1.1)) ∧
  True
def c_taken_off_1 (world : W) (marks : (List Tx)) (s1 : Bool × (List Int) × (List (T2 (List Int) (Option Tx)))) : Bool :=
  s1.1
def v_taken_off_1 (world : W) (marks : (List Tx)) (s1 : Bool × (List Int) × (List (T2 (List Int) (Option Tx)))) : Prop :=
  True
def m_taken_off (world : W) (rooms : (List Int)) (marks : (List Tx)) : (T2 (List (T2 (List Int) (Option Tx))) (List Int)) :=
  lt (rooms : (List Int)) fun kept =>
  lt (([] : (List (T2 (List Int) (Option Tx)))) : (List (T2 (List Int) (Option Tx)))) fun rows =>
  lt (true : Bool) fun more =>
  lt (whl (c_taken_off_1 world marks) (t_taken_off_1 world marks) wmost (more, kept, rows) : Bool × (List Int) × (List (T2 (List Int) (Option Tx)))) fun f3 =>
  (⟨f3.2.2, f3.2.1⟩ : (T2 (List (T2 (List Int) (Option Tx))) (List Int)))
def s_taken_off (world : W) (rooms : (List Int)) (marks : (List Tx)) : Prop :=
  lt (rooms : (List Int)) fun kept =>
  lt (([] : (List (T2 (List Int) (Option Tx)))) : (List (T2 (List Int) (Option Tx)))) fun rows =>
  lt (true : Bool) fun more =>
  (whS (v_taken_off_1 world marks) (c_taken_off_1 world marks) (u_taken_off_1 world marks) (t_taken_off_1 world marks) wmost (more, kept, rows)) ∧
  True

def m_fair_rooms (world : W) (rooms : (List Int)) (marks : (List Tx)) : Except PySem.Str (List Int) :=
  els (m_ask_fair world rooms marks) (fun c => .error c) fun (u1 : Unit) =>
  .ok ((m_taken_off world rooms marks).b)
def s_fair_rooms (world : W) (rooms : (List Int)) (marks : (List Tx)) : Prop :=
  (s_ask_fair world rooms marks) ∧
  (∀ u1 : Unit, (m_ask_fair world rooms marks) = .ok u1 →
  (s_taken_off world rooms marks) ∧
  True)

def t_is_way_1 (world : W) (s1 : Unit) (x1 : (T2 Int Int)) : Out (Except PySem.Str Bool) (Unit) :=
  if (!(decide (x1.b ∈ (ix world.c x1.a)))) = true then
    .rt (.ok false)
  else
    .nx ()
def u_is_way_1 (world : W) (s1 : Unit) (x1 : (T2 Int Int)) : Prop :=
  (InR (List.length world.c) x1.a) ∧
  True
def m_is_way (world : W) (way : (T2 (List Int) (List Int))) : Except PySem.Str Bool :=
  els (m_ask_world world) (fun c => .error c) fun (u7 : Unit) =>
  lt (way : (T2 (List Int) (List Int))) fun u1 =>
  lt ((u1.a ++ u1.b) : (List Int)) fun rooms =>
  if ((decide ((len u1.b) = (0 : Int))) || (!(List.all rooms (fun (room : Int) => ((decide ((0 : Int) ≤ room)) && (decide (room < (len world.a)))))))) = true then
    .ok false
  else
    (foldO (t_is_way_1 world) (zip2 rooms ((cut rooms (some (1 : Int)) none) ++ (cut u1.b none (some (1 : Int))))) ()).then (fun x => x) fun f1 =>
    .ok true
def s_is_way (world : W) (way : (T2 (List Int) (List Int))) : Prop :=
  (s_ask_world world) ∧
  (∀ u7 : Unit, (m_ask_world world) = .ok u7 →
  lt (way : (T2 (List Int) (List Int))) fun u1 =>
  (Sz (u1.a ++ u1.b)) ∧
  lt ((u1.a ++ u1.b) : (List Int)) fun rooms =>
  (((decide ((len u1.b) = (0 : Int))) = false) → Sz rooms) ∧
  ((((decide ((len u1.b) = (0 : Int))) || (!(List.all rooms (fun (room : Int) => ((decide ((0 : Int) ≤ room)) && (decide (room < (len world.a)))))))) = false) →
  (Sz ((cut rooms (some (1 : Int)) none) ++ (cut u1.b none (some (1 : Int))))) ∧
  (foldOS (u_is_way_1 world) (t_is_way_1 world) (zip2 rooms ((cut rooms (some (1 : Int)) none) ++ (cut u1.b none (some (1 : Int))))) ()) ∧
  True))

def t_law_way_1 (world : W) (cell : Int) (s1 : (Option (List Int)) × (List Int)) (k_ : Int) : (Option (List Int)) × (List Int) :=
  lt ((ix world.c (ix s1.2 (-1 : Int))) : (List Int)) fun steps =>
  lt (s1.2 ++ [(ix steps (Int.fmod (m_law_draw cell k_ (24 : Int)) (len steps)))] : (List Int)) fun rooms =>
  ((some steps), rooms)
def u_law_way_1 (world : W) (cell : Int) (s1 : (Option (List Int)) × (List Int)) (k_ : Int) : Prop :=
  (InR (List.length s1.2) (-1 : Int)) ∧
  (InR (List.length world.c) (ix s1.2 (-1 : Int))) ∧
  lt ((ix world.c (ix s1.2 (-1 : Int))) : (List Int)) fun steps =>
  (s_law_draw cell k_ (24 : Int)) ∧
  ((len steps) ≠ 0) ∧
  (InR (List.length steps) (Int.fmod (m_law_draw cell k_ (24 : Int)) (len steps))) ∧
  (Sz1 s1.2) ∧
  True
def t_law_way_2 (world : W) (cell : Int) (s2 : (List Int)) : (List Int) :=
  lt ((ix world.c (ix s2 (-1 : Int))) : (List Int)) fun steps =>
  lt (s2 ++ [(ix steps (Int.fmod (m_law_draw cell (len s2) (24 : Int)) (len steps)))] : (List Int)) fun rooms =>
  rooms
def u_law_way_2 (world : W) (cell : Int) (s2 : (List Int)) : Prop :=
  (InR (List.length s2) (-1 : Int)) ∧
  (InR (List.length world.c) (ix s2 (-1 : Int))) ∧
  lt ((ix world.c (ix s2 (-1 : Int))) : (List Int)) fun steps =>
  (s_law_draw cell (len s2) (24 : Int)) ∧
  ((len steps) ≠ 0) ∧
  (InR (List.length steps) (Int.fmod (m_law_draw cell (len s2) (24 : Int)) (len steps))) ∧
  (Sz1 s2) ∧
  True
def c_law_way_2 (world : W) (cell : Int) (s2 : (List Int)) : Bool :=
  (!(decide ((ix s2 (-1 : Int)) ∈ (cut s2 none (some (-1 : Int))))))
def v_law_way_2 (world : W) (cell : Int) (s2 : (List Int)) : Prop :=
  (InR (List.length s2) (-1 : Int)) ∧
  True
def m_law_way (world : W) (cell : Int) (room : Int) (size : Int) : (T2 (List Int) (List Int)) :=
  lt (([room] : (List Int)) : (List Int)) fun rooms =>
  lt (List.foldl (t_law_way_1 world cell) ((none : Option (List Int)), rooms) (rng size) : (Option (List Int)) × (List Int)) fun f1 =>
  lt (whl (c_law_way_2 world cell) (t_law_way_2 world cell) wmost f1.2 : (List Int)) fun f2 =>
  lt ((List.filter (fun (k_ : Int) => (decide ((ix f2 k_) = (ix f2 (-1 : Int))))) (rng ((len f2) - (1 : Int)))) : (List Int)) fun places =>
  lt ((ix places (Int.fmod (m_law_draw cell (59 : Int) (24 : Int)) (len places))) : Int) fun at_ =>
  (⟨(cut f2 none (some at_)), (cut f2 (some at_) (some (-1 : Int)))⟩ : (T2 (List Int) (List Int)))
def s_law_way (world : W) (cell : Int) (room : Int) (size : Int) : Prop :=
  lt (([room] : (List Int)) : (List Int)) fun rooms =>
  (RgOk size) ∧
  (foldS (u_law_way_1 world cell) (t_law_way_1 world cell) (rng size) ((none : Option (List Int)), rooms)) ∧
  lt (List.foldl (t_law_way_1 world cell) ((none : Option (List Int)), rooms) (rng size) : (Option (List Int)) × (List Int)) fun f1 =>
  (whS (v_law_way_2 world cell) (c_law_way_2 world cell) (u_law_way_2 world cell) (t_law_way_2 world cell) wmost f1.2) ∧
  lt (whl (c_law_way_2 world cell) (t_law_way_2 world cell) wmost f1.2 : (List Int)) fun f2 =>
  (RgOk ((len f2) - (1 : Int))) ∧
  (∀ k_ ∈ (rng ((len f2) - (1 : Int))), InR (List.length f2) k_) ∧
  (∀ k_ ∈ (rng ((len f2) - (1 : Int))), InR (List.length f2) (-1 : Int)) ∧
  lt ((List.filter (fun (k_ : Int) => (decide ((ix f2 k_) = (ix f2 (-1 : Int))))) (rng ((len f2) - (1 : Int)))) : (List Int)) fun places =>
  (s_law_draw cell (59 : Int) (24 : Int)) ∧
  ((len places) ≠ 0) ∧
  (InR (List.length places) (Int.fmod (m_law_draw cell (59 : Int) (24 : Int)) (len places))) ∧
  True

def m_law_twin (world : W) : W :=
  (⟨world.a, (List.map (fun (row : (List Tx)) => row) world.b), (List.map (fun (row : (List Int)) => row) world.c)⟩ : W)
def s_law_twin (world : W) : Prop :=
  (Sz world.b) ∧
  (Sz world.c) ∧
  True

def m_law_whole (found : Int) : Bool :=
  (true && (!false))
def s_law_whole (found : Int) : Prop :=
  True

def t_law_is_plan_1 (world : W) (player : Int) (plan : (List (Option Int))) (s1 : Unit) (room : Int) : Out (Bool) (Unit) :=
  lt ((ix plan room) : (Option Int)) fun step =>
  if ((Option.isSome step) && ((!(m_law_whole (uw step))) || (!(decide ((ix world.a room) = player))))) = true then
    .rt false
  else
    if ((Option.isSome step) && (!(decide ((uw step) ∈ (ix world.c room))))) = true then
      .rt false
    else
      .nx ()
def u_law_is_plan_1 (world : W) (player : Int) (plan : (List (Option Int))) (s1 : Unit) (room : Int) : Prop :=
  (InR (List.length plan) room) ∧
  lt ((ix plan room) : (Option Int)) fun step =>
  (((Option.isSome step) = true) → Option.isSome step = true) ∧
  (((Option.isSome step) = true) → s_law_whole (uw step)) ∧
  (((Option.isSome step) = true) → ((!(m_law_whole (uw step))) = false) → InR (List.length world.a) room) ∧
  ((((Option.isSome step) && ((!(m_law_whole (uw step))) || (!(decide ((ix world.a room) = player))))) = false) →
  (((Option.isSome step) = true) → Option.isSome step = true) ∧
  (((Option.isSome step) = true) → InR (List.length world.c) room) ∧
  True)
def m_law_is_plan (world : W) (player : Int) (plan : (List (Option Int))) : Bool :=
  if ((!true) || (!(decide ((len plan) = (len world.a))))) = true then
    false
  else
    (foldO (t_law_is_plan_1 world player plan) (rng (len plan)) ()).then (fun x => x) fun f1 =>
    true
def s_law_is_plan (world : W) (player : Int) (plan : (List (Option Int))) : Prop :=
  ((((!true) || (!(decide ((len plan) = (len world.a))))) = false) →
  (RgOk (len plan)) ∧
  (foldOS (u_law_is_plan_1 world player plan) (t_law_is_plan_1 world player plan) (rng (len plan)) ()) ∧
  True)

def t_law_plan_1 (world : W) (player : Int) (cell : Int) (some_ : Bool) (s1 : (List (Option Int))) (room : Int) : (List (Option Int)) :=
  lt ((ix world.c room) : (List Int)) fun steps =>
  lt ((some (ix steps (Int.fmod (m_law_draw cell room (24 : Int)) (len steps)))) : (Option Int)) fun step =>
  lt (if ((!(decide ((ix world.a room) = player))) || (some_ && (decide ((m_law_draw cell ((30 : Int) + room) (3 : Int)) = (1 : Int))))) = true then
      lt ((none : (Option Int)) : (Option Int)) fun step =>
      step
    else
      step : (Option Int)) fun j1 =>
  lt (s1 ++ [j1] : (List (Option Int))) fun found =>
  found
def u_law_plan_1 (world : W) (player : Int) (cell : Int) (some_ : Bool) (s1 : (List (Option Int))) (room : Int) : Prop :=
  (InR (List.length world.c) room) ∧
  lt ((ix world.c room) : (List Int)) fun steps =>
  (s_law_draw cell room (24 : Int)) ∧
  ((len steps) ≠ 0) ∧
  (InR (List.length steps) (Int.fmod (m_law_draw cell room (24 : Int)) (len steps))) ∧
  lt ((some (ix steps (Int.fmod (m_law_draw cell room (24 : Int)) (len steps)))) : (Option Int)) fun step =>
  (InR (List.length world.a) room) ∧
  (((!(decide ((ix world.a room) = player))) = false) → (some_ = true) → s_law_draw cell ((30 : Int) + room) (3 : Int)) ∧
  lt (if ((!(decide ((ix world.a room) = player))) || (some_ && (decide ((m_law_draw cell ((30 : Int) + room) (3 : Int)) = (1 : Int))))) = true then
      lt ((none : (Option Int)) : (Option Int)) fun step =>
      step
    else
      step : (Option Int)) fun j1 =>
  (Sz1 s1) ∧
  True
def m_law_plan (world : W) (player : Int) (cell : Int) (some_ : Bool) : (List (Option Int)) :=
  lt (([] : (List (Option Int))) : (List (Option Int))) fun found =>
  lt (List.foldl (t_law_plan_1 world player cell some_) found (rng (len world.a)) : (List (Option Int))) fun f2 =>
  f2
def s_law_plan (world : W) (player : Int) (cell : Int) (some_ : Bool) : Prop :=
  lt (([] : (List (Option Int))) : (List (Option Int))) fun found =>
  (RgOk (len world.a)) ∧
  (foldS (u_law_plan_1 world player cell some_) (t_law_plan_1 world player cell some_) (rng (len world.a)) found) ∧
  True

def m_are_ranks (world : W) (ranks : (List (Option Int))) : Bool :=
  ((decide ((len ranks) = (len world.a))) && (List.all ranks (fun (rank : (Option Int)) => ((Option.isNone rank) || (decide ((0 : Int) ≤ (uw rank)))))))
def s_are_ranks (world : W) (ranks : (List (Option Int))) : Prop :=
  (((decide ((len ranks) = (len world.a))) = true) → Sz ranks) ∧
  (((decide ((len ranks) = (len world.a))) = true) → ∀ rank ∈ ranks, ((Option.isNone rank) = false) → Option.isSome rank = true) ∧
  True

def m_lower_than (ranks : (List (Option Int))) (there : Int) (room : Int) : Bool :=
  ((Option.isSome (ix ranks there)) && (decide ((uw (ix ranks there)) < (uw (ix ranks room)))))
def s_lower_than (ranks : (List (Option Int))) (there : Int) (room : Int) : Prop :=
  (InR (List.length ranks) there) ∧
  (((Option.isSome (ix ranks there)) = true) → InR (List.length ranks) there) ∧
  (((Option.isSome (ix ranks there)) = true) → Option.isSome (ix ranks there) = true) ∧
  (((Option.isSome (ix ranks there)) = true) → InR (List.length ranks) room) ∧
  (((Option.isSome (ix ranks there)) = true) → Option.isSome (ix ranks room) = true) ∧
  True

def t_bring_shows_1 (world : W) (player : Int) (rooms : (List Int)) (ranks : (List (Option Int))) (plan : (List (Option Int))) (s1 : Unit) (room : Int) : Out (Except PySem.Str Bool) (Unit) :=
  lt ((List.filter (fun (there : Int) => (Option.isSome (ix ranks there))) (ix world.c room)) : (List Int)) fun known =>
  if (!(decide ((decide ((ix ranks room) = (some (0 : Int)))) = (decide (room ∈ rooms))))) = true then
    .rt (.ok false)
  else
    if (Option.isNone (ix ranks room)) = true then
      if (((decide ((ix world.a room) = player)) && (decide ((0 : Int) < (len known)))) || (decide ((len known) = (len (ix world.c room))))) = true then
        .rt (.ok false)
      else
        .nx ()
    else
      if ((decide ((0 : Int) < (uw (ix ranks room)))) && (decide ((ix world.a room) = player))) = true then
        if ((Option.isNone (ix plan room)) || (!(m_lower_than ranks (uw (ix plan room)) room))) = true then
          .rt (.ok false)
        else
          .nx ()
      else
        if ((decide ((0 : Int) < (uw (ix ranks room)))) && (!(List.all (ix world.c room) (fun (there : Int) => (m_lower_than ranks there room))))) = true then
          .rt (.ok false)
        else
          .nx ()
def u_bring_shows_1 (world : W) (player : Int) (rooms : (List Int)) (ranks : (List (Option Int))) (plan : (List (Option Int))) (s1 : Unit) (room : Int) : Prop :=
  (InR (List.length world.c) room) ∧
  (Sz (ix world.c room)) ∧
  (∀ there ∈ (ix world.c room), InR (List.length ranks) there) ∧
  lt ((List.filter (fun (there : Int) => (Option.isSome (ix ranks there))) (ix world.c room)) : (List Int)) fun known =>
  (InR (List.length ranks) room) ∧
  (((!(decide ((decide ((ix ranks room) = (some (0 : Int)))) = (decide (room ∈ rooms))))) = false) →
  (InR (List.length ranks) room) ∧
  (((Option.isNone (ix ranks room)) = true) →
  (InR (List.length world.a) room) ∧
  ((((decide ((ix world.a room) = player)) && (decide ((0 : Int) < (len known)))) = false) → InR (List.length world.c) room) ∧
  True) ∧
  (((Option.isNone (ix ranks room)) = false) →
  (InR (List.length ranks) room) ∧
  (Option.isSome (ix ranks room) = true) ∧
  (((decide ((0 : Int) < (uw (ix ranks room)))) = true) → InR (List.length world.a) room) ∧
  ((((decide ((0 : Int) < (uw (ix ranks room)))) && (decide ((ix world.a room) = player))) = true) →
  (InR (List.length plan) room) ∧
  (((Option.isNone (ix plan room)) = false) → InR (List.length plan) room) ∧
  (((Option.isNone (ix plan room)) = false) → Option.isSome (ix plan room) = true) ∧
  (((Option.isNone (ix plan room)) = false) → s_lower_than ranks (uw (ix plan room)) room) ∧
  True) ∧
  ((((decide ((0 : Int) < (uw (ix ranks room)))) && (decide ((ix world.a room) = player))) = false) →
  (InR (List.length ranks) room) ∧
  (Option.isSome (ix ranks room) = true) ∧
  (((decide ((0 : Int) < (uw (ix ranks room)))) = true) → InR (List.length world.c) room) ∧
  (((decide ((0 : Int) < (uw (ix ranks room)))) = true) → Sz (ix world.c room)) ∧
  (((decide ((0 : Int) < (uw (ix ranks room)))) = true) → ∀ there ∈ (ix world.c room), s_lower_than ranks there room) ∧
  True)))
def m_bring_shows (world : W) (player : Int) (rooms : (List Int)) (ranks : (List (Option Int))) (plan : (List (Option Int))) : Except PySem.Str Bool :=
  els (m_ask_game world player rooms) (fun c => .error c) fun (u16 : Unit) =>
  if ((!(m_are_ranks world ranks)) || (!(okv (m_is_plan world player plan)))) = true then
    .ok false
  else
    (foldO (t_bring_shows_1 world player rooms ranks plan) (rng (len world.a)) ()).then (fun x => x) fun f1 =>
    .ok true
def s_bring_shows (world : W) (player : Int) (rooms : (List Int)) (ranks : (List (Option Int))) (plan : (List (Option Int))) : Prop :=
  (s_ask_game world player rooms) ∧
  (∀ u16 : Unit, (m_ask_game world player rooms) = .ok u16 →
  (s_are_ranks world ranks) ∧
  (((!(m_are_ranks world ranks)) = false) → s_is_plan world player plan) ∧
  (((!(m_are_ranks world ranks)) = false) → isOk (m_is_plan world player plan)) ∧
  ((((!(m_are_ranks world ranks)) || (!(okv (m_is_plan world player plan)))) = false) →
  (RgOk (len world.a)) ∧
  (foldOS (u_bring_shows_1 world player rooms ranks plan) (t_bring_shows_1 world player rooms ranks plan) (rng (len world.a)) ()) ∧
  True))

def m_law_few (cell : Int) (many : Int) : (List Int) :=
  (List.filter (fun (room : Int) => (decide ((m_law_draw cell room (3 : Int)) = (0 : Int)))) (rng many))
def s_law_few (cell : Int) (many : Int) : Prop :=
  (RgOk many) ∧
  (∀ room ∈ (rng many), s_law_draw cell room (3 : Int)) ∧
  True

def t_law_brought_2 (turn : Int) (s2 : (List (Option Int))) (room : Int) : (List (Option Int)) :=
  lt (setI s2 room (some turn) : (List (Option Int))) fun ranks =>
  ranks
def u_law_brought_2 (turn : Int) (s2 : (List (Option Int))) (room : Int) : Prop :=
  (InR (List.length s2) room) ∧
  True
def t_law_brought_1 (world : W) (player : Int) (many : Int) (s1 : (List (Option Int))) (turn : Int) : (List (Option Int)) :=
  lt ((List.filter (fun (room : Int) => (Option.isSome (ix s1 room))) (rng many)) : (List Int)) fun known =>
  lt ((List.filter (fun (room : Int) => ((Option.isNone (ix s1 room)) && (m_law_now world player room known))) (rng many)) : (List Int)) fun new =>
  lt (List.foldl (t_law_brought_2 turn) s1 new : (List (Option Int))) fun f1 =>
  f1
def u_law_brought_1 (world : W) (player : Int) (many : Int) (s1 : (List (Option Int))) (turn : Int) : Prop :=
  (RgOk many) ∧
  (∀ room ∈ (rng many), InR (List.length s1) room) ∧
  lt ((List.filter (fun (room : Int) => (Option.isSome (ix s1 room))) (rng many)) : (List Int)) fun known =>
  (RgOk many) ∧
  (∀ room ∈ (rng many), InR (List.length s1) room) ∧
  (∀ room ∈ (rng many), ((Option.isNone (ix s1 room)) = true) → s_law_now world player room known) ∧
  lt ((List.filter (fun (room : Int) => ((Option.isNone (ix s1 room)) && (m_law_now world player room known))) (rng many)) : (List Int)) fun new =>
  (foldS (u_law_brought_2 turn) (t_law_brought_2 turn) new s1) ∧
  True
def m_law_brought (world : W) (player : Int) (rooms : (List Int)) : (List (Option Int)) :=
  lt ((len world.a) : Int) fun many =>
  lt ((List.map (fun (room : Int) => (if (decide (room ∈ rooms)) = true then (some (0 : Int)) else (none : (Option Int)))) (rng many)) : (List (Option Int))) fun ranks =>
  lt (List.foldl (t_law_brought_1 world player many) ranks (rng2 (1 : Int) (many + (1 : Int))) : (List (Option Int))) fun f2 =>
  f2
def s_law_brought (world : W) (player : Int) (rooms : (List Int)) : Prop :=
  lt ((len world.a) : Int) fun many =>
  (RgOk many) ∧
  lt ((List.map (fun (room : Int) => (if (decide (room ∈ rooms)) = true then (some (0 : Int)) else (none : (Option Int)))) (rng many)) : (List (Option Int))) fun ranks =>
  (Rg2Ok (1 : Int) (many + (1 : Int))) ∧
  (foldS (u_law_brought_1 world player many) (t_law_brought_1 world player many) (rng2 (1 : Int) (many + (1 : Int))) ranks) ∧
  True

end
end Law
/-! Plain facts: lists by places, worlds, what the laws draw. -/
namespace Law
open PySem PySem.Spec PyProof.Rows L2 MP
open MP.Enc (enc)
/-! ### lists by places -/
theorem sz_of {α : Type} {l : List α} {n : Nat} (h : l.length = n) (hn : n ≤ 100000) : Sz l := by unfold Sz; omega
theorem sz_le {α : Type} {l : List α} (h : l.length ≤ 100000) : Sz l := by unfold Sz; omega
theorem sz1_le {α : Type} {l : List α} (h : l.length ≤ 100000) : Sz1 l := by unfold Sz1; omega
theorem inR {n : Nat} {i : Int} (h0 : 0 ≤ i) (h : i < n) : InR n i := ⟨by omega, h⟩
theorem mem_rng {n x : Int} : x ∈ rng n ↔ 0 ≤ x ∧ x < n := by
  unfold rng rangeI
  simp only [List.mem_map, List.mem_range]
  constructor
  · rintro ⟨k, h, rfl⟩; omega
  · intro h; exact ⟨x.toNat, by omega, by omega⟩
theorem mem_rng2 {a b x : Int} : x ∈ rng2 a b ↔ a ≤ x ∧ x < b := by
  unfold rng2 rangeI
  simp only [List.mem_map, List.mem_range]
  constructor
  · rintro ⟨k, h, rfl⟩; omega
  · intro h; exact ⟨(x - a).toNat, by omega, by omega⟩
theorem rgOk {n : Int} (h0 : 0 ≤ n) (h : n ≤ 100000) : RgOk n := ⟨by omega, by omega⟩
theorem rg2Ok {i j : Int} (h0 : 0 ≤ i) (h1 : 0 ≤ j) (h2 : i ≤ 100000) (h : j ≤ 100000) : Rg2Ok i j := ⟨by omega, by omega, by omega, by omega, by omega⟩
section
variable {α β : Type} [Inhabited α] [Inhabited β]
theorem ix_at {l : List α} {i : Int} (h0 : 0 ≤ i) (h : i < l.length) : ix l i = l[i.toNat]'(by omega) := by
  unfold ix
  rw [atI_pos h0 h, List.getElem?_eq_getElem (by omega)]
  rfl
theorem ix_nat {l : List α} {i : Nat} (h : i < l.length) : ix l (i : Int) = l[i] := by
  rw [ix_at (by omega) (by omega)]
  rfl
theorem ix_in {l : List α} {i : Int} (h0 : 0 ≤ i) (h : i < l.length) : ix l i ∈ l := ix_mem (inR h0 h)
theorem mem_ix {l : List α} {x : α} (h : x ∈ l) : ∃ i : Int, 0 ≤ i ∧ i < l.length ∧ ix l i = x := by
  obtain ⟨i, hi, rfl⟩ := List.mem_iff_getElem.mp h
  exact ⟨i, by omega, by omega, ix_nat hi⟩
theorem ext_ix {l m : List α} (hl : l.length = m.length) (h : ∀ i : Int, 0 ≤ i → i < l.length → ix l i = ix m i) : l = m := by
  refine List.ext_getElem hl fun i h1 h2 => ?_
  have := h i (by omega) (by omega)
  rwa [ix_nat h1, ix_nat h2] at this
theorem ix_map {f : α → β} {l : List α} {i : Int} (h0 : 0 ≤ i) (h : i < l.length) : ix (l.map f) i = f (ix l i) := by
  rw [ix_at h0 (by simpa using h), ix_at h0 h, List.getElem_map]
theorem ix_rng {n i : Int} (h0 : 0 ≤ i) (h : i < n) : ix (rng n) i = i := by
  rw [ix_at h0 (by rw [rng_length]; omega)]
  unfold rng rangeI
  simp
  omega
theorem ix_maprng {f : Int → α} {n i : Int} (h0 : 0 ≤ i) (h : i < n) : ix ((rng n).map f) i = f i := by
  rw [ix_map h0 (by rw [rng_length]; omega), ix_rng h0 h]
theorem len_setI {l : List α} {i : Int} {x : α} : (setI l i x).length = l.length := by
  unfold setI
  split <;> simp
theorem ix_setI {l : List α} {i j : Int} {x : α} (h0 : 0 ≤ i) (h : i < l.length) (g0 : 0 ≤ j) (g : j < l.length) : ix (setI l i x) j = if j = i then x else ix l j := by
  rw [ix_at g0 (by rw [len_setI]; exact g), ix_at g0 g]
  have e : setI l i x = l.set i.toNat x := by
    unfold setI ixN
    rw [if_pos h0, if_pos h]
  simp only [e, List.getElem_set]
  by_cases q : j = i
  · subst q; simp
  · have : ¬ i.toNat = j.toNat := by omega
    rw [if_neg this, if_neg q]
theorem ix_app1 {l m : List α} {i : Int} (h0 : 0 ≤ i) (h : i < l.length) : ix (l ++ m) i = ix l i := by
  rw [ix_at h0 (by rw [List.length_append]; omega), ix_at h0 h, List.getElem_append_left]
theorem ix_app2 {l : List α} {x : α} : ix (l ++ [x]) (l.length : Int) = x := by
  rw [ix_nat (by simp)]
  simp
theorem ix_app3 {l m : List α} {i : Int} (h0 : (l.length : Int) ≤ i) (h : i < l.length + m.length) : ix (l ++ m) i = ix m (i - l.length) := by
  rw [ix_at (by omega) (by rw [List.length_append]; omega), ix_at (by omega) (by omega), List.getElem_append_right (by omega)]
  congr 1
  omega
end
theorem rng_nat (n : Nat) : rng (n : Int) = (List.range n).map fun k : Nat => (k : Int) := by
  unfold rng rangeI
  simp
theorem rng_succ (n : Nat) : rng ((n + 1 : Nat) : Int) = rng (n : Int) ++ [(n : Int)] := by
  rw [rng_nat, rng_nat, List.range_succ, List.map_append]
  rfl
theorem rng_pair (n : Int) : (rng n).Pairwise (· < ·) := by
  unfold rng rangeI
  rw [List.pairwise_map]
  exact List.Pairwise.imp (fun h => by omega) List.pairwise_lt_range
/-! ### loops over numbers -/
theorem foldl_rng {σ : Type} (I : Nat → σ → Prop) {f : σ → Int → σ} : ∀ {n : Nat} {s : σ}, I 0 s → (∀ i : Nat, i < n → ∀ s, I i s → I (i + 1) (f s i)) → I n ((rng (n : Int)).foldl f s)
  | 0, _, h0, _ => by simpa [rng, rangeI] using h0
  | n + 1, s, h0, h => by
    rw [rng_succ, List.foldl_append]
    exact h n (by omega) _ (foldl_rng I h0 fun i hi => h i (by omega))
theorem foldS_app {α σ : Type} {safe : σ → α → Prop} {f : σ → α → σ} : ∀ {l m : List α} {s : σ}, foldS safe f l s → foldS safe f m (l.foldl f s) → foldS safe f (l ++ m) s
  | [], _, _, _, h => h
  | x :: l, m, s, h1, h2 => ⟨h1.1, foldS_app h1.2 h2⟩
theorem foldS_rng {σ : Type} (I : Nat → σ → Prop) {safe : σ → Int → Prop} {f : σ → Int → σ} : ∀ {n : Nat} {s : σ}, I 0 s → (∀ i : Nat, i < n → ∀ s, I i s → safe s i ∧ I (i + 1) (f s i)) → foldS safe f (rng (n : Int)) s
  | 0, _, h0, _ => by simp [rng, rangeI, foldS]
  | n + 1, s, h0, h => by
    rw [rng_succ]
    have h1 := foldl_rng I (f := f) (n := n) h0 fun i hi s hs => (h i (by omega) s hs).2
    exact foldS_app (foldS_rng I h0 fun i hi => h i (by omega)) ⟨(h n (by omega) _ h1).1, trivial⟩
theorem foldO_all {α ρ : Type} {f : Unit → α → Out ρ Unit} {v : ρ} (p : α → Bool) : ∀ {l : List α}, (∀ x ∈ l, f () x = if p x = true then .nx () else .rt v) → foldO f l () = if l.all p = true then .nx () else .rt v
  | [], _ => rfl
  | x :: l, h => by
    unfold foldO
    rw [h x List.mem_cons_self, List.all_cons]
    cases q : p x with
    | false => rfl
    | true => simpa using foldO_all p fun y hy => h y (List.mem_cons_of_mem _ hy)
theorem foldOS_unit {α ρ : Type} {safe : Unit → α → Prop} {f : Unit → α → Out ρ Unit} : ∀ {l : List α}, (∀ x ∈ l, safe () x) → foldOS safe f l ()
  | [], _ => trivial
  | x :: l, h => by
    refine ⟨h x List.mem_cons_self, ?_⟩
    cases f () x with
    | rt y => trivial
    | nx s => exact foldOS_unit fun y hy => h y (List.mem_cons_of_mem _ hy)
/-! ### rising -/
theorem ris_key {α : Type} [Inhabited α] {r : α → α → Bool} (tr : ∀ a b c, r a b = true → r b c = true → r a c = true) (l : List α) :
    ((rng2 1 (len l)).all fun k => r (ix l (k - 1)) (ix l k)) = true ↔ l.Pairwise fun a b => r a b = true := by
  rw [List.all_eq_true, List.pairwise_iff_getElem]
  constructor
  · intro h
    have step : ∀ k : Nat, (hk : k + 1 < l.length) → r l[k] l[k + 1] = true := fun k hk => by
      have := h ((k : Int) + 1) (mem_rng2.mpr ⟨by omega, by unfold MP.len; omega⟩)
      rw [show (k : Int) + 1 - 1 = (k : Nat) by omega, ix_nat (by omega), show (k : Int) + 1 = ((k + 1 : Nat) : Int) by omega, ix_nat hk] at this
      exact this
    intro i j hi hj hij
    induction j with
    | zero => omega
    | succ j ih =>
      by_cases q : i = j
      · subst q; exact step i hj
      · exact tr _ _ _ (ih (by omega) (by omega)) (step j hj)
  · intro h k hk
    have hk := mem_rng2.mp hk
    unfold MP.len at hk
    rw [ix_at (by omega) (by omega), ix_at (by omega) (by omega)]
    exact h _ _ _ _ (by omega)
theorem rises_I (l : List Int) : m_rises_I l = true ↔ l.Pairwise (· < ·) := by
  unfold m_rises_I
  rw [foldO_all (v := false) (fun k => decide (ix l (k - 1) < ix l k)) fun k _ => by
    unfold t_rises_I_1
    by_cases q : ix l k ≤ ix l (k - 1)
    · simp [q, show ¬ ix l (k - 1) < ix l k by omega]
    · simp [q, show ix l (k - 1) < ix l k by omega]]
  have key := ris_key (r := fun a b : Int => decide (a < b)) (fun a b c h1 h2 => by simp at h1 h2 ⊢; omega) l
  simp only [decide_eq_true_eq] at key
  rw [← key]
  by_cases q : ((rng2 1 (len l)).all fun k => decide (ix l (k - 1) < ix l k)) = true
  · simp [q, Out.then]
  · simp [q, Out.then]
theorem s_rises_I_ok {l : List Int} (h : l.length ≤ 10000) : s_rises_I l := by
  unfold s_rises_I
  have hl : len l = l.length := rfl
  refine ⟨rg2Ok (by decide) (by omega) (by decide) (by omega), foldOS_unit fun k hk => ?_, trivial⟩
  have hk := mem_rng2.mp hk
  exact ⟨inR (by omega) (by omega), inR (by omega) (by omega), trivial⟩
theorem s_rises_X_ok {l : List Tx} (h : l.length ≤ 10000) : s_rises_X l := by
  unfold s_rises_X
  have hl : len l = l.length := rfl
  refine ⟨rg2Ok (by decide) (by omega) (by decide) (by omega), foldOS_unit fun k hk => ?_, trivial⟩
  have hk := mem_rng2.mp hk
  exact ⟨inR (by omega) (by omega), inR (by omega) (by omega), trivial⟩
theorem are_rooms (l : List Int) (n : Int) : m_are_rooms l n = true ↔ (∀ x ∈ l, 0 ≤ x ∧ x < n) ∧ l.Pairwise (· < ·) := by
  unfold m_are_rooms
  rw [Bool.and_eq_true, rises_I, List.all_eq_true]
  simp
theorem s_are_rooms_ok {l : List Int} {n : Int} (h : l.length ≤ 10000) : s_are_rooms l n := ⟨sz_le (by omega), fun _ => s_rises_I_ok h, trivial⟩
theorem s_are_marks_ok {l : List Tx} (h : l.length ≤ 10000) (h2 : ∀ x ∈ l, x.cs.length ≤ 10000) : s_are_marks l := ⟨sz_le (by omega), fun x hx => sz_le (by have := h2 x hx; omega), fun _ => s_rises_X_ok h, trivial⟩
/-! ### worlds -/
/-- rising rooms are few -/
theorem asc_len {n : Int} {r : List Int} (h1 : ∀ x ∈ r, 0 ≤ x ∧ x < n) (h2 : r.Pairwise (· < ·)) (hn : 0 ≤ n) : (r.length : Int) ≤ n := by
  have key : ∀ (r : List Int) (a : Int), a ≤ n → r.Pairwise (· < ·) → (∀ x ∈ r, a ≤ x ∧ x < n) → (r.length : Int) ≤ n - a := by
    intro r
    induction r with
    | nil => intro a ha _ _; simp; omega
    | cons y r ih =>
      intro a ha hp hr
      rw [List.pairwise_cons] at hp
      have h1 := hr y List.mem_cons_self
      have := ih (y + 1) (by omega) hp.2 (fun x hx => ⟨by have := hp.1 x hx; omega, (hr x (List.mem_cons_of_mem _ hx)).2⟩)
      rw [List.length_cons]; omega
  have := key r 0 hn h2 h1
  omega
def MarkRow (r : List Tx) : Prop := m_are_marks r = true ∧ r.length ≤ 10000 ∧ ∀ x ∈ r, x.cs.length ≤ 10000
structure Wok (w : W) (n : Nat) : Prop where
  la : w.a.length = n
  lb : w.b.length = n
  lc : w.c.length = n
  n1 : 1 ≤ n
  n24 : n ≤ 24
  ow : ∀ x ∈ w.a, x = 0 ∨ x = 1
  mks : ∀ r ∈ w.b, MarkRow r
  ne : ∀ r ∈ w.c, r ≠ []
  st : ∀ r ∈ w.c, ∀ x ∈ r, 0 ≤ x ∧ x < n
  asc : ∀ r ∈ w.c, r.Pairwise (· < ·)
section
variable {w : W} {n : Nat} (h : Wok w n)
include h
theorem Wok.len : MP.len w.a = n := by show (w.a.length : Int) = n; rw [h.la]
theorem Wok.own {r : Int} (h0 : 0 ≤ r) (h1 : r < n) : ix w.a r = 0 ∨ ix w.a r = 1 := h.ow _ (ix_in h0 (by rw [h.la]; exact h1))
theorem Wok.row {r : Int} (h0 : 0 ≤ r) (h1 : r < n) : ix w.c r ∈ w.c := ix_in h0 (by rw [h.lc]; exact h1)
theorem Wok.step {r s : Int} (h0 : 0 ≤ r) (h1 : r < n) (hs : s ∈ ix w.c r) : 0 ≤ s ∧ s < n := h.st _ (h.row h0 h1) s hs
theorem Wok.rlen {r : Int} (h0 : 0 ≤ r) (h1 : r < n) : (ix w.c r).length ≤ 24 := by
  have := asc_len (h.st _ (h.row h0 h1)) (h.asc _ (h.row h0 h1)) (by omega)
  have := h.n24
  omega
theorem Wok.ia {r : Int} (h0 : 0 ≤ r) (h1 : r < n) : InR w.a.length r := inR h0 (by rw [h.la]; exact h1)
theorem Wok.ib {r : Int} (h0 : 0 ≤ r) (h1 : r < n) : InR w.b.length r := inR h0 (by rw [h.lb]; exact h1)
theorem Wok.ic {r : Int} (h0 : 0 ≤ r) (h1 : r < n) : InR w.c.length r := inR h0 (by rw [h.lc]; exact h1)
theorem Wok.szc {r : Int} (h0 : 0 ≤ r) (h1 : r < n) : Sz (ix w.c r) := sz_le (by have := h.rlen h0 h1; omega)
theorem Wok.rg : RgOk (MP.len w.a) := by
  have := h.len
  have := h.n24
  exact rgOk (by omega) (by omega)
theorem is_world_ok : s_is_world w.a w.b w.c ∧ m_is_world w.a w.b w.c = true := by
  have hl := h.len
  have n1 := h.n1
  have n24 := h.n24
  have hb : MP.len w.b = n := by show (w.b.length : Int) = n; rw [h.lb]
  have hc : MP.len w.c = n := by show (w.c.length : Int) = n; rw [h.lc]
  have hr : ∀ r : Int, r ∈ rng (n : Int) → 0 ≤ r ∧ r < n := fun r hr => mem_rng.mp hr
  have hrow : ∀ r : Int, 0 ≤ r → r < n → m_are_rooms (ix w.c r) n = true := fun r h0 h1 => (are_rooms _ _).mpr ⟨h.st _ (h.row h0 h1), h.asc _ (h.row h0 h1)⟩
  have hmk : ∀ r : Int, 0 ≤ r → r < n → MarkRow (ix w.b r) := fun r h0 h1 => h.mks _ (ix_in h0 (by rw [h.lb]; exact h1))
  constructor
  · unfold s_is_world
    rw [lt_eq, hl]
    intro _
    refine ⟨rgOk (by omega) (by omega), foldOS_unit fun r hx => ?_, trivial⟩
    obtain ⟨h0, h1⟩ := hr r hx
    have hm := hmk r h0 h1
    have hz := h.rlen h0 h1
    exact ⟨h.ia h0 h1, fun _ => h.ib h0 h1, fun _ => s_are_marks_ok hm.2.1 hm.2.2, fun _ => ⟨h.ic h0 h1, fun _ => h.ic h0 h1, fun _ => s_are_rooms_ok (by omega), trivial⟩⟩
  · unfold m_is_world
    rw [lt_eq, hl, hb, hc]
    rw [if_neg (by simp; omega)]
    rw [foldO_all (v := false) (fun _ => true) fun r hx => by
      obtain ⟨h0, h1⟩ := hr r hx
      have hm := (hmk r h0 h1).1
      have ho : ix w.a r ∈ ([0, 1] : List Int) := by
        rcases h.own h0 h1 with e | e <;> simp [e]
      have hne : ¬ (MP.len (ix w.c r) = 0) := fun e => by
        have := h.ne _ (h.row h0 h1)
        unfold MP.len at e
        exact this (List.length_eq_zero_iff.mp (by omega))
      unfold t_is_world_1
      rw [if_neg (by simp only [hm, ho]; simp), if_neg (by simp only [hrow r h0 h1, hne]; simp), if_pos rfl]]
    simp [Out.then]
theorem ask_world_ok : s_ask_world w ∧ m_ask_world w = .ok () := by
  obtain ⟨h1, h2⟩ := is_world_ok h
  refine ⟨⟨h1, trivial⟩, ?_⟩
  unfold m_ask_world
  rw [h2]; rfl
end
end Law

/-! What the laws draw. -/
namespace Law
open PySem PySem.Spec PyProof.Rows L2 MP
open MP.Enc (enc)
theorem s_cell {sc : Sc} {k : Int} (h : 0 ≤ k) : s_law_cell_at sc k := by
  unfold s_law_cell_at
  intro hk
  have hk : k < (sc.ns.length : Int) := of_decide_eq_true hk
  exact ⟨inR h hk, trivial⟩
theorem draw_rng (c k : Int) {b : Int} (h : 0 < b) : 0 ≤ m_law_draw c k b ∧ m_law_draw c k b < b := by
  unfold m_law_draw
  split
  · exact ⟨Int.fmod_nonneg_of_pos _ h, Int.fmod_lt_of_pos _ h⟩
  · exact ⟨Int.fmod_nonneg_of_pos _ h, Int.fmod_lt_of_pos _ h⟩
theorem s_draw {c k b : Int} (hk : 0 ≤ k ∧ k < 100000) (hb : 0 < b ∧ b < 1073741824) : s_law_draw c k b := by
  unfold s_law_draw
  refine ⟨fun _ => ⟨rgOk hk.1 (by omega), ?_⟩, fun _ => ?_⟩
  · have hd : ∀ x : Int, DivOk x b := fun x => ⟨by omega, by omega⟩
    have key : ∀ (l : List Int) (s : Int), foldS (u_law_draw_1 b) (t_law_draw_1 b) l s := fun l => by
      induction l with
      | nil => intro s; trivial
      | cons x r ih => intro s; exact ⟨⟨hd _, trivial⟩, ih _⟩
    exact ⟨key _ _, by show b ≠ 0; omega, trivial⟩
  · have r := Int.fmod_nonneg_of_pos (((c.fmod 1000000007 + 1009 * k) + 17) * 69621) (show (0 : Int) < 2147483647 by decide)
    have r2 := Int.fmod_lt_of_pos (((c.fmod 1000000007 + 1009 * k) + 17) * 69621) (show (0 : Int) < 2147483647 by decide)
    refine ⟨.inl ⟨by omega, by omega⟩, ?_⟩
    exact ⟨by omega, trivial⟩
theorem s_draw2 {c k : Int} (hk : 0 ≤ k ∧ k < 100000) : s_law_draw c k 2 := s_draw hk (by decide)
theorem abc_chars : chars (tx "abc") = [tx "a", tx "b", tx "c"] := by decide +kernel
theorem markRow_f (p : Tx → Bool) : MarkRow ((chars (tx "abc")).filter p) := by
  rw [abc_chars]
  have key : ∀ a b c : Bool, MarkRow ((([tx "a", tx "b", tx "c"].zip [a, b, c]).filter (·.2)).map (·.1)) := by
    intro a b c
    have : ∀ l : List Tx, (decide (m_are_marks l = true) && (decide (l.length ≤ 10000) && l.all fun x => decide (x.cs.length ≤ 10000))) = true → MarkRow l := fun l h => by
      simp only [Bool.and_eq_true, decide_eq_true_eq, List.all_eq_true] at h
      exact h
    cases a <;> cases b <;> cases c <;> exact this _ (by decide +kernel)
  have := key (p (tx "a")) (p (tx "b")) (p (tx "c"))
  simp only [List.filter_cons, List.filter_nil]
  cases h1 : p (tx "a") <;> cases h2 : p (tx "b") <;> cases h3 : p (tx "c") <;> simpa [h1, h2, h3] using this
theorem abc_idx : ∀ m ∈ chars (tx "abc"), Tx.idxOk (tx "abc") m ∧ 0 ≤ Tx.idx (tx "abc") m ∧ Tx.idx (tx "abc") m < 3 := by
  rw [abc_chars]
  have key : ∀ m : Tx, m ∈ [tx "a", tx "b", tx "c"] → Tx.occ (tx "abc") m ≠ [] ∧ 0 ≤ Tx.idx (tx "abc") m ∧ Tx.idx (tx "abc") m < 3 := by decide +kernel
  exact key
/-- a drawn row of steps -/
structure Row (n : Int) (r : List Int) : Prop where
  ne : r ≠ []
  st : ∀ x ∈ r, 0 ≤ x ∧ x < n
  asc : r.Pairwise (· < ·)
theorem row_j {n : Int} (hn : 1 ≤ n) {p : Int → Bool} {d : Int} (hd : 0 ≤ d ∧ d < n) : Row n (if decide ((rng n).filter p = []) = true then [d] else (rng n).filter p) := by
  by_cases q : (rng n).filter p = []
  · rw [if_pos (by simpa using q)]
    exact ⟨by simp, by simpa using hd, by simp⟩
  · rw [if_neg (by simpa using q)]
    exact ⟨q, fun x hx => mem_rng.mp (List.mem_filter.mp hx).1, (rng_pair n).sublist List.filter_sublist⟩
/-- worlds that are drawn -/
structure WI (n : Int) (k : Nat) (s : List Int × List (List Tx) × List (List Int)) : Prop where
  la : s.1.length = k
  lb : s.2.1.length = k
  lc : s.2.2.length = k
  ow : ∀ x ∈ s.1, x = 0 ∨ x = 1
  mks : ∀ r ∈ s.2.1, ∃ p : Tx → Bool, r = (chars (tx "abc")).filter p
  row : ∀ r ∈ s.2.2, Row n r
theorem world_v2_ok (sc : Sc) {at_ most : Int} (h0 : 0 ≤ at_ ∧ at_ ≤ 1000) (hm : 1 ≤ most ∧ most ≤ 24) :
    s_law_world_v2 sc at_ most ∧ ∃ n : Nat, (n : Int) ≤ most ∧ Wok (m_law_world_v2 sc at_ most) n ∧ ∀ r ∈ (m_law_world_v2 sc at_ most).b, ∃ p : Tx → Bool, r = (chars (tx "abc")).filter p := by
  have hf := Int.fmod_nonneg_of_pos (m_law_cell_at sc at_) (show (0 : Int) < most by omega)
  have hf2 := Int.fmod_lt_of_pos (m_law_cell_at sc at_) (show (0 : Int) < most by omega)
  obtain ⟨many, hmany⟩ : ∃ many : Nat, (1 + (m_law_cell_at sc at_).fmod most) = (many : Int) := ⟨(1 + (m_law_cell_at sc at_).fmod most).toNat, by omega⟩
  have m1 : 1 ≤ many := by omega
  have m24 : many ≤ 24 := by omega
  have turn : ∀ i : Nat, i < many → ∀ s, WI many i s → u_law_world_v2_1 sc at_ many s i ∧ WI many (i + 1) (t_law_world_v2_1 sc at_ many s i) := fun i hi s hs => by
    have hb : (2 + boolI (decide (3 < (many : Int)))) = 2 ∨ (2 + boolI (decide (3 < (many : Int)))) = 3 := by
      unfold boolI; split <;> simp
    have hd := draw_rng (m_law_cell_at sc (at_ + 1 + i)) (4 + many) (b := many) (by omega)
    constructor
    · unfold u_law_world_v2_1
      simp only [lt_eq]
      refine ⟨s_cell (by omega), s_draw2 (by omega), by unfold Sz1; rw [hs.la]; omega, by rw [abc_chars]; exact sz_le (by decide), fun m hm => (abc_idx m hm).1, fun m hm => s_draw2 ?_, by unfold Sz1; rw [hs.lb]; omega, rgOk (by omega) (by omega), fun t ht => ?_, fun _ => ?_, by unfold Sz1; rw [hs.lc]; omega, trivial⟩
      · have := abc_idx m hm; omega
      · have := mem_rng.mp ht
        exact s_draw (by omega) (by omega)
      · exact ⟨s_draw (by omega) (by omega), trivial⟩
    · unfold t_law_world_v2_1
      simp only [lt_eq]
      have d1 := draw_rng (m_law_cell_at sc (at_ + 1 + i)) 0 (b := 2) (by decide)
      refine ⟨by simp [hs.la], by simp [hs.lb], by simp [hs.lc], fun x hx => ?_, fun r hr => ?_, fun r hr => ?_⟩
      · rcases List.mem_append.mp hx with z | z
        · exact hs.ow x z
        · rw [List.mem_singleton.mp z]; omega
      · rcases List.mem_append.mp hr with z | z
        · exact hs.mks r z
        · rw [List.mem_singleton.mp z]; exact ⟨_, rfl⟩
      · rcases List.mem_append.mp hr with z | z
        · exact hs.row r z
        · rw [List.mem_singleton.mp z]; exact row_j (by omega) hd
  have h00 : WI many 0 (([], [], []) : List Int × List (List Tx) × List (List Int)) := ⟨rfl, rfl, rfl, nofun, nofun, nofun⟩
  have fin := foldl_rng (WI many) h00 fun i hi s hs => (turn i hi s hs).2
  constructor
  · unfold s_law_world_v2
    simp only [lt_eq, hmany]
    exact ⟨s_cell (by omega), by omega, rgOk (by omega) (by omega), foldS_rng (WI many) h00 turn, trivial⟩
  · refine ⟨many, by omega, ?_, ?_⟩
    · unfold m_law_world_v2
      simp only [lt_eq, hmany]
      exact ⟨fin.la, fin.lb, fin.lc, m1, m24, fin.ow, fun r hr => by
        obtain ⟨p, rfl⟩ := fin.mks r hr
        exact markRow_f p, fun r hr => (fin.row r hr).ne, fun r hr => (fin.row r hr).st, fun r hr => (fin.row r hr).asc⟩
    · unfold m_law_world_v2
      simp only [lt_eq, hmany]
      exact fin.mks
end Law

/-! Games: bringing. -/
namespace Law
open PySem PySem.Spec PyProof.Rows L2 MP
open MP.Enc (enc)
/-- a player can make the way go into some rooms by one step -/
def Can (w : W) (p r : Int) (Y : Int → Prop) : Prop := (ix w.a r = p ∧ ∃ s ∈ ix w.c r, Y s) ∨ (ix w.a r ≠ p ∧ ∀ s ∈ ix w.c r, Y s)
theorem Can.mono {w : W} {p r : Int} {Y Z : Int → Prop} (h : Can w p r Y) (yz : ∀ s ∈ ix w.c r, Y s → Z s) : Can w p r Z := by
  rcases h with ⟨h1, s, h2, h3⟩ | ⟨h1, h2⟩
  · exact .inl ⟨h1, s, h2, yz s h2 h3⟩
  · exact .inr ⟨h1, fun s hs => yz s hs (h2 s hs)⟩
theorem Can.congr {w : W} {p r : Int} {Y Z : Int → Prop} (yz : ∀ s ∈ ix w.c r, (Y s ↔ Z s)) : Can w p r Y ↔ Can w p r Z :=
  ⟨fun h => h.mono fun s hs => (yz s hs).mp, fun h => h.mono fun s hs => (yz s hs).mpr⟩
theorem filter_all {α : Type} {l : List α} {p : α → Bool} : (l.filter p).length = l.length ↔ ∀ x ∈ l, p x = true := by
  rw [List.length_filter_eq_length_iff]
theorem filter_pos {α : Type} {l : List α} {p : α → Bool} : 0 < (l.filter p).length ↔ ∃ x ∈ l, p x = true := by
  rw [List.length_pos_iff_exists_mem]
  simp [List.mem_filter]
theorem can_now {w : W} {p r : Int} {known : List Int} : m_can_now w p r known = true ↔ Can w p r (· ∈ known) := by
  unfold m_can_now Can
  rw [lt_eq]
  by_cases h : ix w.a r = p
  · rw [if_pos (by simpa using h)]
    simp only [h, decide_eq_true_eq, true_and, ne_eq, not_true_eq_false, false_and, or_false]
    unfold MP.len
    rw [Int.natCast_pos, filter_pos]
    simp
  · rw [if_neg (by simpa using h)]
    simp only [h, decide_eq_true_eq, false_and, ne_eq, not_false_eq_true, true_and, false_or]
    unfold MP.len
    rw [Int.ofNat_inj, filter_all]
    simp
theorem s_can_now_ok {w : W} {n : Nat} (h : Wok w n) {p r : Int} {known : List Int} (h0 : 0 ≤ r) (h1 : r < n) : s_can_now w p r known := by
  unfold s_can_now
  simp only [lt_eq]
  exact ⟨h.ic h0 h1, h.szc h0 h1, h.ia h0 h1, fun _ => ⟨h.ic h0 h1, trivial⟩⟩
theorem filter_lt {α : Type} {p q : α → Bool} : ∀ {l : List α}, (∀ x ∈ l, q x = true → p x = true) → (∃ x ∈ l, p x = true ∧ q x = false) → (l.filter q).length < (l.filter p).length
  | [], _, h => by obtain ⟨x, h, _⟩ := h; cases h
  | a :: l, h, hx => by
    have le : (l.filter q).length ≤ (l.filter p).length := by
      have h' : ∀ x ∈ l, q x = true → p x = true := fun x hx => h x (List.mem_cons_of_mem _ hx)
      clear h hx
      induction l with
      | nil => simp
      | cons b l ih =>
        have := ih fun x hx => h' x (List.mem_cons_of_mem _ hx)
        have hb := h' b List.mem_cons_self
        rw [List.filter_cons, List.filter_cons]
        cases q1 : q b <;> cases p1 : p b <;> simp [q1, p1] at hb ⊢ <;> omega
    rw [List.filter_cons, List.filter_cons]
    have ha := h a List.mem_cons_self
    obtain ⟨x, hx, hp, hq⟩ := hx
    rcases List.mem_cons.mp hx with e | e
    · subst e
      simp [hp, hq]; omega
    · have := filter_lt (fun x hx => h x (List.mem_cons_of_mem _ hx)) ⟨x, e, hp, hq⟩
      cases q1 : q a <;> cases p1 : p a <;> simp [q1, p1] at ha ⊢ <;> omega
/-! ### some places are set -/
theorem set_fold {α : Type} [Inhabited α] (v : α) : ∀ {new : List Int} {l : List α}, (∀ r ∈ new, 0 ≤ r ∧ r < l.length) →
    (new.foldl (fun l r => setI l r v) l).length = l.length ∧ ∀ j : Int, 0 ≤ j → j < l.length → ix (new.foldl (fun l r => setI l r v) l) j = if j ∈ new then v else ix l j
  | [], l, _ => ⟨rfl, fun j _ _ => by simp⟩
  | r :: new, l, h => by
    have hr := h r List.mem_cons_self
    obtain ⟨h1, h2⟩ := set_fold v (new := new) (l := setI l r v) fun x hx => by rw [len_setI]; exact h x (List.mem_cons_of_mem _ hx)
    rw [len_setI] at h1 h2
    refine ⟨h1, fun j g0 g1 => ?_⟩
    rw [List.foldl_cons, h2 j g0 g1, ix_setI hr.1 hr.2 g0 g1]
    by_cases q : j ∈ new
    · simp [q]
    · by_cases q2 : j = r <;> simp [q, q2]
/-! ### what bringing tells -/
structure Brt (w : W) (n : Nat) (p : Int) (base wi had : Int → Prop) (R : List (Option Int)) : Prop where
  len : R.length = n
  nn : ∀ r k : Int, 0 ≤ r → r < n → ix R r = some k → 0 ≤ k
  zero : ∀ r : Int, 0 ≤ r → r < n → (ix R r = some 0 ↔ base r)
  step : ∀ r k : Int, 0 ≤ r → r < n → ix R r = some k → 0 < k → wi r ∧ Can w p r fun s => had s ∨ ∃ j, j < k ∧ ix R s = some j
  least : ∀ r k : Int, 0 ≤ r → r < n → ix R r = some k → 2 ≤ k → ¬ Can w p r fun s => had s ∨ ∃ j, j < k - 1 ∧ ix R s = some j
  full : ∀ r : Int, 0 ≤ r → r < n → wi r → ix R r = none → ¬ Can w p r fun s => had s ∨ (ix R s).isSome = true
structure BI (w : W) (n : Nat) (p : Int) (base wi had : Int → Prop) (s : Int × List (Option Int) × Bool) : Prop where
  r0 : 0 ≤ s.1
  len : s.2.1.length = n
  nn : ∀ r k : Int, 0 ≤ r → r < n → ix s.2.1 r = some k → 0 ≤ k ∧ k ≤ s.1
  zero : ∀ r : Int, 0 ≤ r → r < n → (ix s.2.1 r = some 0 ↔ base r)
  step : ∀ r k : Int, 0 ≤ r → r < n → ix s.2.1 r = some k → 0 < k → wi r ∧ Can w p r fun t => had t ∨ ∃ j, j < k ∧ ix s.2.1 t = some j
  least : ∀ r k : Int, 0 ≤ r → r < n → ix s.2.1 r = some k → 2 ≤ k → ¬ Can w p r fun t => had t ∨ ∃ j, j < k - 1 ∧ ix s.2.1 t = some j
  clos : 1 ≤ s.1 → ∀ r : Int, 0 ≤ r → r < n → wi r → (Can w p r fun t => had t ∨ ∃ j, j < s.1 ∧ ix s.2.1 t = some j) → (ix s.2.1 r).isSome = true
  full : s.2.2 = false → ∀ r : Int, 0 ≤ r → r < n → wi r → ix s.2.1 r = none → ¬ Can w p r fun t => had t ∨ (ix s.2.1 t).isSome = true
section
variable {w : W} {n : Nat} (h : Wok w n) {p : Int} {rooms within had : List Int}
include h
theorem brought_turn (hw : ∀ r ∈ within, 0 ≤ r ∧ r < (n : Int)) (hwl : within.length ≤ 1000) (hhl : had.length ≤ 1000) {base : Int → Prop} (hbw : ∀ r, base r → r ∈ within)
    {s : Int × List (Option Int) × Bool} (hs : BI w n p base (· ∈ within) (· ∈ had) s) :
    u_brought_1 w p within had s ∧ BI w n p base (· ∈ within) (· ∈ had) (t_brought_1 w p within had s) ∧
    ((t_brought_1 w p within had s).2.2 = true → ((rng (n : Int)).filter fun r => (ix (t_brought_1 w p within had s).2.1 r).isNone).length < ((rng (n : Int)).filter fun r => (ix s.2.1 r).isNone).length) ∧
    ((t_brought_1 w p within had s).2.2 = false → ((rng (n : Int)).filter fun r => (ix (t_brought_1 w p within had s).2.1 r).isNone).length ≤ ((rng (n : Int)).filter fun r => (ix s.2.1 r).isNone).length) := by
  have n24 := h.n24
  have hl : MP.len s.2.1 = n := by show (s.2.1.length : Int) = n; rw [hs.len]
  obtain ⟨known, hk⟩ : ∃ known, known = had ++ (rng (n : Int)).filter (fun r => (ix s.2.1 r).isSome) := ⟨_, rfl⟩
  have mk : ∀ t : Int, 0 ≤ t → t < n → (t ∈ known ↔ t ∈ had ∨ (ix s.2.1 t).isSome = true) := fun t h0 h1 => by
    rw [hk, List.mem_append, List.mem_filter, mem_rng]
    constructor
    · rintro (a | ⟨_, b⟩)
      · exact .inl a
      · exact .inr b
    · rintro (a | b)
      · exact .inl a
      · exact .inr ⟨⟨h0, h1⟩, b⟩
  obtain ⟨new, hnew⟩ : ∃ new, new = within.filter (fun r => (ix s.2.1 r).isNone && m_can_now w p r known) := ⟨_, rfl⟩
  have mn : ∀ r, r ∈ new ↔ r ∈ within ∧ ix s.2.1 r = none ∧ Can w p r (fun t => t ∈ had ∨ (ix s.2.1 t).isSome = true) := fun r => by
    rw [hnew, List.mem_filter, Bool.and_eq_true, Option.isNone_iff_eq_none, can_now]
    constructor
    · rintro ⟨a, b, c⟩
      obtain ⟨h0, h1⟩ := hw r a
      exact ⟨a, b, (Can.congr fun t ht => mk t (h.step h0 h1 ht).1 (h.step h0 h1 ht).2).mp c⟩
    · rintro ⟨a, b, c⟩
      obtain ⟨h0, h1⟩ := hw r a
      exact ⟨a, b, (Can.congr fun t ht => mk t (h.step h0 h1 ht).1 (h.step h0 h1 ht).2).mpr c⟩
  have et : t_brought_1 w p within had s = (s.1 + 1, new.foldl (fun l r => setI l r (some (s.1 + 1))) s.2.1, decide (0 < MP.len new)) := by
    unfold t_brought_1
    simp only [lt_eq, hl, ← hk, ← hnew]
    rfl
  have hnr : ∀ r ∈ new, 0 ≤ r ∧ r < (s.2.1.length : Int) := fun r hr => by
    have := hw r ((mn r).mp hr).1
    rw [hs.len]; exact this
  obtain ⟨sl, sx⟩ := set_fold (some (s.1 + 1)) hnr
  rw [hs.len] at sx
  obtain ⟨R, hR⟩ : ∃ R, R = new.foldl (fun l r => setI l r (some (s.1 + 1))) s.2.1 := ⟨_, rfl⟩
  rw [← hR] at et sl sx
  -- what a rank is behind the turn
  have old : ∀ r k : Int, 0 ≤ r → r < n → ix s.2.1 r = some k → ix R r = some k := fun r k h0 h1 e => by
    rw [sx r h0 h1, if_neg fun hm => by rw [((mn r).mp hm).2.1] at e; cases e]; exact e
  have inv : ∀ r k : Int, 0 ≤ r → r < n → ix R r = some k → ix s.2.1 r = some k ∨ (r ∈ new ∧ k = s.1 + 1 ∧ ix s.2.1 r = none) := fun r k h0 h1 e => by
    rw [sx r h0 h1] at e
    by_cases q : r ∈ new
    · rw [if_pos q] at e
      exact .inr ⟨q, by cases e; rfl, ((mn r).mp q).2.1⟩
    · rw [if_neg q] at e; exact .inl e
  have low : ∀ r j b : Int, 0 ≤ r → r < n → b ≤ s.1 + 1 → j < b → (ix R r = some j ↔ ix s.2.1 r = some j) := fun r j b h0 h1 hb hj => by
    constructor
    · intro e
      rcases inv r j h0 h1 e with e | ⟨_, e, _⟩
      · exact e
      · omega
    · exact old r j h0 h1
  have lowC : ∀ r b : Int, 0 ≤ r → r < n → b ≤ s.1 + 1 → (Can w p r (fun t => t ∈ had ∨ ∃ j, j < b ∧ ix R t = some j) ↔ Can w p r (fun t => t ∈ had ∨ ∃ j, j < b ∧ ix s.2.1 t = some j)) := fun r b h0 h1 hb => by
    refine Can.congr fun t ht => ?_
    obtain ⟨t0, t1⟩ := h.step h0 h1 ht
    constructor
    · rintro (a | ⟨j, hj, e⟩)
      · exact .inl a
      · exact .inr ⟨j, hj, (low t j b t0 t1 hb hj).mp e⟩
    · rintro (a | ⟨j, hj, e⟩)
      · exact .inl a
      · exact .inr ⟨j, hj, (low t j b t0 t1 hb hj).mpr e⟩
  have somej : ∀ t : Int, 0 ≤ t → t < n → ((ix s.2.1 t).isSome = true ↔ ∃ j, j < s.1 + 1 ∧ ix s.2.1 t = some j) := fun t t0 t1 => by
    constructor
    · intro e
      obtain ⟨j, hj⟩ := Option.isSome_iff_exists.mp e
      have := hs.nn t j t0 t1 hj
      exact ⟨j, by omega, hj⟩
    · rintro ⟨j, _, e⟩; rw [e]; rfl
  have someC : ∀ r : Int, 0 ≤ r → r < n → (Can w p r (fun t => t ∈ had ∨ (ix s.2.1 t).isSome = true) ↔ Can w p r (fun t => t ∈ had ∨ ∃ j, j < s.1 + 1 ∧ ix s.2.1 t = some j)) := fun r h0 h1 => by
    refine Can.congr fun t ht => ?_
    obtain ⟨t0, t1⟩ := h.step h0 h1 ht
    rw [somej t t0 t1]
  have sub : ∀ r ∈ rng (n : Int), (ix R r).isNone = true → (ix s.2.1 r).isNone = true := fun r hr e => by
    obtain ⟨h0, h1⟩ := mem_rng.mp hr
    cases q : ix s.2.1 r with
    | none => rfl
    | some k => rw [old r k h0 h1 q] at e; cases e
  have r0 := hs.r0
  refine ⟨?_, ?_, ?_, ?_⟩
  · unfold u_brought_1
    simp only [lt_eq, hl, ← hk, ← hnew]
    refine ⟨rgOk (by omega) (by omega), fun r hr => ?_, ?_, sz_le (by omega), fun r hr => ?_, fun r hr _ => ?_, ?_, trivial⟩
    · have := mem_rng.mp hr
      exact inR this.1 (by rw [hs.len]; exact this.2)
    · refine sz_le ?_
      rw [hk, List.length_append]
      have := List.length_filter_le (fun r => (ix s.2.1 r).isSome) (rng (n : Int))
      rw [rng_length] at this
      omega
    · have := hw r hr
      exact inR this.1 (by rw [hs.len]; exact this.2)
    · have := hw r hr
      exact s_can_now_ok h this.1 this.2
    · have key : ∀ (l : List Int) (R : List (Option Int)), R.length = n → (∀ r ∈ l, 0 ≤ r ∧ r < (n : Int)) → foldS (u_brought_2 (s.1 + 1)) (t_brought_2 (s.1 + 1)) l R := fun l => by
        induction l with
        | nil => intro R _ _; trivial
        | cons x r ih =>
          intro R hR hx
          have hx0 := hx x List.mem_cons_self
          exact ⟨⟨inR hx0.1 (by rw [hR]; exact hx0.2), trivial⟩, ih _ (by unfold t_brought_2; rw [lt_eq, len_setI]; exact hR) fun y hy => hx y (List.mem_cons_of_mem _ hy)⟩
      exact key new s.2.1 hs.len fun r hr => hw r ((mn r).mp hr).1
  · rw [et]
    refine ⟨by dsimp only; omega, by dsimp only; rw [sl, hs.len], fun r k h0 h1 e => ?_, fun r h0 h1 => ?_, fun r k h0 h1 e hk0 => ?_, fun r k h0 h1 e hk2 => ?_, fun _ r h0 h1 hwr hc => ?_, fun hm r h0 h1 hwr e => ?_⟩
    · dsimp only at e ⊢
      rcases inv r k h0 h1 e with e | ⟨_, e, _⟩
      · have := hs.nn r k h0 h1 e; omega
      · omega
    · dsimp only
      rw [← hs.zero r h0 h1]
      constructor
      · intro e
        rcases inv r 0 h0 h1 e with e | ⟨_, e, _⟩
        · exact e
        · omega
      · exact old r 0 h0 h1
    · dsimp only at e ⊢
      rcases inv r k h0 h1 e with e | ⟨hm, e, _⟩
      · obtain ⟨a, b⟩ := hs.step r k h0 h1 e hk0
        have := hs.nn r k h0 h1 e
        exact ⟨a, (lowC r k h0 h1 (by omega)).mpr b⟩
      · subst e
        obtain ⟨a, _, c⟩ := (mn r).mp hm
        exact ⟨a, (lowC r _ h0 h1 (by omega)).mpr ((someC r h0 h1).mp c)⟩
    · dsimp only at e ⊢
      rcases inv r k h0 h1 e with e | ⟨hm, e, en⟩
      · have := hs.nn r k h0 h1 e
        rw [lowC r (k - 1) h0 h1 (by omega)]
        exact hs.least r k h0 h1 e hk2
      · subst e
        rw [lowC r _ h0 h1 (by omega)]
        intro hc
        have := hs.clos (by omega) r h0 h1 ((mn r).mp hm).1 (by rwa [show s.1 + 1 - 1 = s.1 by omega] at hc)
        rw [en] at this; cases this
    · dsimp only at hc ⊢
      rw [lowC r _ h0 h1 (by omega)] at hc
      cases q : ix s.2.1 r with
      | some k => rw [old r k h0 h1 q]; rfl
      | none =>
        rw [sx r h0 h1, if_pos ((mn r).mpr ⟨hwr, q, (someC r h0 h1).mpr hc⟩)]
        rfl
    · dsimp only at hm e ⊢
      have hne : new = [] := by
        have hm := of_decide_eq_false hm
        unfold MP.len at hm
        exact List.length_eq_zero_iff.mp (by omega)
      have hRs : R = s.2.1 := by rw [hR, hne]; rfl
      rw [hRs] at e ⊢
      intro hc
      have : r ∈ new := (mn r).mpr ⟨hwr, e, hc⟩
      rw [hne] at this; cases this
  · rw [et]
    dsimp only
    intro hm
    refine filter_lt sub ?_
    have hm := of_decide_eq_true hm
    unfold MP.len at hm
    obtain ⟨r, hr⟩ := List.exists_mem_of_length_pos (show 0 < new.length by omega)
    have hrr := hw r ((mn r).mp hr).1
    exact ⟨r, mem_rng.mpr hrr, by rw [((mn r).mp hr).2.1]; rfl, by rw [sx r hrr.1 hrr.2, if_pos hr]; rfl⟩
  · rw [et]
    dsimp only
    intro _
    have : ∀ (l : List Int), (∀ x ∈ l, (ix R x).isNone = true → (ix s.2.1 x).isNone = true) → (l.filter fun r => (ix R r).isNone).length ≤ (l.filter fun r => (ix s.2.1 r).isNone).length := fun l => by
      induction l with
      | nil => intro _; exact Nat.le_refl _
      | cons x l ih =>
        intro hx
        have h1 := ih fun y hy => hx y (List.mem_cons_of_mem _ hy)
        have h2 := hx x List.mem_cons_self
        rw [List.filter_cons, List.filter_cons]
        cases a : (ix R x).isNone <;> cases b : (ix s.2.1 x).isNone <;> simp [a, b] at h2 ⊢ <;> omega
    exact this _ sub
theorem brought_ok (hw : ∀ r ∈ within, 0 ≤ r ∧ r < (n : Int)) (hwl : within.length ≤ 1000) (hhl : had.length ≤ 1000) :
    s_brought w p rooms within had ∧ Brt w n p (fun r => r ∈ rooms ∧ r ∈ within) (· ∈ within) (· ∈ had) (m_brought w p rooms within had) := by
  have hl := h.len
  have n24 := h.n24
  have h0 : BI w n p (fun r => r ∈ rooms ∧ r ∈ within) (· ∈ within) (· ∈ had) (0, (rng (n : Int)).map (fun r => if (decide (r ∈ rooms) && decide (r ∈ within)) = true then some (0 : Int) else none), true) := by
    have e : ∀ r : Int, 0 ≤ r → r < n → ix ((rng (n : Int)).map (fun r => if (decide (r ∈ rooms) && decide (r ∈ within)) = true then some (0 : Int) else none)) r = if r ∈ rooms ∧ r ∈ within then some 0 else none := fun r h0 h1 => by
      rw [ix_maprng h0 h1]; simp
    have e0 : ∀ r k : Int, 0 ≤ r → r < n → ix ((rng (n : Int)).map (fun r => if (decide (r ∈ rooms) && decide (r ∈ within)) = true then some (0 : Int) else none)) r = some k → k = 0 := fun r k h0 h1 q => by
      rw [e r h0 h1] at q
      split at q
      · cases q; rfl
      · cases q
    refine ⟨Int.le_refl _, by simp [rng_length], fun r k h0 h1 q => ?_, fun r h0 h1 => ?_, fun r k h0 h1 q hk => ?_, fun r k h0 h1 q hk => ?_, fun hk => ?_, fun hk => ?_⟩
    · have := e0 r k h0 h1 q; subst this; exact ⟨Int.le_refl _, Int.le_refl _⟩
    · dsimp only
      rw [e r h0 h1]; split <;> simp_all
    · have := e0 r k h0 h1 q; omega
    · have := e0 r k h0 h1 q; omega
    · exact absurd (show (1 : Int) ≤ 0 from hk) (by decide)
    · exact absurd (show true = false from hk) (by decide)
  have μ : ∀ s : Int × List (Option Int) × Bool, BI w n p (fun r => r ∈ rooms ∧ r ∈ within) (· ∈ within) (· ∈ had) s → c_brought_1 w p within had s = true →
      u_brought_1 w p within had s ∧ BI w n p (fun r => r ∈ rooms ∧ r ∈ within) (· ∈ within) (· ∈ had) (t_brought_1 w p within had s) ∧
      (((rng (n : Int)).filter fun r => (ix (t_brought_1 w p within had s).2.1 r).isNone).length + if (t_brought_1 w p within had s).2.2 = true then 1 else 0) < (((rng (n : Int)).filter fun r => (ix s.2.1 r).isNone).length + if s.2.2 = true then 1 else 0) := fun s hs hc => by
    obtain ⟨a, b, c, d⟩ := brought_turn h hw hwl hhl (fun r hr => hr.2) hs
    refine ⟨a, b, ?_⟩
    have hc : s.2.2 = true := hc
    rw [if_pos hc]
    cases q : (t_brought_1 w p within had s).2.2 with
    | true => have := c q; simp; omega
    | false => have := d q; simp; omega
  have bound : ((rng (n : Int)).filter fun r => (ix ((rng (n : Int)).map (fun r => if (decide (r ∈ rooms) && decide (r ∈ within)) = true then some (0 : Int) else none)) r).isNone).length + 1 < wmost := by
    have := List.length_filter_le (fun r => (ix ((rng (n : Int)).map (fun r => if (decide (r ∈ rooms) && decide (r ∈ within)) = true then some (0 : Int) else none)) r).isNone) (rng (n : Int))
    rw [rng_length] at this
    rw [wmost_eq]
    omega
  constructor
  · unfold s_brought
    simp only [lt_eq, hl]
    refine ⟨rgOk (by omega) (by omega), whS_inv _ (fun s : Int × List (Option Int) × Bool => ((rng (n : Int)).filter fun r => (ix s.2.1 r).isNone).length + if s.2.2 = true then 1 else 0) (fun s hs => ⟨trivial, fun hc => μ s hs hc⟩) h0 bound, trivial⟩
  · unfold m_brought
    simp only [lt_eq, hl]
    obtain ⟨fin, hc⟩ := whl_inv _ (fun s : Int × List (Option Int) × Bool => ((rng (n : Int)).filter fun r => (ix s.2.1 r).isNone).length + if s.2.2 = true then 1 else 0) (fun s hs hc => (μ s hs hc).2) h0 (k := wmost) bound
    have hc : _ = false := hc
    exact ⟨fin.len, fun r k h0 h1 e => (fin.nn r k h0 h1 e).1, fin.zero, fin.step, fin.least, fin.full hc⟩
end
end Law

/-! Games: what bring and keep tell. -/
namespace Law
open PySem PySem.Spec PyProof.Rows L2 MP
open MP.Enc (enc)
def Pl (p : Int) : Prop := p = 0 ∨ p = 1
theorem Pl.other {p : Int} (h : Pl p) : Pl (1 - p) := by unfold Pl at *; omega
/-- a rising list of rooms -/
structure RL (n : Nat) (l : List Int) : Prop where
  st : ∀ x ∈ l, 0 ≤ x ∧ x < (n : Int)
  asc : l.Pairwise (· < ·)
theorem RL.len {n : Nat} {l : List Int} (h : RL n l) : l.length ≤ n := by
  have := asc_len h.st h.asc (by omega)
  omega
theorem RL.filter {n : Nat} (p : Int → Bool) : RL n ((rng (n : Int)).filter p) :=
  ⟨fun x hx => mem_rng.mp (List.mem_filter.mp hx).1, (rng_pair _).sublist List.filter_sublist⟩
theorem RL.sub {n : Nat} {l m : List Int} (h : RL n l) (s : m.Sublist l) : RL n m := ⟨fun x hx => h.st x (s.subset hx), h.asc.sublist s⟩
theorem RL.rng (n : Nat) : RL n (MP.rng (n : Int)) := ⟨fun x hx => mem_rng.mp hx, rng_pair _⟩
/-- rising lists with the same members are the same -/
theorem asc_ext {l m : List Int} (h1 : l.Pairwise (· < ·)) (h2 : m.Pairwise (· < ·)) (h : ∀ x, x ∈ l ↔ x ∈ m) : l = m := by
  induction l generalizing m with
  | nil =>
    cases m with
    | nil => rfl
    | cons b m => have := (h b).mpr List.mem_cons_self; cases this
  | cons a l ih =>
    cases m with
    | nil => have := (h a).mp List.mem_cons_self; cases this
    | cons b m =>
      rw [List.pairwise_cons] at h1 h2
      have e : a = b := by
        rcases List.mem_cons.mp ((h a).mp List.mem_cons_self) with z | z
        · exact z
        · rcases List.mem_cons.mp ((h b).mpr List.mem_cons_self) with y | y
          · exact y.symm
          · have := h2.1 a z
            have := h1.1 b y
            omega
      subst e
      congr 1
      refine ih h1.2 h2.2 fun x => ?_
      have hx := h x
      rw [List.mem_cons, List.mem_cons] at hx
      constructor
      · intro hm
        rcases hx.mp (.inr hm) with z | z
        · have := h1.1 x hm; omega
        · exact z
      · intro hm
        rcases hx.mpr (.inr hm) with z | z
        · have := h2.1 x hm; omega
        · exact z
theorem Brt.congr {w : W} {n : Nat} (h : Wok w n) {p : Int} {b wi had b' wi' had' : Int → Prop} {R : List (Option Int)} (B : Brt w n p b wi had R)
    (hb : ∀ r : Int, 0 ≤ r → r < n → (b r ↔ b' r)) (hw : ∀ r : Int, 0 ≤ r → r < n → (wi r ↔ wi' r)) (hh : ∀ r : Int, 0 ≤ r → r < n → (had r ↔ had' r)) : Brt w n p b' wi' had' R := by
  have hC : ∀ {r : Int} {Y : Int → Prop}, 0 ≤ r → r < n → (Can w p r (fun s => had s ∨ Y s) ↔ Can w p r (fun s => had' s ∨ Y s)) := fun h0 h1 => Can.congr fun s hs => by rw [hh s (h.step h0 h1 hs).1 (h.step h0 h1 hs).2]
  exact ⟨B.len, B.nn, fun r h0 h1 => by rw [B.zero r h0 h1, hb r h0 h1], fun r k h0 h1 e hk => by
    obtain ⟨a, c⟩ := B.step r k h0 h1 e hk
    exact ⟨(hw r h0 h1).mp a, (hC h0 h1).mp c⟩, fun r k h0 h1 e hk c => B.least r k h0 h1 e hk ((hC h0 h1).mpr c), fun r h0 h1 hwi e c => B.full r h0 h1 ((hw r h0 h1).mpr hwi) e ((hC h0 h1).mpr c)⟩
/-- the ranked rooms are within each set that is closed -/
theorem Brt.sub {w : W} {n : Nat} (h : Wok w n) {p : Int} {b wi had : Int → Prop} {R : List (Option Int)} (B : Brt w n p b wi had R) (T : Int → Prop) (hb : ∀ r : Int, 0 ≤ r → r < n → b r → T r)
    (hs : ∀ r : Int, 0 ≤ r → r < n → wi r → Can w p r (fun s => had s ∨ T s) → T r) : ∀ r : Int, 0 ≤ r → r < n → (ix R r).isSome = true → T r := by
  have key : ∀ (m : Nat) (r k : Int), 0 ≤ r → r < n → ix R r = some k → k ≤ m → T r := by
    intro m
    induction m with
    | zero =>
      intro r k h0 h1 e hk
      have := B.nn r k h0 h1 e
      have : k = 0 := by omega
      subst this
      exact hb r h0 h1 ((B.zero r h0 h1).mp e)
    | succ m ih =>
      intro r k h0 h1 e hk
      have hn := B.nn r k h0 h1 e
      by_cases q : k = 0
      · subst q
        exact hb r h0 h1 ((B.zero r h0 h1).mp e)
      · obtain ⟨a, c⟩ := B.step r k h0 h1 e (by omega)
        refine hs r h0 h1 a (c.mono fun s hs2 hs3 => ?_)
        rcases hs3 with z | ⟨j, hj, ej⟩
        · exact .inl z
        · exact .inr (ih s j (h.step h0 h1 hs2).1 (h.step h0 h1 hs2).2 ej (by omega))
  intro r h0 h1 e
  obtain ⟨k, hk⟩ := Option.isSome_iff_exists.mp e
  exact key k.toNat r k h0 h1 hk (by omega)
/-- one of the two can -/
theorem can_dual {w : W} {n : Nat} (h : Wok w n) {p : Int} (hp : Pl p) {r : Int} (h0 : 0 ≤ r) (h1 : r < n) {Y : Int → Prop} : ¬ Can w p r Y ↔ Can w (1 - p) r fun s => ¬ Y s := by
  have ho := h.own h0 h1
  unfold Pl at hp
  unfold Can
  by_cases q : ix w.a r = p
  · have q2 : ¬ ix w.a r = 1 - p := by omega
    simp [q, q2, show ¬ p = 1 - p by omega]
  · have q2 : ix w.a r = 1 - p := by omega
    simp [q2, show ¬ 1 - p = p by omega]
theorem can_dual2 {w : W} {n : Nat} (h : Wok w n) {p : Int} (hp : Pl p) {r : Int} (h0 : 0 ≤ r) (h1 : r < n) {Y : Int → Prop} : ¬ Can w (1 - p) r Y ↔ Can w p r fun s => ¬ Y s := by
  have := can_dual h hp.other h0 h1 (Y := Y)
  rwa [show 1 - (1 - p) = p by omega] at this
theorem fold_app {α : Type} {g : Int → α} {t : List α → Int → List α} (ht : ∀ s r, t s r = s ++ [g r]) : ∀ (l : List Int) (a : List α), l.foldl t a = a ++ l.map g
  | [], a => by simp
  | x :: l, a => by
    rw [List.foldl_cons, ht, fold_app ht l, List.map_cons]
    simp
section
variable {w : W} {n : Nat} (h : Wok w n) {p : Int} (hp : Pl p) {rooms : List Int}
include h
theorem ask_rooms_ok (hr : RL n rooms) : s_ask_rooms w rooms ∧ m_ask_rooms w rooms = .ok () := by
  have n24 := h.n24
  have := hr.len
  constructor
  · exact ⟨s_are_rooms_ok (by omega), trivial⟩
  · unfold m_ask_rooms
    rw [h.len, (are_rooms _ _).mpr ⟨hr.st, hr.asc⟩]
    rfl
include hp
theorem ask_player_ok : m_ask_player p = .ok () := by
  unfold m_ask_player
  unfold Pl at hp
  rcases hp with e | e <;> subst e <;> rfl
theorem ask_game_ok (hr : RL n rooms) : s_ask_game w p rooms ∧ m_ask_game w p rooms = .ok () := by
  obtain ⟨a, b⟩ := ask_world_ok h
  obtain ⟨c, d⟩ := ask_rooms_ok h hr
  refine ⟨⟨a, fun _ _ => ⟨trivial, fun _ _ => ⟨c, trivial⟩⟩⟩, ?_⟩
  unfold m_ask_game
  rw [b, ask_player_ok h hp, d]
  rfl
/-- ranks over the whole world -/
abbrev Brg (w : W) (n : Nat) (p : Int) (X : Int → Prop) (R : List (Option Int)) : Prop := Brt w n p X (fun _ => True) (fun _ => False) R
omit hp in
theorem brought_all : s_brought w p rooms (rng (n : Int)) [] ∧ Brg w n p (· ∈ rooms) (m_brought w p rooms (rng (n : Int)) []) := by
  have n24 := h.n24
  obtain ⟨a, b⟩ := brought_ok h (p := p) (rooms := rooms) (within := rng (n : Int)) (had := []) (fun r hr => mem_rng.mp hr) (by rw [rng_length]; omega) (by simp)
  refine ⟨a, b.congr h (fun r h0 h1 => by simp [mem_rng, h0, h1]) (fun r h0 h1 => by simp [mem_rng, h0, h1]) (fun r h0 h1 => by simp)⟩
/-- the plan that goes downwards -/
structure Dwn (w : W) (n : Nat) (p : Int) (R P : List (Option Int)) : Prop where
  len : P.length = n
  go : ∀ r k : Int, 0 ≤ r → r < n → ix w.a r = p → ix R r = some k → 0 < k → ∃ s ∈ ix w.c r, ix P r = some s ∧ ∃ j, j < k ∧ ix R s = some j
  no : ∀ r : Int, 0 ≤ r → r < n → (¬ ix w.a r = p ∨ ix R r = none ∨ ix R r = some 0) → ix P r = none
omit hp in
theorem downwards_ok {X : Int → Prop} {R : List (Option Int)} (B : Brg w n p X R) : s_downwards w p R ∧ Dwn w n p R (m_downwards w p R) := by
  have n24 := h.n24
  have hl := h.len
  have hRl : R.length = n := B.len
  let low (r : Int) : List Int := (ix w.c r).filter fun t => (ix R t).isSome && decide (uw (ix R t) < uw (ix R r))
  let g (r : Int) : Option Int := if (decide (ix w.a r = p) && ((ix R r).isSome && decide (0 < uw (ix R r)))) = true then some (ix (low r) 0) else none
  have ht : ∀ s r, t_downwards_1 w p R s r = s ++ [g r] := fun s r => rfl
  have hlow : ∀ r k : Int, 0 ≤ r → r < n → ix w.a r = p → ix R r = some k → 0 < k → 0 < (low r).length ∧ (ix (low r) 0 ∈ ix w.c r ∧ ∃ j, j < k ∧ ix R (ix (low r) 0) = some j) := fun r k h0 h1 ho e hk => by
    have hc := (B.step r k h0 h1 e hk).2
    have hne : 0 < (low r).length := by
      rcases hc with ⟨_, s, hs, z | ⟨j, hj, ej⟩⟩ | ⟨hn, _⟩
      · exact z.elim
      · exact filter_pos.mpr ⟨s, hs, by simp [ej, e, uw, hj]⟩
      · exact absurd ho hn
    refine ⟨hne, ?_⟩
    have hm := ix_in (l := low r) (i := 0) (by decide) (by omega)
    obtain ⟨m1, m2⟩ := List.mem_filter.mp hm
    rw [Bool.and_eq_true] at m2
    obtain ⟨j, ej⟩ := Option.isSome_iff_exists.mp m2.1
    refine ⟨m1, j, ?_, ej⟩
    have := of_decide_eq_true m2.2
    rwa [ej, e] at this
  constructor
  · unfold s_downwards
    simp only [lt_eq, hl]
    refine ⟨rgOk (by omega) (by omega), foldS_rng (fun i s => s.length = i) rfl fun i hi s hs => ⟨?_, by rw [ht]; simp [hs]⟩, trivial⟩
    have h0 : (0 : Int) ≤ i := by omega
    have h1 : (i : Int) < n := by omega
    have hR : ∀ t : Int, 0 ≤ t → t < n → InR R.length t := fun t t0 t1 => inR t0 (by rw [hRl]; exact t1)
    have hst : ∀ t ∈ ix w.c (i : Int), InR R.length t := fun t ht => hR t (h.step h0 h1 ht).1 (h.step h0 h1 ht).2
    refine ⟨h.ia h0 h1, fun _ => hR _ h0 h1, fun _ _ => hR _ h0 h1, fun _ z => z, fun hc => ?_, by unfold Sz1; omega, trivial⟩
    simp only [Bool.and_eq_true, decide_eq_true_eq] at hc
    obtain ⟨k, hk⟩ := Option.isSome_iff_exists.mp hc.2.1
    have hk0 : 0 < k := by have := hc.2.2; rwa [hk] at this
    refine ⟨h.ic h0 h1, h.szc h0 h1, hst, fun t ht _ => hst t ht, fun _ _ z => z, fun _ _ _ => hR _ h0 h1, fun _ _ _ => hc.2.1, ?_⟩
    exact ⟨inR (by decide) (by have := (hlow i k h0 h1 hc.1 hk hk0).1; show (0 : Int) < ((low i).length : Nat); omega), trivial⟩
  · have e : m_downwards w p R = (rng (n : Int)).map g := by
      unfold m_downwards
      simp only [lt_eq, hl]
      rw [fold_app ht]; simp
    rw [e]
    refine ⟨by simp [rng_length], fun r k h0 h1 ho er hk => ?_, fun r h0 h1 hr => ?_⟩
    · rw [ix_maprng h0 h1]
      obtain ⟨_, a, b⟩ := hlow r k h0 h1 ho er hk
      refine ⟨_, a, ?_, b⟩
      show (if _ then _ else _) = _
      rw [if_pos (by simp [ho, er, uw, hk])]
    · rw [ix_maprng h0 h1]
      show (if _ then _ else _) = _
      rw [if_neg]
      rcases hr with z | z | z
      · simp [z]
      · simp [z]
      · simp [z, uw]
theorem bring_ok (hr : RL n rooms) : s_bring w p rooms ∧ ∃ R P, m_bring w p rooms = .ok ⟨R, P⟩ ∧ Brg w n p (· ∈ rooms) R ∧ Dwn w n p R P := by
  obtain ⟨a, b⟩ := ask_game_ok h hp hr
  obtain ⟨c, d⟩ := brought_all h (p := p) (rooms := rooms)
  obtain ⟨e, f⟩ := downwards_ok h d
  have n24 := h.n24
  constructor
  · refine ⟨a, fun _ _ => ?_⟩
    rw [lt_eq, h.len]
    exact ⟨rgOk (by omega) (by omega), c, e, trivial⟩
  · refine ⟨_, _, ?_, d, f⟩
    unfold m_bring
    rw [b]
    simp only [els, lt_eq, h.len]
theorem bring_is (hr : RL n rooms) : isOk (m_bring w p rooms) := by
  obtain ⟨_, R, P, e, _⟩ := bring_ok h hp hr
  exact ⟨_, e⟩
omit hp in
theorem beyond_ok : s_beyond w rooms ∧ RL n (m_beyond w rooms) ∧ ∀ r : Int, 0 ≤ r → r < n → (r ∈ m_beyond w rooms ↔ r ∉ rooms) := by
  have n24 := h.n24
  refine ⟨⟨by rw [h.len]; exact rgOk (by omega) (by omega), trivial⟩, ?_, fun r h0 h1 => ?_⟩
  · unfold m_beyond
    rw [h.len]; exact RL.filter _
  · unfold m_beyond
    rw [h.len, List.mem_filter, mem_rng]
    simp [h0, h1]
/-- what keep tells -/
structure Kept (w : W) (n : Nat) (p : Int) (X : Int → Prop) (K : List Int) (P R Q : List (Option Int)) : Prop where
  rl : RL n K
  ranks : Brg w n (1 - p) (fun r => ¬ X r) R
  cplan : Dwn w n (1 - p) R Q
  mem : ∀ r : Int, 0 ≤ r → r < n → (r ∈ K ↔ ix R r = none)
  len : P.length = n
  go : ∀ r : Int, 0 ≤ r → r < n → r ∈ K → ix w.a r = p → ∃ s ∈ ix w.c r, ix P r = some s ∧ s ∈ K
  no : ∀ r : Int, 0 ≤ r → r < n → (r ∉ K ∨ ¬ ix w.a r = p) → ix P r = none
omit hp in
theorem kept_can {X : Int → Prop} {R : List (Option Int)} (hp : Pl p) (B : Brg w n (1 - p) (fun r => ¬ X r) R) {r : Int} (h0 : 0 ≤ r) (h1 : r < n) (e : ix R r = none) : Can w p r fun s => ix R s = none := by
  have := B.full r h0 h1 trivial e
  rw [can_dual2 h hp h0 h1] at this
  exact this.mono fun s hs hn => by
    cases q : ix R s with
    | none => rfl
    | some k => exact absurd (.inr (by rw [q]; rfl)) hn
theorem keep_ok (hr : RL n rooms) : s_keep w p rooms ∧ ∃ K P R Q, m_keep w p rooms = .ok ⟨K, P, R, Q⟩ ∧ Kept w n p (· ∈ rooms) K P R Q := by
  obtain ⟨a, b⟩ := ask_game_ok h hp hr
  obtain ⟨b1, b2, b3⟩ := beyond_ok h (rooms := rooms)
  obtain ⟨c, R, Q, ce, cB, cD⟩ := bring_ok h hp.other b2
  have n24 := h.n24
  have hl := h.len
  have cB' : Brg w n (1 - p) (fun r => ¬ r ∈ rooms) R := cB.congr h b3 (fun _ _ _ => Iff.rfl) (fun _ _ _ => Iff.rfl)
  have hRl : MP.len R = n := by show (R.length : Int) = n; rw [cB.len]
  obtain ⟨K, hK⟩ : ∃ K, K = (rng (n : Int)).filter fun r => (ix R r).isNone := ⟨_, rfl⟩
  have mK : ∀ r : Int, 0 ≤ r → r < n → (r ∈ K ↔ ix R r = none) := fun r h0 h1 => by
    rw [hK, List.mem_filter, mem_rng]; simp [h0, h1]
  have kl : RL n K := by rw [hK]; exact RL.filter _
  let low (r : Int) : List Int := (ix w.c r).filter fun t => decide (t ∈ K)
  let g (r : Int) : Option Int := if (decide (r ∈ K) && decide (ix w.a r = p)) = true then some (ix (low r) 0) else none
  have ht : ∀ s r, t_keep_1 w p K s r = s ++ [g r] := fun s r => rfl
  have hlow : ∀ r : Int, 0 ≤ r → r < n → r ∈ K → ix w.a r = p → 0 < (low r).length ∧ ix (low r) 0 ∈ ix w.c r ∧ ix (low r) 0 ∈ K := fun r h0 h1 hk ho => by
    have hc := kept_can h hp cB' h0 h1 ((mK r h0 h1).mp hk)
    have hne : 0 < (low r).length := by
      rcases hc with ⟨_, s, hs, z⟩ | ⟨hn, _⟩
      · exact filter_pos.mpr ⟨s, hs, by simpa using (mK s (h.step h0 h1 hs).1 (h.step h0 h1 hs).2).mpr z⟩
      · exact absurd ho hn
    have hm := ix_in (l := low r) (i := 0) (by decide) (by omega)
    obtain ⟨m1, m2⟩ := List.mem_filter.mp hm
    exact ⟨hne, m1, by simpa using m2⟩
  constructor
  · refine ⟨a, fun _ _ => ⟨b1, c, ⟨_, ce⟩, ?_⟩⟩
    have eo : okv (m_bring w (1 - p) (m_beyond w rooms)) = ⟨R, Q⟩ := by rw [ce]; rfl
    simp only [lt_eq, eo, hRl, hl, ← hK]
    refine ⟨rgOk (by omega) (by omega), fun r hr => ?_, rgOk (by omega) (by omega), foldS_rng (fun i s => s.length = i) rfl fun i hi s hs => ⟨?_, by rw [ht]; simp [hs]⟩, trivial⟩
    · have := mem_rng.mp hr
      exact inR this.1 (by rw [cB.len]; exact this.2)
    · have h0 : (0 : Int) ≤ i := by omega
      have h1 : (i : Int) < n := by omega
      refine ⟨fun _ => h.ia h0 h1, fun hc => ?_, by unfold Sz1; omega, trivial⟩
      simp only [Bool.and_eq_true, decide_eq_true_eq] at hc
      exact ⟨h.ic h0 h1, h.szc h0 h1, inR (by decide) (by have := (hlow i h0 h1 hc.1 hc.2).1; show (0 : Int) < ((low i).length : Nat); omega), trivial⟩
  · refine ⟨K, (rng (n : Int)).map g, R, Q, ?_, ⟨kl, cB', cD, mK, by simp [rng_length], fun r h0 h1 hk ho => ?_, fun r h0 h1 hn => ?_⟩⟩
    · unfold m_keep
      have eo : okv (m_bring w (1 - p) (m_beyond w rooms)) = ⟨R, Q⟩ := by rw [ce]; rfl
      rw [b]
      show lt _ _ = _
      simp only [lt_eq, eo, hRl, hl, ← hK]
      rw [fold_app ht]
      simp
    · rw [ix_maprng h0 h1]
      obtain ⟨_, y, z⟩ := hlow r h0 h1 hk ho
      refine ⟨_, y, ?_, z⟩
      show (if _ then _ else _) = _
      rw [if_pos (by simp [hk, ho])]
    · rw [ix_maprng h0 h1]
      show (if _ then _ else _) = _
      rw [if_neg]
      rcases hn with z | z
      · simp [z]
      · simp [z]
end
end Law

/-! Games: again and again. -/
namespace Law
open PySem PySem.Spec PyProof.Rows L2 MP
open MP.Enc (enc)
abbrev Tu : Type := List (Option (T2 Int Int))
/-- a step leads down, in turns -/
def Down (T : Tu) (s : Int) (t k : Int) : Prop := ∃ a b, ix T s = some ⟨a, b⟩ ∧ (a < t ∨ (a = t ∧ (b < k ∨ (b = 0 ∧ k = 0))))
/-- the paper of again -/
structure Agn (w : W) (n : Nat) (p : Int) (X : Int → Prop) (R : List (Option Int)) (T : Tu) : Prop where
  lenR : R.length = n
  lenT : T.length = n
  one : ∀ r : Int, 0 ≤ r → r < n → ((ix R r).isSome = true ↔ ix T r = none)
  nn : ∀ r k : Int, 0 ≤ r → r < n → ix R r = some k → 0 ≤ k
  zero : ∀ r : Int, 0 ≤ r → r < n → (ix R r).isSome = true → (ix R r = some 0 ↔ X r)
  on : ∀ r : Int, 0 ≤ r → r < n → (ix R r).isSome = true → Can w p r fun s => (ix R s).isSome = true
  low : ∀ r k : Int, 0 ≤ r → r < n → ix R r = some k → 0 < k → Can w p r fun s => ∃ j, j < k ∧ ix R s = some j
  tn : ∀ r t k : Int, 0 ≤ r → r < n → ix T r = some ⟨t, k⟩ → 0 ≤ t ∧ 0 ≤ k ∧ t < n
  tz : ∀ r t : Int, 0 ≤ r → r < n → ix T r = some ⟨t, 0⟩ → ¬ X r
  down : ∀ r t k : Int, 0 ≤ r → r < n → ix T r = some ⟨t, k⟩ → Can w (1 - p) r fun s => Down T s t k
/-- the loop's state -/
abbrev AS : Type := (Option (List (Option Int))) × Tu × (List Int) × Bool × Int
structure AI (w : W) (n : Nat) (p : Int) (X : Int → Prop) (s : AS) : Prop where
  lenT : s.2.1.length = n
  t0 : 0 ≤ s.2.2.2.2
  tle : s.2.2.2.2 + s.2.2.1.length ≤ n + (if s.2.2.2.1 = true then 0 else 1)
  rl : RL n s.2.2.1
  mem : ∀ r : Int, 0 ≤ r → r < n → (r ∈ s.2.2.1 ↔ ix s.2.1 r = none)
  tn : ∀ r t k : Int, 0 ≤ r → r < n → ix s.2.1 r = some ⟨t, k⟩ → 0 ≤ t ∧ 0 ≤ k ∧ t < s.2.2.2.2 ∧ t < n
  tz : ∀ r t : Int, 0 ≤ r → r < n → ix s.2.1 r = some ⟨t, 0⟩ → ¬ X r
  down : ∀ r t k : Int, 0 ≤ r → r < n → ix s.2.1 r = some ⟨t, k⟩ → Can w (1 - p) r fun q => Down s.2.1 q t k
  fin : s.2.2.2.1 = false → ∃ R, s.1 = some R ∧ Brt w n p (fun r => X r ∧ r ∈ s.2.2.1) (· ∈ s.2.2.1) (fun _ => False) R ∧ (∀ r : Int, 0 ≤ r → r < n → ((ix R r).isSome = true ↔ r ∈ s.2.2.1)) ∧ ∀ r ∈ s.2.2.1, Can w p r (· ∈ s.2.2.1)
/-- a fold that sets some places -/
theorem cond_fold {α : Type} [Inhabited α] (c : Int → Bool) (v : Int → α) : ∀ {l : List Int} {a : List α}, (∀ r ∈ l, 0 ≤ r ∧ r < a.length) →
    (l.foldl (fun a r => if c r = true then setI a r (v r) else a) a).length = a.length ∧ ∀ j : Int, 0 ≤ j → j < a.length → ix (l.foldl (fun a r => if c r = true then setI a r (v r) else a) a) j = if j ∈ l ∧ c j = true then v j else ix a j
  | [], a, _ => ⟨rfl, fun j _ _ => by simp⟩
  | r :: l, a, h => by
    have hr := h r List.mem_cons_self
    have hlen : (if c r = true then setI a r (v r) else a).length = a.length := by split; exact len_setI; rfl
    obtain ⟨h1, h2⟩ := cond_fold c v (l := l) (a := if c r = true then setI a r (v r) else a) fun x hx => by rw [hlen]; exact h x (List.mem_cons_of_mem _ hx)
    rw [hlen] at h1 h2
    refine ⟨h1, fun j g0 g1 => ?_⟩
    rw [List.foldl_cons, h2 j g0 g1]
    by_cases q : j ∈ l ∧ c j = true
    · rw [if_pos q, if_pos ⟨List.mem_cons_of_mem _ q.1, q.2⟩]
    · rw [if_neg q]
      by_cases q2 : c r = true
      · rw [if_pos q2, ix_setI hr.1 hr.2 g0 g1]
        by_cases q3 : j = r
        · subst q3; simp [q2]
        · rw [if_neg q3, if_neg]
          rintro ⟨a, b⟩
          rcases List.mem_cons.mp a with z | z
          · exact q3 z
          · exact q ⟨z, b⟩
      · rw [if_neg q2, if_neg]
        rintro ⟨a, b⟩
        rcases List.mem_cons.mp a with z | z
        · subst z; exact q2 b
        · exact q ⟨z, b⟩
section
variable {w : W} {n : Nat} (h : Wok w n) {p : Int} (hp : Pl p) {rooms : List Int}
include h hp
theorem again_turn {s : AS} (hs : AI w n p (· ∈ rooms) s) (hm : s.2.2.2.1 = true) :
    u_again_1 w p rooms s ∧ AI w n p (· ∈ rooms) (t_again_1 w p rooms s) ∧
    ((t_again_1 w p rooms s).2.2.1.length + if (t_again_1 w p rooms s).2.2.2.1 = true then 1 else 0) < (s.2.2.1.length + if s.2.2.2.1 = true then 1 else 0) := by
  have n24 := h.n24
  have hl := h.len
  obtain ⟨rk, T, left, more, turn⟩ := s
  dsimp only at hm
  subst hm
  obtain ⟨lenT, t0, tle, rl, mem, tn, tz, down, _⟩ := hs
  dsimp only at lenT t0 tle rl mem tn tz down
  have ll := rl.len
  obtain ⟨a1, B1⟩ := brought_ok h (p := p) (rooms := rooms) (within := left) (had := []) rl.st (by omega) (by simp)
  obtain ⟨R, hR⟩ : ∃ R, R = m_brought w p rooms left [] := ⟨_, rfl⟩
  rw [← hR] at B1
  obtain ⟨free, hfree⟩ : ∃ free, free = left.filter fun r => (ix R r).isNone := ⟨_, rfl⟩
  obtain ⟨gone, hgone⟩ : ∃ gone, gone = (rng (n : Int)).filter fun r => !decide (r ∈ left) := ⟨_, rfl⟩
  have hgl : gone.length ≤ n := by rw [hgone]; exact (RL.filter _).len
  obtain ⟨a2, B2⟩ := brought_ok h (p := 1 - p) (rooms := free) (within := left) (had := gone) rl.st (by omega) (by omega)
  obtain ⟨L, hL⟩ : ∃ L, L = m_brought w (1 - p) free left gone := ⟨_, rfl⟩
  rw [← hL] at B2
  have mf : ∀ r : Int, r ∈ free ↔ r ∈ left ∧ ix R r = none := fun r => by rw [hfree, List.mem_filter]; simp
  have mg : ∀ r : Int, 0 ≤ r → r < n → (r ∈ gone ↔ r ∉ left) := fun r h0 h1 => by rw [hgone, List.mem_filter, mem_rng]; simp [h0, h1]
  have es : m_shut_out w p rooms left = ⟨R, L⟩ := by
    unfold m_shut_out
    simp only [lt_eq, hl, ← hR, ← hfree, ← hgone, ← hL]
  have hv : ∀ r ∈ left, 0 ≤ r ∧ r < (T.length : Int) := fun r hr => by rw [lenT]; exact rl.st r hr
  obtain ⟨T', hT'⟩ : ∃ T', T' = left.foldl (t_again_2 (rk, T, left, true, turn) ⟨R, L⟩) T := ⟨_, rfl⟩
  have ef : t_again_2 (rk, T, left, true, turn) ⟨R, L⟩ = fun a r => if (ix L r).isSome = true then setI a r (some ⟨turn, uw (ix L r)⟩) else a := by
    funext a r
    unfold t_again_2
    rfl
  obtain ⟨lT', xT'⟩ := cond_fold (fun r => (ix L r).isSome) (fun r => (some ⟨turn, uw (ix L r)⟩ : Option (T2 Int Int))) (l := left) (a := T) hv
  rw [← ef, ← hT'] at lT' xT'
  rw [lenT] at lT' xT'
  obtain ⟨left', hleft'⟩ : ∃ left', left' = left.filter fun r => (ix T' r).isNone := ⟨_, rfl⟩
  obtain ⟨more', hmore'⟩ : ∃ more', more' = decide (0 < MP.len (L.filter fun r => r.isSome)) := ⟨_, rfl⟩
  have et : t_again_1 w p rooms (rk, T, left, true, turn) = (some R, T', left', more', turn + 1) := by
    unfold t_again_1
    simp only [lt_eq, es, ← hT', ← hleft', ← hmore']
  -- ranks in L are of rooms that are left
  have Lleft : ∀ r : Int, 0 ≤ r → r < n → (ix L r).isSome = true → r ∈ left := B2.sub h (· ∈ left) (fun r _ _ hb => hb.2) fun r _ _ hw _ => hw
  have Rleft : ∀ r : Int, 0 ≤ r → r < n → (ix R r).isSome = true → r ∈ left := B1.sub h (· ∈ left) (fun r _ _ hb => hb.2) fun r _ _ hw _ => hw
  have xT : ∀ j : Int, 0 ≤ j → j < n → ix T' j = if (ix L j).isSome = true then some ⟨turn, uw (ix L j)⟩ else ix T j := fun j g0 g1 => by
    rw [xT' j g0 g1]
    by_cases q : (ix L j).isSome = true
    · rw [if_pos ⟨Lleft j g0 g1 q, q⟩, if_pos q]
    · rw [if_neg fun z => q z.2, if_neg q]
  have mem' : ∀ r : Int, 0 ≤ r → r < n → (r ∈ left' ↔ ix T' r = none) := fun r h0 h1 => by
    rw [hleft', List.mem_filter, Option.isNone_iff_eq_none]
    constructor
    · exact fun z => z.2
    · intro z
      refine ⟨?_, z⟩
      rw [mem r h0 h1]
      rw [xT r h0 h1] at z
      split at z
      · cases z
      · exact z
  -- elder turns stay
  have old : ∀ r : Int, 0 ≤ r → r < n → ∀ t k, ix T r = some ⟨t, k⟩ → ix T' r = some ⟨t, k⟩ := fun r h0 h1 t k e => by
    have hn : ¬ (ix L r).isSome = true := fun z => by
      have := (mem r h0 h1).mp (Lleft r h0 h1 z)
      rw [e] at this; cases this
    rw [xT r h0 h1, if_neg hn, e]
  have inv : ∀ r : Int, 0 ≤ r → r < n → ∀ t k, ix T' r = some ⟨t, k⟩ → ix T r = some ⟨t, k⟩ ∨ (ix L r = some k ∧ t = turn) := fun r h0 h1 t k e => by
    rw [xT r h0 h1] at e
    by_cases q : (ix L r).isSome = true
    · rw [if_pos q] at e
      obtain ⟨j, hj⟩ := Option.isSome_iff_exists.mp q
      rw [hj] at e
      injection e with e
      injection e with e1 e2
      refine .inr ⟨?_, e1.symm⟩
      rw [hj, ← e2]; rfl
    · rw [if_neg q] at e; exact .inl e
  have goneD : ∀ r : Int, 0 ≤ r → r < n → r ∈ gone → ∀ k, Down T' r turn k := fun r h0 h1 hg k => by
    have hn : ¬ ix T r = none := fun z => (mg r h0 h1).mp hg ((mem r h0 h1).mpr z)
    cases q : ix T r with
    | none => exact absurd q hn
    | some tk =>
      obtain ⟨t, j⟩ := tk
      have := tn r t j h0 h1 q
      exact ⟨t, j, old r h0 h1 t j q, .inl this.2.2.1⟩
  have newL : ∀ r k : Int, 0 ≤ r → r < n → ix L r = some k → ix T' r = some ⟨turn, k⟩ := fun r k h0 h1 e => by
    rw [xT r h0 h1, e]; rfl
  have len' : left'.length ≤ left.length := by rw [hleft']; exact List.length_filter_le _ _
  have lessL : more' = true → left'.length < left.length := fun hm => by
    rw [hmore'] at hm
    have hm := of_decide_eq_true hm
    unfold MP.len at hm
    obtain ⟨o, ho⟩ := List.exists_mem_of_length_pos (show 0 < (L.filter fun r => r.isSome).length by omega)
    obtain ⟨o1, o2⟩ := List.mem_filter.mp ho
    obtain ⟨i, i0, i1, ie⟩ := mem_ix o1
    rw [B2.len] at i1
    rw [← ie] at o2
    rw [hleft']
    have e := filter_lt (l := left) (p := fun _ => true) (q := fun r => (ix T' r).isNone) (fun _ _ _ => rfl) ⟨i, Lleft i i0 i1 o2, rfl, by rw [xT i i0 i1, if_pos o2]; rfl⟩
    rwa [show left.filter (fun _ => true) = left from List.filter_eq_self.mpr fun _ _ => rfl] at e
  have noneL : more' = false → ∀ r : Int, 0 ≤ r → r < n → ix L r = none := fun hm r h0 h1 => by
    rw [hmore'] at hm
    have hm := of_decide_eq_false hm
    unfold MP.len at hm
    have : (L.filter fun r => r.isSome) = [] := List.length_eq_zero_iff.mp (by omega)
    rw [List.filter_eq_nil_iff] at this
    have := this _ (ix_in h0 (by rw [B2.len]; exact h1))
    cases q : ix L r with
    | none => rfl
    | some k => rw [q] at this; exact absurd rfl this
  refine ⟨?_, ?_, ?_⟩
  · unfold u_again_1
    have e2 : s_shut_out w p rooms left := by
      unfold s_shut_out
      simp only [lt_eq, hl, ← hR, ← hfree, ← hgone]
      refine ⟨a1, sz_le (by omega), fun r hr => inR (rl.st r hr).1 (by rw [B1.len]; exact (rl.st r hr).2), rgOk (by omega) (by omega), a2, trivial⟩
    simp only [lt_eq, es, ← hT', ← hleft']
    refine ⟨e2, ?_, sz_le (by omega), fun r hr => inR (rl.st r hr).1 (by rw [lT']; exact (rl.st r hr).2), sz_le (by have := B2.len; omega), trivial⟩
    have key : ∀ (l : List Int) (a : Tu), a.length = n → (∀ r ∈ l, 0 ≤ r ∧ r < (n : Int)) → foldS (u_again_2 (rk, T, left, true, turn) ⟨R, L⟩) (t_again_2 (rk, T, left, true, turn) ⟨R, L⟩) l a := fun l => by
      induction l with
      | nil => intro a _ _; trivial
      | cons x r ih =>
        intro a ha hx
        have hx0 := hx x List.mem_cons_self
        have hLx : InR L.length x := inR hx0.1 (by rw [B2.len]; exact hx0.2)
        refine ⟨⟨hLx, fun z => ⟨hLx, z, inR hx0.1 (by rw [ha]; exact hx0.2), trivial⟩⟩, ih _ ?_ fun y hy => hx y (List.mem_cons_of_mem _ hy)⟩
        rw [ef]
        dsimp only
        split
        · rw [len_setI]; exact ha
        · exact ha
    exact key left T lenT rl.st
  · rw [et]
    refine ⟨lT', by dsimp only; omega, ?_, by dsimp only; rw [hleft']; exact rl.sub List.filter_sublist, mem', fun r t k h0 h1 e => ?_, fun r t h0 h1 e => ?_, fun r t k h0 h1 e => ?_, fun hm => ?_⟩
    · dsimp only
      rw [if_pos rfl] at tle
      cases q : more' with
      | true => have := lessL q; simp; omega
      | false => simp; omega
    · dsimp only at e ⊢
      rcases inv r h0 h1 t k e with e | ⟨e, et⟩
      · have := tn r t k h0 h1 e; omega
      · have := B2.nn r k h0 h1 e
        have hlr := Lleft r h0 h1 (by rw [e]; rfl)
        have : 0 < left.length := List.length_pos_of_mem hlr
        rw [if_pos rfl] at tle
        omega
    · dsimp only at e
      rcases inv r h0 h1 t 0 e with e | ⟨e, et⟩
      · exact tz r t h0 h1 e
      · intro hx
        have hfr := ((B2.zero r h0 h1).mp e).1
        obtain ⟨g1, g2⟩ := (mf r).mp hfr
        have := (B1.zero r h0 h1).mpr ⟨hx, g1⟩
        rw [g2] at this; cases this
    · dsimp only at e ⊢
      rcases inv r h0 h1 t k e with e | ⟨e, et⟩
      · refine (down r t k h0 h1 e).mono fun q hq => ?_
        obtain ⟨q0, q1⟩ := h.step h0 h1 hq
        rintro ⟨a, b, e3, e4⟩
        exact ⟨a, b, old q q0 q1 a b e3, e4⟩
      · subst et
        have hk := B2.nn r k h0 h1 e
        by_cases hk0 : k = 0
        · subst hk0
          -- a free room
          obtain ⟨g1, g2⟩ := (mf r).mp ((B2.zero r h0 h1).mp e).1
          have := B1.full r h0 h1 g1 g2
          rw [can_dual h hp h0 h1] at this
          refine this.mono fun q hq hn => ?_
          obtain ⟨q0, q1⟩ := h.step h0 h1 hq
          by_cases z : q ∈ left
          · have : ix R q = none := by
              cases y : ix R q with
              | none => rfl
              | some j => exact absurd (.inr (by rw [y]; rfl)) hn
            have hz := (B2.zero q q0 q1).mpr ⟨(mf q).mpr ⟨z, this⟩, z⟩
            exact ⟨_, _, newL q 0 q0 q1 hz, .inr ⟨rfl, .inr ⟨rfl, rfl⟩⟩⟩
          · exact goneD q q0 q1 ((mg q q0 q1).mpr z) 0
        · obtain ⟨_, c⟩ := B2.step r k h0 h1 e (by omega)
          refine c.mono fun q hq hn => ?_
          obtain ⟨q0, q1⟩ := h.step h0 h1 hq
          rcases hn with hg | ⟨j, hj, ej⟩
          · exact goneD q q0 q1 hg k
          · exact ⟨_, _, newL q j q0 q1 ej, .inr ⟨rfl, .inl hj⟩⟩
    · dsimp only at hm ⊢
      have hnL := noneL hm
      have eT : ∀ r : Int, 0 ≤ r → r < n → ix T' r = ix T r := fun r h0 h1 => by rw [xT r h0 h1, hnL r h0 h1]; rfl
      have ml : ∀ r : Int, 0 ≤ r → r < n → (r ∈ left' ↔ r ∈ left) := fun r h0 h1 => by rw [mem' r h0 h1, mem r h0 h1, eT r h0 h1]
      refine ⟨R, rfl, B1.congr h (fun r h0 h1 => by rw [ml r h0 h1]) (fun r h0 h1 => by rw [ml r h0 h1]) (fun r h0 h1 => by simp), fun r h0 h1 => ?_, fun r hr => ?_⟩
      · rw [ml r h0 h1]
        refine ⟨Rleft r h0 h1, fun hlr => ?_⟩
        cases q : ix R r with
        | some k => rfl
        | none =>
          have := (B2.zero r h0 h1).mpr ⟨(mf r).mpr ⟨hlr, q⟩, hlr⟩
          rw [hnL r h0 h1] at this; cases this
      · have hrl : r ∈ left := by rw [hleft'] at hr; exact (List.mem_filter.mp hr).1
        obtain ⟨h0, h1⟩ := rl.st r hrl
        have := B2.full r h0 h1 hrl (hnL r h0 h1)
        rw [can_dual2 h hp h0 h1] at this
        refine this.mono fun q hq hn => ?_
        obtain ⟨q0, q1⟩ := h.step h0 h1 hq
        rw [ml q q0 q1]
        by_cases z : q ∈ left
        · exact z
        · exact absurd (.inl ((mg q q0 q1).mpr z)) hn
  · rw [et]
    dsimp only
    rw [if_pos rfl]
    cases q : more' with
    | true => have := lessL q; simp; omega
    | false => simp; omega
end
end Law

/-! Games: what again tells. -/
namespace Law
open PySem PySem.Spec PyProof.Rows L2 MP
open MP.Enc (enc)
theorem turned {T : Tu} {s r t k : Int} (e : ix T r = some ⟨t, k⟩) : m_turned_to T s r = true ↔ Down T s t k := by
  unfold m_turned_to Down
  cases q : ix T s with
  | none => simp
  | some ab =>
    obtain ⟨a, b⟩ := ab
    have u1 : uw (some (⟨a, b⟩ : T2 Int Int)) = ⟨a, b⟩ := rfl
    have u2 : uw (some (⟨t, k⟩ : T2 Int Int)) = ⟨t, k⟩ := rfl
    rw [e]
    simp only [u1, u2, Option.isNone_some, Bool.false_eq_true, if_false, Option.some.injEq, T2.mk.injEq]
    by_cases q1 : a = t
    · simp only [q1]
      simp
      constructor
      · intro z
        exact ⟨t, b, ⟨rfl, rfl⟩, .inr ⟨rfl, by omega⟩⟩
      · rintro ⟨a', b', ⟨rfl, rfl⟩, z⟩
        omega
    · simp [q1]
      constructor
      · intro z
        exact ⟨a, b, ⟨rfl, rfl⟩, .inl z⟩
      · rintro ⟨a', b', ⟨rfl, rfl⟩, z⟩
        omega
theorem s_turned {T : Tu} {n : Nat} (hT : T.length = n) {s r : Int} (s0 : 0 ≤ s) (s1 : s < n) (r0 : 0 ≤ r) (r1 : r < n) (e : (ix T r).isSome = true) : s_turned_to T s r := by
  have a : InR T.length s := inR s0 (by rw [hT]; exact s1)
  have b : InR T.length r := inR r0 (by rw [hT]; exact r1)
  refine ⟨a, fun z => ?_⟩
  have es : (ix T s).isSome = true := by
    cases q : ix T s with
    | none => rw [q] at z; cases z
    | some _ => rfl
  exact ⟨a, es, b, e, fun _ => ⟨a, es, b, e, trivial⟩, fun _ => ⟨a, es, b, e, fun _ => b, fun _ => e, fun _ _ => a, fun _ _ => es, trivial⟩⟩
/-- the plan of a paper -/
structure PlanB (w : W) (n : Nat) (p : Int) (R P : List (Option Int)) : Prop where
  len : P.length = n
  go : ∀ r k : Int, 0 ≤ r → r < n → ix w.a r = p → ix R r = some k → ∃ s ∈ ix w.c r, ix P r = some s ∧ ∃ j, ix R s = some j ∧ (k = 0 ∨ j < k)
  no : ∀ r : Int, 0 ≤ r → r < n → (¬ ix w.a r = p ∨ ix R r = none) → ix P r = none
structure CounB (w : W) (n : Nat) (q : Int) (T : Tu) (P : List (Option Int)) : Prop where
  len : P.length = n
  go : ∀ r t k : Int, 0 ≤ r → r < n → ix w.a r = q → ix T r = some ⟨t, k⟩ → ∃ s ∈ ix w.c r, ix P r = some s ∧ Down T s t k
  no : ∀ r : Int, 0 ≤ r → r < n → (¬ ix w.a r = q ∨ ix T r = none) → ix P r = none
section
variable {w : W} {n : Nat} (h : Wok w n) {p : Int} (hp : Pl p) {rooms : List Int}
include h
theorem plan_by_ok {R : List (Option Int)} (hRl : R.length = n)
    (on : ∀ r : Int, 0 ≤ r → r < n → (ix R r).isSome = true → Can w p r fun s => (ix R s).isSome = true)
    (low : ∀ r k : Int, 0 ≤ r → r < n → ix R r = some k → 0 < k → Can w p r fun s => ∃ j, j < k ∧ ix R s = some j)
    (nn : ∀ r k : Int, 0 ≤ r → r < n → ix R r = some k → 0 ≤ k) : s_plan_by w p R ∧ PlanB w n p R (m_plan_by w p R) := by
  have n24 := h.n24
  have hl := h.len
  let kn (r : Int) : List Int := (ix w.c r).filter fun t => (ix R t).isSome
  let lo (r : Int) : List Int := (kn r).filter fun t => decide (ix R r = some 0) || decide (uw (ix R t) < uw (ix R r))
  let g (r : Int) : Option Int := if (decide (ix w.a r = p) && (ix R r).isSome) = true then some (ix (lo r) 0) else none
  have ht : ∀ s r, t_plan_by_1 w p R s r = s ++ [g r] := fun s r => rfl
  have hlow : ∀ r k : Int, 0 ≤ r → r < n → ix w.a r = p → ix R r = some k → 0 < (lo r).length ∧ ix (lo r) 0 ∈ ix w.c r ∧ ∃ j, ix R (ix (lo r) 0) = some j ∧ (k = 0 ∨ j < k) := fun r k h0 h1 ho e => by
    have hk := nn r k h0 h1 e
    have hne : 0 < (lo r).length := by
      by_cases k0 : k = 0
      · subst k0
        rcases on r h0 h1 (by rw [e]; rfl) with ⟨_, s, hs, z⟩ | ⟨hn, _⟩
        · exact filter_pos.mpr ⟨s, List.mem_filter.mpr ⟨hs, z⟩, by simp [e]⟩
        · exact absurd ho hn
      · rcases low r k h0 h1 e (by omega) with ⟨_, s, hs, j, hj, ej⟩ | ⟨hn, _⟩
        · exact filter_pos.mpr ⟨s, List.mem_filter.mpr ⟨hs, by rw [ej]; rfl⟩, by simp [e, ej, uw, hj]⟩
        · exact absurd ho hn
    refine ⟨hne, ?_⟩
    have hm := ix_in (l := lo r) (i := 0) (by decide) (by omega)
    obtain ⟨m1, m2⟩ := List.mem_filter.mp hm
    obtain ⟨m3, m4⟩ := List.mem_filter.mp m1
    obtain ⟨j, ej⟩ := Option.isSome_iff_exists.mp m4
    refine ⟨m3, j, ej, ?_⟩
    rw [Bool.or_eq_true, decide_eq_true_eq, decide_eq_true_eq, e, ej] at m2
    rcases m2 with z | z
    · injection z with z; exact .inl z
    · exact .inr z
  constructor
  · unfold s_plan_by
    simp only [lt_eq, hl]
    refine ⟨rgOk (by omega) (by omega), foldS_rng (fun i s => s.length = i) rfl fun i hi s hs => ⟨?_, by rw [ht]; simp [hs]⟩, trivial⟩
    have h0 : (0 : Int) ≤ i := by omega
    have h1 : (i : Int) < n := by omega
    have hR : ∀ t : Int, 0 ≤ t → t < n → InR R.length t := fun t t0 t1 => inR t0 (by rw [hRl]; exact t1)
    have hst : ∀ t ∈ ix w.c (i : Int), InR R.length t := fun t ht => hR t (h.step h0 h1 ht).1 (h.step h0 h1 ht).2
    have hkn : ∀ t ∈ kn (i : Int), InR R.length t ∧ (ix R t).isSome = true := fun t ht => ⟨hst t (List.mem_filter.mp ht).1, (List.mem_filter.mp ht).2⟩
    refine ⟨h.ia h0 h1, fun _ => hR _ h0 h1, fun hc => ?_, by unfold Sz1; omega, trivial⟩
    rw [Bool.and_eq_true, decide_eq_true_eq] at hc
    obtain ⟨k, hk⟩ := Option.isSome_iff_exists.mp hc.2
    have hz := h.rlen h0 h1
    have hkl : (kn (i : Int)).length ≤ (ix w.c (i : Int)).length := List.length_filter_le _ _
    exact ⟨h.ic h0 h1, h.szc h0 h1, hst, sz_le (Nat.le_trans (List.length_filter_le _ _) (by omega)), fun _ _ => hR _ h0 h1, fun t ht _ => (hkn t ht).1, fun t ht _ => (hkn t ht).2, fun _ _ _ => hR _ h0 h1, fun _ _ _ => hc.2,
      inR (by decide) (by have := (hlow i k h0 h1 hc.1 hk).1; show (0 : Int) < ((lo i).length : Nat); omega), trivial⟩
  · have e : m_plan_by w p R = (rng (n : Int)).map g := by
      unfold m_plan_by
      simp only [lt_eq, hl]
      rw [fold_app ht]; simp
    rw [e]
    refine ⟨by simp [rng_length], fun r k h0 h1 ho er => ?_, fun r h0 h1 hr => ?_⟩
    · rw [ix_maprng h0 h1]
      obtain ⟨_, a, b⟩ := hlow r k h0 h1 ho er
      refine ⟨_, a, ?_, b⟩
      show (if _ then _ else _) = _
      rw [if_pos (by simp [ho, er])]
    · rw [ix_maprng h0 h1]
      show (if _ then _ else _) = _
      rw [if_neg]
      rcases hr with z | z
      · simp [z]
      · simp [z]
theorem counter_by_ok {q : Int} {T : Tu} (hT : T.length = n) (down : ∀ r t k : Int, 0 ≤ r → r < n → ix T r = some ⟨t, k⟩ → Can w q r fun s => Down T s t k) :
    s_counter_by w q T ∧ CounB w n q T (m_counter_by w q T) := by
  have n24 := h.n24
  have hl := h.len
  let lo (r : Int) : List Int := (ix w.c r).filter fun t => m_turned_to T t r
  let g (r : Int) : Option Int := if (decide (ix w.a r = q) && (ix T r).isSome) = true then some (ix (lo r) 0) else none
  have ht : ∀ s r, t_counter_by_1 w q T s r = s ++ [g r] := fun s r => rfl
  have hlow : ∀ r t k : Int, 0 ≤ r → r < n → ix w.a r = q → ix T r = some ⟨t, k⟩ → 0 < (lo r).length ∧ ix (lo r) 0 ∈ ix w.c r ∧ Down T (ix (lo r) 0) t k := fun r t k h0 h1 ho e => by
    have hne : 0 < (lo r).length := by
      rcases down r t k h0 h1 e with ⟨_, s, hs, z⟩ | ⟨hn, _⟩
      · exact filter_pos.mpr ⟨s, hs, (turned e).mpr z⟩
      · exact absurd ho hn
    have hm := ix_in (l := lo r) (i := 0) (by decide) (by omega)
    obtain ⟨m1, m2⟩ := List.mem_filter.mp hm
    exact ⟨hne, m1, (turned e).mp m2⟩
  constructor
  · unfold s_counter_by
    simp only [lt_eq, hl]
    refine ⟨rgOk (by omega) (by omega), foldS_rng (fun i s => s.length = i) rfl fun i hi s hs => ⟨?_, by rw [ht]; simp [hs]⟩, trivial⟩
    have h0 : (0 : Int) ≤ i := by omega
    have h1 : (i : Int) < n := by omega
    refine ⟨h.ia h0 h1, fun _ => inR h0 (by rw [hT]; exact h1), fun hc => ?_, by unfold Sz1; omega, trivial⟩
    rw [Bool.and_eq_true, decide_eq_true_eq] at hc
    obtain ⟨⟨t, k⟩, hk⟩ := Option.isSome_iff_exists.mp hc.2
    exact ⟨h.ic h0 h1, h.szc h0 h1, fun t ht => s_turned hT (h.step h0 h1 ht).1 (h.step h0 h1 ht).2 h0 h1 hc.2,
      inR (by decide) (by have := (hlow i t k h0 h1 hc.1 hk).1; show (0 : Int) < ((lo i).length : Nat); omega), trivial⟩
  · have e : m_counter_by w q T = (rng (n : Int)).map g := by
      unfold m_counter_by
      simp only [lt_eq, hl]
      rw [fold_app ht]; simp
    rw [e]
    refine ⟨by simp [rng_length], fun r t k h0 h1 ho er => ?_, fun r h0 h1 hr => ?_⟩
    · rw [ix_maprng h0 h1]
      obtain ⟨_, a, b⟩ := hlow r t k h0 h1 ho er
      refine ⟨_, a, ?_, b⟩
      show (if _ then _ else _) = _
      rw [if_pos (by simp [ho, er])]
    · rw [ix_maprng h0 h1]
      show (if _ then _ else _) = _
      rw [if_neg]
      rcases hr with z | z
      · simp [z]
      · simp [z]
include hp
theorem again_ok (hr : RL n rooms) : s_again w p rooms ∧ ∃ R P T C, m_again w p rooms = .ok ⟨R, P, T, C⟩ ∧ Agn w n p (· ∈ rooms) R T ∧ PlanB w n p R P ∧ CounB w n (1 - p) T C := by
  obtain ⟨a, b⟩ := ask_game_ok h hp hr
  have n24 := h.n24
  have hl := h.len
  have e0 : ((rng (n : Int)).map fun _ => (none : Option (T2 Int Int))).length = n := by rw [List.length_map, rng_length]; omega
  have x0 : ∀ r : Int, 0 ≤ r → r < n → ix ((rng (n : Int)).map fun _ => (none : Option (T2 Int Int))) r = none := fun r h0 h1 => ix_maprng h0 h1
  have h0 : AI w n p (· ∈ rooms) ((none, ((rng (n : Int)).map fun _ => (none : Option (T2 Int Int))), rng (n : Int), true, 0) : AS) := by
    refine ⟨e0, Int.le_refl _, by dsimp only; rw [rng_length]; simp, RL.rng n, fun r h0 h1 => ?_, fun r t k h0 h1 e => ?_, fun r t h0 h1 e => ?_, fun r t k h0 h1 e => ?_, nofun⟩
    · dsimp only; rw [x0 r h0 h1, mem_rng]; simp [h0, h1]
    · dsimp only at e; rw [x0 r h0 h1] at e; cases e
    · dsimp only at e; rw [x0 r h0 h1] at e; cases e
    · dsimp only at e; rw [x0 r h0 h1] at e; cases e
  have bound : (rng (n : Int)).length + (if (true : Bool) = true then 1 else 0) < wmost := by
    rw [rng_length, wmost_eq]; simp; omega
  have hS := whS_inv (sc := v_again_1 w p rooms) (c := c_again_1 w p rooms) (sf := u_again_1 w p rooms) (f := t_again_1 w p rooms) (AI w n p (· ∈ rooms)) (fun s : AS => s.2.2.1.length + if s.2.2.2.1 = true then 1 else 0) (fun s hs => ⟨trivial, fun hc => again_turn h hp hs hc⟩) h0 bound
  obtain ⟨fin, hc⟩ := whl_inv (c := c_again_1 w p rooms) (f := t_again_1 w p rooms) (AI w n p (· ∈ rooms)) (fun s : AS => s.2.2.1.length + if s.2.2.2.1 = true then 1 else 0) (fun s hs hc => (again_turn h hp hs hc).2) h0 bound
  obtain ⟨f, hf⟩ : ∃ f, f = whl (c_again_1 w p rooms) (t_again_1 w p rooms) wmost ((none, ((rng (n : Int)).map fun _ => (none : Option (T2 Int Int))), rng (n : Int), true, 0) : AS) := ⟨_, rfl⟩
  rw [← hf] at fin hc
  have hc : f.2.2.2.1 = false := hc
  obtain ⟨R, eR, B, hsome, hcan⟩ := fin.fin hc
  have hRl : R.length = n := B.len
  have on : ∀ r : Int, 0 ≤ r → r < n → (ix R r).isSome = true → Can w p r fun s => (ix R s).isSome = true := fun r h0 h1 e =>
    (hcan r ((hsome r h0 h1).mp e)).mono fun s hs hm => (hsome s (h.step h0 h1 hs).1 (h.step h0 h1 hs).2).mpr hm
  have low : ∀ r k : Int, 0 ≤ r → r < n → ix R r = some k → 0 < k → Can w p r fun s => ∃ j, j < k ∧ ix R s = some j := fun r k h0 h1 e hk =>
    (B.step r k h0 h1 e hk).2.mono fun s _ hm => by
      rcases hm with z | z
      · exact z.elim
      · exact z
  obtain ⟨p1, p2⟩ := plan_by_ok h hRl on low B.nn
  have down : ∀ r t k : Int, 0 ≤ r → r < n → ix f.2.1 r = some ⟨t, k⟩ → Can w (1 - p) r fun s => Down f.2.1 s t k := fin.down
  obtain ⟨c1, c2⟩ := counter_by_ok h fin.lenT down
  have hu : uw f.1 = R := by rw [eR]; rfl
  constructor
  · refine ⟨a, fun _ _ => ?_⟩
    simp only [lt_eq, hl, ← hf, hu]
    exact ⟨rgOk (by omega) (by omega), sz_le (by rw [rng_length]; omega), hS, by rw [eR]; rfl, by rw [eR]; rfl, p1, c1, trivial⟩
  · refine ⟨R, _, f.2.1, _, ?_, ⟨hRl, fin.lenT, fun r h0 h1 => ?_, B.nn, fun r h0 h1 e => ?_, on, low, fun r t k h0 h1 e => ?_, fin.tz, down⟩, p2, c2⟩
    · unfold m_again
      rw [b]
      simp only [els, lt_eq, hl, ← hf, hu]
    · rw [hsome r h0 h1, fin.mem r h0 h1]
    · rw [B.zero r h0 h1]
      exact ⟨fun z => z.1, fun z => ⟨z, (hsome r h0 h1).mp e⟩⟩
    · have := fin.tn r t k h0 h1 e
      exact ⟨this.1, this.2.1, this.2.2.2⟩
end
end Law

/-! Games: which rooms can be met again and again. -/
namespace Law
open PySem PySem.Spec PyProof.Rows L2 MP
open MP.Enc (enc)
/-- rooms from which a player comes to some rooms and, from there, back among them -/
def BC (w : W) (n : Nat) (p : Int) (X S : Int → Prop) (ρ : Int → Nat) : Prop := ∀ r : Int, 0 ≤ r → r < n → S r → (ρ r = 0 → X r ∧ Can w p r S) ∧ (0 < ρ r → Can w p r fun s => S s ∧ ρ s < ρ r)
section
variable {w : W} {n : Nat} (h : Wok w n) {p : Int} (hp : Pl p) {X : Int → Prop} {R : List (Option Int)} {T : Tu}
include h hp
theorem agn_sub (A : Agn w n p X R T) {S : Int → Prop} {ρ : Int → Nat} (B : BC w n p X S ρ) : ∀ r : Int, 0 ≤ r → r < n → S r → (ix R r).isSome = true := by
  have key : ∀ a b : Nat, (∀ (a' b' : Nat) (r : Int), (a' < a ∨ (a' = a ∧ b' < b)) → 0 ≤ r → r < n → ix T r = some ⟨a', b'⟩ → ¬ S r) → ∀ (m : Nat) (r : Int), ρ r ≤ m → 0 ≤ r → r < n → ix T r = some ⟨a, b⟩ → ¬ S r := by
    intro a b ih m
    induction m with
    | zero =>
      intro r hm h0 h1 e hS
      obtain ⟨b1, _⟩ := B r h0 h1 hS
      obtain ⟨x1, x2⟩ := b1 (by omega)
      by_cases hb : b = 0
      · subst hb
        exact A.tz r a h0 h1 e x1
      · have hd := A.down r a b h0 h1 e
        have : Can w (1 - p) r fun s => ¬ S s := hd.mono fun s hs hD => by
          obtain ⟨s0, s1⟩ := h.step h0 h1 hs
          obtain ⟨a', b', e', c⟩ := hD
          have ht := A.tn s a' b' s0 s1 e'
          refine ih a'.toNat b'.toNat s ?_ s0 s1 (by rw [e']; congr 2 <;> omega)
          omega
        exact (can_dual h hp h0 h1).mpr this x2
    | succ m ihm =>
      intro r hm h0 h1 e hS
      obtain ⟨b1, b2⟩ := B r h0 h1 hS
      have hd := A.down r a b h0 h1 e
      by_cases hr : ρ r = 0
      · exact ihm r (by omega) h0 h1 e hS
      · have x2 := b2 (by omega)
        have : Can w (1 - p) r fun s => ¬ (S s ∧ ρ s < ρ r) := hd.mono fun s hs hD hS2 => by
          obtain ⟨s0, s1⟩ := h.step h0 h1 hs
          obtain ⟨a', b', e', c⟩ := hD
          have ht := A.tn s a' b' s0 s1 e'
          by_cases q : a' < a ∨ (a' = a ∧ b' < b)
          · exact ih a'.toNat b'.toNat s (by omega) s0 s1 (by rw [e']; congr 2 <;> omega) hS2.1
          · have : a' = a ∧ b' = b := by omega
            obtain ⟨rfl, rfl⟩ := this
            exact ihm s (by omega) s0 s1 e' hS2.1
        exact (can_dual h hp h0 h1).mpr this x2
  have all : ∀ a : Nat, ∀ b : Nat, ∀ r : Int, 0 ≤ r → r < n → ix T r = some ⟨a, b⟩ → ¬ S r := by
    intro a
    induction a using Nat.strongRecOn with
    | _ a iha =>
      intro b
      induction b using Nat.strongRecOn with
      | _ b ihb =>
        intro r h0 h1 e
        refine key a b (fun a' b' r c h0 h1 e => ?_) (ρ r) r (Nat.le_refl _) h0 h1 e
        rcases c with c | ⟨c, d⟩
        · exact iha a' c b' r h0 h1 e
        · rw [c] at e; exact ihb b' d r h0 h1 e
  intro r h0 h1 hS
  rw [A.one r h0 h1]
  cases q : ix T r with
  | none => rfl
  | some tk =>
    obtain ⟨t, k⟩ := tk
    have ht := A.tn r t k h0 h1 q
    exact absurd hS (all t.toNat k.toNat r h0 h1 (by rw [q]; congr 2 <;> omega))
omit hp in
theorem agn_bc (A : Agn w n p X R T) : BC w n p X (fun r => (ix R r).isSome = true) (fun r => (uw (ix R r)).toNat) := by
  intro r h0 h1 hS
  obtain ⟨k, hk⟩ := Option.isSome_iff_exists.mp hS
  have hn := A.nn r k h0 h1 hk
  have hu : uw (ix R r) = k := by rw [hk]; rfl
  constructor
  · intro z
    dsimp only at z
    have : k = 0 := by rw [hu] at z; omega
    subst this
    exact ⟨(A.zero r h0 h1 hS).mp hk, A.on r h0 h1 hS⟩
  · intro z
    dsimp only at z
    refine (A.low r k h0 h1 hk (by rw [hu] at z; omega)).mono fun s hs hj => ?_
    obtain ⟨j, hj, ej⟩ := hj
    have := A.nn s j (h.step h0 h1 hs).1 (h.step h0 h1 hs).2 ej
    refine ⟨show (ix R s).isSome = true by rw [ej]; rfl, ?_⟩
    show (uw (ix R s)).toNat < (uw (ix R r)).toNat
    rw [hu, show uw (ix R s) = j by rw [ej]; rfl]
    omega
theorem agn_mono {X' : Int → Prop} {R' : List (Option Int)} {T' : Tu} (A : Agn w n p X R T) (A' : Agn w n p X' R' T') (hx : ∀ r : Int, 0 ≤ r → r < n → X r → X' r) : ∀ r : Int, 0 ≤ r → r < n → (ix R r).isSome = true → (ix R' r).isSome = true := by
  refine agn_sub h hp A' (S := fun r => (ix R r).isSome = true) (ρ := fun r => (uw (ix R r)).toNat) fun r h0 h1 hS => ?_
  obtain ⟨a, b⟩ := agn_bc h A r h0 h1 hS
  exact ⟨fun z => ⟨hx r h0 h1 (a z).1, (a z).2⟩, b⟩
end
theorem least_of {P : Nat → Prop} (h : ∃ m, P m) : ∃ m, P m ∧ ∀ j, P j → m ≤ j := by
  obtain ⟨m, hm⟩ := h
  induction m using Nat.strongRecOn with
  | _ m ih =>
    by_cases q : ∃ j, j < m ∧ P j
    · obtain ⟨j, hj, hp⟩ := q
      exact ih j hj hp
    · exact ⟨m, hm, fun j hj => by
        by_cases z : m ≤ j
        · exact z
        · exact absurd ⟨j, by omega, hj⟩ q⟩
/-! ### rounds that come to an end -/
def itn {α : Type} (F : α → α) : Nat → α → α
  | 0, s => s
  | k + 1, s => F (itn F k s)
theorem fold_itn {α : Type} {F : α → α} {f : α → Int → α} (hf : ∀ s i, f s i = F s) (n : Nat) (s : α) : (rng (n : Int)).foldl f s = itn F n s :=
  foldl_rng (fun i t => t = itn F i s) rfl fun i _ t ht => by rw [hf, ht]; rfl
theorem RL.sub_len {n : Nat} {l m : List Int} (hl : RL n l) (hm : RL n m) (h : ∀ x ∈ l, x ∈ m) : l = m ∨ l.length < m.length := by
  have e : l = m.filter fun x => decide (x ∈ l) := asc_ext hl.asc (hm.asc.sublist List.filter_sublist) fun x => by
    rw [List.mem_filter]; simp
    exact h x
  have hle : l.length ≤ m.length := by
    have := List.length_filter_le (fun x => decide (x ∈ l)) m
    rw [← e] at this; exact this
  by_cases q : l.length = m.length
  · left
    have := List.length_filter_eq_length_iff.mp (by rw [← e]; exact q : (m.filter fun x => decide (x ∈ l)).length = m.length)
    exact asc_ext hl.asc hm.asc fun x => ⟨h x, fun hx => by simpa using this x hx⟩
  · right; omega
theorem iter_fix {n : Nat} {F : List Int → List Int} {l : List Int} (rl : ∀ i, RL n (itn F i l)) (mono : ∀ i, ∀ x ∈ itn F i l, x ∈ itn F (i + 1) l) : itn F (n + 1) l = itn F n l := by
  have key : ∀ i : Nat, (∃ j, j < i ∧ itn F (j + 1) l = itn F j l) ∨ i ≤ (itn F i l).length := by
    intro i
    induction i with
    | zero => right; omega
    | succ i ih =>
      rcases ih with ⟨j, hj, e⟩ | hi
      · exact .inl ⟨j, by omega, e⟩
      · rcases (rl i).sub_len (rl (i + 1)) (mono i) with e | e
        · exact .inl ⟨i, by omega, e.symm⟩
        · right; omega
  have hj : ∃ j, j ≤ n ∧ itn F (j + 1) l = itn F j l := by
    rcases key (n + 1) with ⟨j, hj, e⟩ | hi
    · exact ⟨j, by omega, e⟩
    · have := (rl (n + 1)).len; omega
  obtain ⟨j, hj, e⟩ := hj
  have st : ∀ d, itn F (j + d) l = itn F j l := by
    intro d
    induction d with
    | zero => rfl
    | succ d ih =>
      show F (itn F (j + d) l) = _
      rw [ih]; exact e
  rw [show n + 1 = j + (n + 1 - j) by omega, st, show n = j + (n - j) by omega, st]
/-! ### the law's own rounds -/
theorem law_now {w : W} {p r : Int} {known : List Int} : m_law_now w p r known = true ↔ Can w p r (· ∈ known) := can_now
theorem s_law_now_ok {w : W} {n : Nat} (h : Wok w n) {p r : Int} {known : List Int} (h0 : 0 ≤ r) (h1 : r < n) : s_law_now w p r known := by
  unfold s_law_now
  simp only [lt_eq]
  exact ⟨h.ic h0 h1, h.szc h0 h1, h.ia h0 h1, fun _ => ⟨h.ic h0 h1, trivial⟩⟩
section
variable {w : W} {n : Nat} (h : Wok w n) {p : Int} (hp : Pl p) {rooms : List Int} (hr : RL n rooms)
include h hp hr
def goodL (w : W) (p : Int) (rooms won : List Int) : List Int := rooms.filter fun r => m_law_now w p r won
def stepL (w : W) (p : Int) (good known : List Int) : List Int := (rng (MP.len w.a)).filter fun r => decide (r ∈ good) || m_law_now w p r known
def roundL (w : W) (n : Nat) (p : Int) (rooms won : List Int) : List Int := itn (stepL w p (goodL w p rooms won)) n (goodL w p rooms won)
theorem round_facts (won : List Int) :
    (∀ i, RL n (itn (stepL w p (goodL w p rooms won)) i (goodL w p rooms won))) ∧ (∀ i, ∀ x ∈ itn (stepL w p (goodL w p rooms won)) i (goodL w p rooms won), x ∈ itn (stepL w p (goodL w p rooms won)) (i + 1) (goodL w p rooms won)) ∧
    ∀ i, ∀ x ∈ goodL w p rooms won, x ∈ itn (stepL w p (goodL w p rooms won)) i (goodL w p rooms won) := by
  have hl := h.len
  have g : RL n (goodL w p rooms won) := hr.sub List.filter_sublist
  have rl : ∀ i, RL n (itn (stepL w p (goodL w p rooms won)) i (goodL w p rooms won)) := fun i => by
    cases i with
    | zero => exact g
    | succ i =>
      show RL n ((rng (MP.len w.a)).filter _)
      rw [hl]; exact RL.filter _
  have gs : ∀ i, ∀ x ∈ goodL w p rooms won, x ∈ itn (stepL w p (goodL w p rooms won)) i (goodL w p rooms won) := fun i x hx => by
    cases i with
    | zero => exact hx
    | succ i =>
      show x ∈ (rng (MP.len w.a)).filter _
      rw [hl, List.mem_filter, mem_rng]
      exact ⟨g.st x hx, by simp [hx]⟩
  refine ⟨rl, fun i => ?_, gs⟩
  induction i with
  | zero => exact gs 1
  | succ i ih =>
    intro x hx
    have hx' : x ∈ (rng (MP.len w.a)).filter _ := hx
    show x ∈ (rng (MP.len w.a)).filter _
    rw [List.mem_filter] at hx' ⊢
    refine ⟨hx'.1, ?_⟩
    have := hx'.2
    rw [Bool.or_eq_true] at this ⊢
    rcases this with z | z
    · exact .inl z
    · refine .inr (law_now.mpr ((law_now.mp z).mono fun s _ hs => ih s hs))
theorem round_can (won : List Int) {x : Int} (h0 : 0 ≤ x) (h1 : x < n) (hx : Can w p x (· ∈ roundL w n p rooms won)) : x ∈ roundL w n p rooms won := by
  obtain ⟨rl, mono, _⟩ := round_facts h hp hr won
  have e := iter_fix rl mono
  unfold roundL at hx ⊢
  rw [← e]
  show x ∈ (rng (MP.len w.a)).filter _
  rw [h.len, List.mem_filter, mem_rng]
  exact ⟨⟨h0, h1⟩, by rw [Bool.or_eq_true]; exact .inr (law_now.mpr hx)⟩
/-- what a round leaves can be met again and again, if it leaves all -/
theorem round_bc (won : List Int) (hw : ∀ x ∈ won, x ∈ roundL w n p rooms won) : ∃ ρ, BC w n p (· ∈ rooms) (· ∈ roundL w n p rooms won) ρ := by
  obtain ⟨rl, mono, _⟩ := round_facts h hp hr won
  have up : ∀ i j, i ≤ j → ∀ x ∈ itn (stepL w p (goodL w p rooms won)) i (goodL w p rooms won), x ∈ itn (stepL w p (goodL w p rooms won)) j (goodL w p rooms won) := fun i j hij => by
    induction j with
    | zero => intro x hx; rwa [show i = 0 by omega] at hx
    | succ j ih =>
      intro x hx
      by_cases q : i = j + 1
      · rwa [q] at hx
      · exact mono j x (ih (by omega) x hx)
  classical
  obtain ⟨ρ, hρ⟩ : ∃ ρ : Int → Nat, ∀ x, (∃ i, x ∈ itn (stepL w p (goodL w p rooms won)) i (goodL w p rooms won)) → x ∈ itn (stepL w p (goodL w p rooms won)) (ρ x) (goodL w p rooms won) ∧ ∀ j, x ∈ itn (stepL w p (goodL w p rooms won)) j (goodL w p rooms won) → ρ x ≤ j := by
    refine ⟨fun x => if hx : ∃ i, x ∈ itn (stepL w p (goodL w p rooms won)) i (goodL w p rooms won) then Classical.choose (least_of hx) else 0, fun x hx => ?_⟩
    dsimp only
    rw [dif_pos hx]
    exact Classical.choose_spec (least_of hx)
  have hle : ∀ x i, x ∈ itn (stepL w p (goodL w p rooms won)) i (goodL w p rooms won) → ρ x ≤ i := fun x i hx => (hρ x ⟨i, hx⟩).2 i hx
  have hin : ∀ x, x ∈ roundL w n p rooms won → x ∈ itn (stepL w p (goodL w p rooms won)) (ρ x) (goodL w p rooms won) := fun x hx => (hρ x ⟨n, hx⟩).1
  refine ⟨ρ, fun r h0 h1 hS => ⟨fun z => ?_, fun z => ?_⟩⟩
  · have := hin r hS
    rw [z] at this
    obtain ⟨g1, g2⟩ := List.mem_filter.mp (show r ∈ rooms.filter _ from this)
    exact ⟨g1, (law_now.mp g2).mono fun s _ hs => hw s hs⟩
  · obtain ⟨i, hi⟩ : ∃ i, ρ r = i + 1 := ⟨ρ r - 1, by omega⟩
    have hm := hin r hS
    rw [hi] at hm
    have hm' := (List.mem_filter.mp (show r ∈ (rng (MP.len w.a)).filter _ from hm)).2
    rw [Bool.or_eq_true] at hm'
    rcases hm' with g | g
    · have := hle r 0 (of_decide_eq_true g)
      omega
    · refine (law_now.mp g).mono fun s _ hs => ?_
      have l1 := hle s i hs
      have l2 : ρ r ≤ n := hle r n hS
      exact ⟨up i n (by omega) s hs, by omega⟩
/-- a round takes away no room that can be met again and again -/
theorem round_keeps {R : List (Option Int)} {T : Tu} (A : Agn w n p (· ∈ rooms) R T) {won : List Int} (hw : ∀ r : Int, 0 ≤ r → r < n → (ix R r).isSome = true → r ∈ won) : ∀ r : Int, 0 ≤ r → r < n → (ix R r).isSome = true → r ∈ roundL w n p rooms won := by
  obtain ⟨rl, mono, gs⟩ := round_facts h hp hr won
  have key : ∀ (m : Nat) (r k : Int), 0 ≤ r → r < n → ix R r = some k → k ≤ m → r ∈ roundL w n p rooms won := by
    intro m
    induction m with
    | zero =>
      intro r k h0 h1 e hk
      have hn := A.nn r k h0 h1 e
      have : k = 0 := by omega
      subst this
      refine gs n r (List.mem_filter.mpr ⟨(A.zero r h0 h1 (by rw [e]; rfl)).mp e, law_now.mpr ?_⟩)
      exact (A.on r h0 h1 (by rw [e]; rfl)).mono fun s hs z => hw s (h.step h0 h1 hs).1 (h.step h0 h1 hs).2 z
    | succ m ih =>
      intro r k h0 h1 e hk
      by_cases q : k ≤ m
      · exact ih r k h0 h1 e q
      · refine round_can h hp hr won h0 h1 ((A.low r k h0 h1 e (by omega)).mono fun s hs z => ?_)
        obtain ⟨j, hj, ej⟩ := z
        exact ih s j (h.step h0 h1 hs).1 (h.step h0 h1 hs).2 ej (by omega)
  intro r h0 h1 e
  obtain ⟨k, hk⟩ := Option.isSome_iff_exists.mp e
  exact key k.toNat r k h0 h1 hk (by omega)
structure LA (w : W) (n : Nat) (p : Int) (rooms : List Int) (R : List (Option Int)) (s : Int × List Int) : Prop where
  rl : RL n s.2
  sub : ∀ r : Int, 0 ≤ r → r < n → (ix R r).isSome = true → r ∈ s.2
  last : s.1 = -1 ∨ ∃ l, RL n l ∧ s.1 = (l.length : Int) ∧ s.2 = l.filter fun r => decide (r ∈ roundL w n p rooms l)
theorem law_again_ok {R : List (Option Int)} {T : Tu} (A : Agn w n p (· ∈ rooms) R T) : s_law_again w p rooms ∧ m_law_again w p rooms = (rng (n : Int)).filter fun r => (ix R r).isSome := by
  have hl := h.len
  have n24 := h.n24
  have hrl := hr.len
  have fe : ∀ l : List Int, (rng (MP.len w.a)).foldl (t_law_again_2 w p (goodL w p rooms l)) (goodL w p rooms l) = roundL w n p rooms l := fun l => by
    rw [hl]
    exact fold_itn (F := stepL w p (goodL w p rooms l)) (fun _ _ => rfl) n _
  have et : ∀ s : Int × List Int, t_law_again_1 w p rooms s = ((s.2.length : Int), s.2.filter fun r => decide (r ∈ roundL w n p rooms s.2)) := fun s => by
    unfold t_law_again_1
    simp only [lt_eq]
    rw [show (rooms.filter fun room => m_law_now w p room s.2) = goodL w p rooms s.2 from rfl, fe]
    rfl
  have turn : ∀ s : Int × List Int, LA w n p rooms R s → c_law_again_1 w p rooms s = true → u_law_again_1 w p rooms s ∧ LA w n p rooms R (t_law_again_1 w p rooms s) ∧
      ((t_law_again_1 w p rooms s).2.length + (if (t_law_again_1 w p rooms s).1 = ((t_law_again_1 w p rooms s).2.length : Int) then 0 else 1)) < s.2.length + (if s.1 = (s.2.length : Int) then 0 else 1) := fun s hs hc => by
    have hc : s.1 ≠ (s.2.length : Int) := by
      intro e
      have : (!decide (s.1 = MP.len s.2)) = true := hc
      rw [show MP.len s.2 = (s.2.length : Int) from rfl, e] at this
      simp at this
    have hk := round_keeps h hp hr A hs.sub
    refine ⟨?_, ?_, ?_⟩
    · unfold u_law_again_1
      simp only [lt_eq]
      refine ⟨sz_le (by omega), fun r hx => s_law_now_ok h (hr.st r hx).1 (hr.st r hx).2, by rw [hl]; exact rgOk (by omega) (by omega), ?_, sz_le (by have := hs.rl.len; omega), trivial⟩
      rw [hl]
      refine foldS_rng (fun _ _ => True) trivial fun i hi s _ => ⟨⟨by rw [hl]; exact rgOk (by omega) (by omega), fun r hx _ => ?_, trivial⟩, trivial⟩
      rw [hl] at hx
      have := mem_rng.mp hx
      exact s_law_now_ok h this.1 this.2
    · rw [et]
      exact ⟨hs.rl.sub List.filter_sublist, fun r h0 h1 e => List.mem_filter.mpr ⟨hs.sub r h0 h1 e, by simpa using hk r h0 h1 e⟩, .inr ⟨s.2, hs.rl, rfl, rfl⟩⟩
    · rw [et]
      dsimp only
      rw [if_neg hc]
      have := List.length_filter_le (fun r => decide (r ∈ roundL w n p rooms s.2)) s.2
      split <;> omega
  have h0 : LA w n p rooms R ((-1 : Int), rng (n : Int)) := ⟨RL.rng n, fun r h0 h1 _ => mem_rng.mpr ⟨h0, h1⟩, .inl rfl⟩
  have bound : (rng (n : Int)).length + (if (-1 : Int) = ((rng (n : Int)).length : Int) then 0 else 1) < wmost := by
    rw [rng_length, wmost_eq]; split <;> omega
  have hS := whS_inv (sc := v_law_again_1 w p rooms) (c := c_law_again_1 w p rooms) (sf := u_law_again_1 w p rooms) (f := t_law_again_1 w p rooms) (LA w n p rooms R) (fun s => s.2.length + (if s.1 = (s.2.length : Int) then 0 else 1)) (fun s hs => ⟨trivial, fun hc => turn s hs hc⟩) h0 bound
  obtain ⟨fin, hc⟩ := whl_inv (c := c_law_again_1 w p rooms) (f := t_law_again_1 w p rooms) (LA w n p rooms R) (fun s => s.2.length + (if s.1 = (s.2.length : Int) then 0 else 1)) (fun s hs hc => (turn s hs hc).2) h0 bound
  constructor
  · unfold s_law_again
    simp only [lt_eq, hl]
    exact ⟨rgOk (by omega) (by omega), hS, trivial⟩
  · unfold m_law_again
    simp only [lt_eq, hl]
    obtain ⟨f, hf⟩ : ∃ f, f = whl (c_law_again_1 w p rooms) (t_law_again_1 w p rooms) wmost ((-1 : Int), rng (n : Int)) := ⟨_, rfl⟩
    rw [← hf] at fin hc ⊢
    have he : f.1 = (f.2.length : Int) := by
      have : (!decide (f.1 = MP.len f.2)) = false := hc
      simp at this
      exact this
    rcases fin.last with e | ⟨l, rl, e1, e2⟩
    · rw [e] at he; omega
    · have hlen : (l.filter fun r => decide (r ∈ roundL w n p rooms l)).length = l.length := by rw [← e2]; omega
      have hall := List.length_filter_eq_length_iff.mp hlen
      have e3 : f.2 = l := by rw [e2]; exact List.filter_eq_self.mpr hall
      obtain ⟨ρ, B⟩ := round_bc h hp hr l fun x hx => by simpa using hall x hx
      refine asc_ext fin.rl.asc ((rng_pair _).sublist List.filter_sublist) fun r => ?_
      rw [List.mem_filter, mem_rng]
      constructor
      · intro hx
        obtain ⟨x0, x1⟩ := fin.rl.st r hx
        rw [e3] at hx
        exact ⟨⟨x0, x1⟩, agn_sub h hp A B r x0 x1 (by simpa using hall r hx)⟩
      · rintro ⟨⟨x0, x1⟩, z⟩
        exact fin.sub r x0 x1 z
end
end Law

/-! Small defs of the laws about players. -/
namespace Law
open PySem PySem.Spec PyProof.Rows L2 MP
open MP.Enc (enc)
section
variable {w : W} {n : Nat} (h : Wok w n)
theorem has_ok {α : Type} {R : List (Option α)} : ((rng (MP.len R)).filter fun r => (ix R r).isSome) = (rng (R.length : Int)).filter fun r => (ix R r).isSome := rfl
theorem law_has_ok {R : List (Option Int)} (hR : R.length = n) (n24 : n ≤ 24) : s_law_has R ∧ m_law_has R = (rng (n : Int)).filter fun r => (ix R r).isSome := by
  have e : MP.len R = n := by show (R.length : Int) = n; rw [hR]
  constructor
  · refine ⟨by rw [e]; exact rgOk (by omega) (by omega), fun r hr => ?_, trivial⟩
    rw [e] at hr
    have := mem_rng.mp hr
    exact inR this.1 (by rw [hR]; exact this.2)
  · unfold m_law_has; rw [e]
theorem law_has_T_ok {R : Tu} (hR : R.length = n) (n24 : n ≤ 24) : s_law_has_T R ∧ m_law_has_T R = (rng (n : Int)).filter fun r => (ix R r).isSome := by
  have e : MP.len R = n := by show (R.length : Int) = n; rw [hR]
  constructor
  · refine ⟨by rw [e]; exact rgOk (by omega) (by omega), fun r hr => ?_, trivial⟩
    rw [e] at hr
    have := mem_rng.mp hr
    exact inR this.1 (by rw [hR]; exact this.2)
  · unfold m_law_has_T; rw [e]
include h
theorem law_beyond_ok {rooms : List Int} : s_law_beyond w rooms ∧ m_law_beyond w rooms = m_beyond w rooms ∧ m_law_beyond w rooms = (rng (n : Int)).filter fun r => !decide (r ∈ rooms) := by
  have := (beyond_ok h (rooms := rooms)).1
  refine ⟨this, rfl, ?_⟩
  unfold m_law_beyond; rw [h.len]
theorem law_rooms_ok (c : Int) : s_law_rooms_v2 c n ∧ RL n (m_law_rooms_v2 c n) := by
  have n24 := h.n24
  refine ⟨⟨rgOk (by omega) (by omega), fun r hr => ?_, trivial⟩, ?_⟩
  · have := mem_rng.mp hr
    exact s_draw (by omega) (by decide)
  · unfold m_law_rooms_v2; exact RL.filter _
end
theorem pl_draw (c k : Int) : Pl (m_law_draw c k 2) := by
  have := draw_rng c k (b := 2) (by decide)
  unfold Pl; omega
theorem filter_congr {α : Type} {l : List α} {p q : α → Bool} (h : ∀ x ∈ l, p x = q x) : l.filter p = l.filter q := List.filter_congr h
end Law

/-! Games: one world within another. -/
namespace Law
open PySem PySem.Spec PyProof.Rows L2 MP
open MP.Enc (enc)
structure Emb (w : W) (n : Nat) (p : Int) (w' : W) (n' : Nat) (p' : Int) (e : Int → Int) : Prop where
  val : ∀ r : Int, 0 ≤ r → r < n → 0 ≤ e r ∧ e r < n'
  inj : ∀ r s : Int, 0 ≤ r → r < n → 0 ≤ s → s < n → e r = e s → r = s
  can : ∀ r : Int, 0 ≤ r → r < n → ∀ Z : Int → Prop, (Can w p r fun s => Z (e s)) ↔ Can w' p' (e r) Z
  can2 : ∀ r : Int, 0 ≤ r → r < n → ∀ Z : Int → Prop, (Can w (1 - p) r fun s => Z (e s)) ↔ Can w' (1 - p') (e r) Z
theorem Emb.other {w w' : W} {n n' : Nat} {p p' : Int} {e : Int → Int} (E : Emb w n p w' n' p' e) : Emb w n (1 - p) w' n' (1 - p') e :=
  ⟨E.val, E.inj, E.can2, by rw [show 1 - (1 - p) = p by omega, show 1 - (1 - p') = p' by omega]; exact E.can⟩
section
variable {w w' : W} {n n' : Nat} {p p' : Int} {e : Int → Int}
theorem emb_ranks (h : Wok w n) (h' : Wok w' n') (E : Emb w n p w' n' p' e) {X X' : Int → Prop} (hX : ∀ r : Int, 0 ≤ r → r < n → (X r ↔ X' (e r))) {R R' : List (Option Int)} (B : Brg w n p X R) (B' : Brg w' n' p' X' R') :
    ∀ r : Int, 0 ≤ r → r < n → ix R r = ix R' (e r) := by
  have key : ∀ m : Nat, ∀ r : Int, 0 ≤ r → r < n → (ix R r = some (m : Int) ↔ ix R' (e r) = some (m : Int)) := by
    intro m
    induction m using Nat.strongRecOn with
    | _ m ih =>
      intro r h0 h1
      obtain ⟨v0, v1⟩ := E.val r h0 h1
      by_cases hm : m = 0
      · subst hm
        rw [show ((0 : Nat) : Int) = 0 from rfl, B.zero r h0 h1, B'.zero _ v0 v1, hX r h0 h1]
      · have low : ∀ b : Int, b ≤ m → ((Can w p r fun s => False ∨ ∃ j, j < b ∧ ix R s = some j) ↔ Can w' p' (e r) fun s => False ∨ ∃ j, j < b ∧ ix R' s = some j) := fun b hb => by
          rw [← E.can r h0 h1 fun s => False ∨ ∃ j, j < b ∧ ix R' s = some j]
          refine Can.congr fun s hs => ?_
          obtain ⟨s0, s1⟩ := h.step h0 h1 hs
          obtain ⟨t0, t1⟩ := E.val s s0 s1
          constructor
          · rintro (z | ⟨j, hj, ej⟩)
            · exact z.elim
            · have := B.nn s j s0 s1 ej
              refine .inr ⟨j, hj, ?_⟩
              have := (ih j.toNat (by omega) s s0 s1).mp (by rw [ej]; congr 1; omega)
              rw [this]; congr 1; omega
          · rintro (z | ⟨j, hj, ej⟩)
            · exact z.elim
            · have := B'.nn (e s) j t0 t1 ej
              refine .inr ⟨j, hj, ?_⟩
              have := (ih j.toNat (by omega) s s0 s1).mpr (by rw [ej]; congr 1; omega)
              rw [this]; congr 1; omega
        constructor
        · intro er
          have hc := (B.step r m h0 h1 er (by omega)).2
          have hc' := (low m (Int.le_refl _)).mp hc
          cases q : ix R' (e r) with
          | none => exact absurd (hc'.mono fun s _ z => by
              rcases z with z | ⟨j, _, ej⟩
              · exact .inl z
              · exact .inr (by rw [ej]; rfl)) (B'.full _ v0 v1 trivial q)
          | some m' =>
            have hn := B'.nn _ _ v0 v1 q
            by_cases lt1 : m' < m
            · have := (ih m'.toNat (by omega) r h0 h1).mpr (by rw [q]; congr 1; omega)
              rw [er] at this
              injection this with this
              omega
            · by_cases lt2 : (m : Int) < m'
              · refine absurd (hc'.mono fun s _ z => ?_) (B'.least _ _ v0 v1 q (by omega))
                rcases z with z | ⟨j, hj, ej⟩
                · exact .inl z
                · exact .inr ⟨j, by omega, ej⟩
              · congr 1; omega
        · intro er
          have hc' := (B'.step _ m v0 v1 er (by omega)).2
          have hc := (low m (Int.le_refl _)).mpr hc'
          cases q : ix R r with
          | none => exact absurd (hc.mono fun s _ z => by
              rcases z with z | ⟨j, _, ej⟩
              · exact .inl z
              · exact .inr (by rw [ej]; rfl)) (B.full _ h0 h1 trivial q)
          | some m' =>
            have hn := B.nn _ _ h0 h1 q
            by_cases lt1 : m' < m
            · have := (ih m'.toNat (by omega) r h0 h1).mp (by rw [q]; congr 1; omega)
              rw [er] at this
              injection this with this
              omega
            · by_cases lt2 : (m : Int) < m'
              · refine absurd (hc.mono fun s _ z => ?_) (B.least _ _ h0 h1 q (by omega))
                rcases z with z | ⟨j, hj, ej⟩
                · exact .inl z
                · exact .inr ⟨j, by omega, ej⟩
              · congr 1; omega
  intro r h0 h1
  obtain ⟨v0, v1⟩ := E.val r h0 h1
  cases q : ix R r with
  | some k =>
    have hn := B.nn r k h0 h1 q
    have := (key k.toNat r h0 h1).mp (by rw [q]; congr 1; omega)
    rw [this]; congr 1; omega
  | none =>
    cases q' : ix R' (e r) with
    | none => rfl
    | some k =>
      have hn := B'.nn _ _ v0 v1 q'
      have := (key k.toNat r h0 h1).mpr (by rw [q']; congr 1; omega)
      rw [q] at this; cases this
theorem emb_agn (h : Wok w n) (h' : Wok w' n') (hp : Pl p) (hp' : Pl p') (E : Emb w n p w' n' p' e) {X X' : Int → Prop} (hX : ∀ r : Int, 0 ≤ r → r < n → (X r ↔ X' (e r))) {R R' : List (Option Int)} {T T' : Tu} (A : Agn w n p X R T) (A' : Agn w' n' p' X' R' T') :
    ∀ r : Int, 0 ≤ r → r < n → (ix R r).isSome = (ix R' (e r)).isSome := by
  intro r h0 h1
  rw [Bool.eq_iff_iff]
  constructor
  · intro hs
    classical
    let im (s : Int) : Prop := ∃ r : Int, (0 ≤ r ∧ r < n) ∧ e r = s ∧ (ix R r).isSome = true
    let ρ : Int → Nat := fun s => if hs : im s then (uw (ix R (Classical.choose hs))).toNat else 0
    have hρ : ∀ r : Int, 0 ≤ r → r < n → (ix R r).isSome = true → ρ (e r) = (uw (ix R r)).toNat := fun r h0 h1 hs => by
      have hi : im (e r) := ⟨r, ⟨h0, h1⟩, rfl, hs⟩
      have e1 : ρ (e r) = (uw (ix R (Classical.choose hi))).toNat := dif_pos hi
      obtain ⟨⟨c0, c1⟩, c2, _⟩ := Classical.choose_spec hi
      rw [e1, E.inj _ r c0 c1 h0 h1 c2]
    refine agn_sub h' hp' A' (S := im) (ρ := ρ) (fun s s0 s1 hS => ?_) (e r) (E.val r h0 h1).1 (E.val r h0 h1).2 ⟨r, ⟨h0, h1⟩, rfl, hs⟩
    obtain ⟨t, ⟨t0, t1⟩, rfl, ht⟩ := hS
    obtain ⟨b1, b2⟩ := agn_bc h A t t0 t1 ht
    constructor
    · intro z
      rw [hρ t t0 t1 ht] at z
      obtain ⟨x1, x2⟩ := b1 z
      refine ⟨(hX t t0 t1).mp x1, (E.can t t0 t1 im).mp (x2.mono fun u hu z => ?_)⟩
      obtain ⟨u0, u1⟩ := h.step t0 t1 hu
      exact ⟨u, ⟨u0, u1⟩, rfl, z⟩
    · intro z
      rw [hρ t t0 t1 ht] at z ⊢
      refine (E.can t t0 t1 fun s => im s ∧ ρ s < (uw (ix R t)).toNat).mp ((b2 z).mono fun u hu z => ?_)
      obtain ⟨u0, u1⟩ := h.step t0 t1 hu
      exact ⟨⟨u, ⟨u0, u1⟩, rfl, z.1⟩, by rw [hρ u u0 u1 z.1]; exact z.2⟩
  · intro hs
    refine agn_sub h hp A (S := fun r => (ix R' (e r)).isSome = true) (ρ := fun r => (uw (ix R' (e r))).toNat) (fun t t0 t1 hS => ?_) r h0 h1 hs
    obtain ⟨v0, v1⟩ := E.val t t0 t1
    obtain ⟨b1, b2⟩ := agn_bc h' A' (e t) v0 v1 hS
    exact ⟨fun z => ⟨(hX t t0 t1).mpr (b1 z).1, (E.can t t0 t1 fun s => (ix R' s).isSome = true).mpr (b1 z).2⟩, fun z => (E.can t t0 t1 fun s => (ix R' s).isSome = true ∧ (uw (ix R' s)).toNat < (uw (ix R' (e t))).toNat).mpr (b2 z)⟩
theorem emb_kept (h : Wok w n) (h' : Wok w' n') (E : Emb w n p w' n' p' e) {X X' : Int → Prop} (hX : ∀ r : Int, 0 ≤ r → r < n → (X r ↔ X' (e r))) {K K' : List Int} {P R Q P' R' Q' : List (Option Int)} (B : Kept w n p X K P R Q) (B' : Kept w' n' p' X' K' P' R' Q') :
    ∀ r : Int, 0 ≤ r → r < n → (r ∈ K ↔ e r ∈ K') := by
  intro r h0 h1
  obtain ⟨v0, v1⟩ := E.val r h0 h1
  rw [B.mem r h0 h1, B'.mem _ v0 v1, emb_ranks h h' E.other (X := fun r => ¬ X r) (X' := fun r => ¬ X' r) (fun r h0 h1 => by rw [hX r h0 h1]) B.ranks B'.ranks r h0 h1]
/-- by steps and owners -/
theorem emb_of (val : ∀ r : Int, 0 ≤ r → r < n → 0 ≤ e r ∧ e r < n') (inj : ∀ r s : Int, 0 ≤ r → r < n → 0 ≤ s → s < n → e r = e s → r = s)
    (own : ∀ r : Int, 0 ≤ r → r < n → (ix w.a r = p ↔ ix w'.a (e r) = p')) (own2 : ∀ r : Int, 0 ≤ r → r < n → (ix w.a r = 1 - p ↔ ix w'.a (e r) = 1 - p'))
    (st : ∀ r t : Int, 0 ≤ r → r < n → (t ∈ ix w'.c (e r) ↔ ∃ s ∈ ix w.c r, t = e s)) : Emb w n p w' n' p' e := by
  have gen : ∀ (p p' : Int), (∀ r : Int, 0 ≤ r → r < n → (ix w.a r = p ↔ ix w'.a (e r) = p')) → ∀ r : Int, 0 ≤ r → r < n → ∀ Z : Int → Prop, (Can w p r fun s => Z (e s)) ↔ Can w' p' (e r) Z := fun p p' ho r h0 h1 Z => by
    unfold Can
    have := ho r h0 h1
    constructor
    · rintro (⟨a, s, hs, z⟩ | ⟨a, z⟩)
      · exact .inl ⟨this.mp a, e s, (st r _ h0 h1).mpr ⟨s, hs, rfl⟩, z⟩
      · refine .inr ⟨fun q => a (this.mpr q), fun t ht => ?_⟩
        obtain ⟨s, hs, rfl⟩ := (st r t h0 h1).mp ht
        exact z s hs
    · rintro (⟨a, t, ht, z⟩ | ⟨a, z⟩)
      · obtain ⟨s, hs, rfl⟩ := (st r t h0 h1).mp ht
        exact .inl ⟨this.mpr a, s, hs, z⟩
      · exact .inr ⟨fun q => a (this.mp q), fun s hs => z _ ((st r _ h0 h1).mpr ⟨s, hs, rfl⟩)⟩
  exact ⟨val, inj, gen p p' own, gen (1 - p) (1 - p') own2⟩
end
end Law

/-! Worlds renamed and handed over. -/
namespace Law
open PySem PySem.Spec PyProof.Rows L2 MP
open MP.Enc (enc)
/-- each room once -/
def Ord (n : Nat) (l : List Int) : Prop := l.Perm (rng (n : Int))
section
variable {n : Nat} {l : List Int} (o : Ord n l)
include o
theorem Ord.len : l.length = n := by have := o.length_eq; rw [rng_length] at this; omega
theorem Ord.mem {x : Int} : x ∈ l ↔ 0 ≤ x ∧ x < n := by rw [o.mem_iff, mem_rng]
theorem Ord.nodup : l.Nodup := o.nodup_iff.mpr ((rng_pair _).imp fun h => by omega)
theorem Ord.at_ {k : Int} (h0 : 0 ≤ k) (h1 : k < n) : 0 ≤ ix l k ∧ ix l k < n := o.mem.mp (ix_in h0 (by rw [o.len]; exact h1))
theorem Ord.inj {j k : Int} (h0 : 0 ≤ j) (h1 : j < n) (g0 : 0 ≤ k) (g1 : k < n) (e : ix l j = ix l k) : j = k := by
  rw [ix_at h0 (by rw [o.len]; exact h1), ix_at g0 (by rw [o.len]; exact g1)] at e
  have := (List.getElem_inj o.nodup).mp e
  omega
theorem Ord.idx {x : Int} (h0 : 0 ≤ x) (h1 : x < n) : (0 : Int) ≤ (l.idxOf x : Nat) ∧ ((l.idxOf x : Nat) : Int) < n ∧ ix l ((l.idxOf x : Nat) : Int) = x := by
  have hm : x ∈ l := o.mem.mpr ⟨h0, h1⟩
  have hlt := List.idxOf_lt_length_of_mem hm
  refine ⟨by omega, by rw [o.len] at hlt; omega, ?_⟩
  rw [ix_nat hlt]
  exact List.getElem_idxOf hlt
theorem Ord.sort : sortI l = rng (n : Int) := (sortI_of o.symm ((rng_pair _).imp fun h => by omega)).symm
end
theorem sort_perm (l : List Int) : (sortI l).Perm l := List.mergeSort_perm _ _
theorem sort_asc {l : List Int} (h : l.Nodup) : (sortI l).Pairwise (· < ·) := by
  have h1 : (sortI l).Pairwise (fun a b => decide (a ≤ b) = true) := List.pairwise_mergeSort (le := fun a b : Int => decide (a ≤ b)) (fun a b c h1 h2 => by simp at *; omega) (fun a b => by simp; omega) l
  have h2 : (sortI l).Nodup := (sort_perm l).nodup_iff.mpr h
  exact (h1.and h2).imp fun {a b} ⟨x, y⟩ => by simp at x; omega
section
variable {w : W} {n : Nat} (h : Wok w n)
include h
theorem handed_ok : s_handed_over w ∧ ∃ w', m_handed_over w = .ok w' ∧ Wok w' n ∧ ∀ p, Pl p → Emb w n p w' n (1 - p) id := by
  obtain ⟨a, b⟩ := ask_world_ok h
  have n24 := h.n24
  have sz : ∀ {α : Type} {l : List α}, l.length = n → Sz l := fun e => sz_le (by omega)
  constructor
  · refine ⟨a, fun _ _ => ⟨⟨sz h.lb, sz h.lc, trivial⟩, ?_⟩⟩
    rw [lt_eq]
    exact ⟨sz h.la, trivial⟩
  · obtain ⟨w', hw'⟩ : ∃ w' : W, w' = ⟨w.a.map fun o => 1 - o, w.b, w.c⟩ := ⟨_, rfl⟩
    have ea : ∀ r : Int, 0 ≤ r → r < n → ix w'.a r = 1 - ix w.a r := fun r h0 h1 => by
      rw [hw']; exact ix_map h0 (by rw [h.la]; exact h1)
    refine ⟨w', ?_, ?_, fun p hp => ?_⟩
    · unfold m_handed_over m_copy_of
      rw [b, hw']
      simp only [els, lt_eq, List.map_id']
    · rw [hw']
      refine ⟨by simp [h.la], h.lb, h.lc, h.n1, h.n24, fun x hx => ?_, h.mks, h.ne, h.st, h.asc⟩
      obtain ⟨y, hy, rfl⟩ := List.mem_map.mp hx
      have := h.ow y hy
      omega
    · refine emb_of (fun r h0 h1 => ⟨h0, h1⟩) (fun r s _ _ _ _ e => e) (fun r h0 h1 => ?_) (fun r h0 h1 => ?_) (fun r t h0 h1 => ?_)
      · show _ ↔ ix w'.a r = 1 - p
        rw [ea r h0 h1]; omega
      · show _ ↔ ix w'.a r = 1 - (1 - p)
        rw [ea r h0 h1]; omega
      · rw [hw']
        simp
theorem renamed_ok {l : List Int} (o : Ord n l) : s_renamed w l ∧ ∃ w', m_renamed w l = .ok w' ∧ Wok w' n ∧ (∀ k : Int, 0 ≤ k → k < n → ix w'.b k = ix w.b (ix l k)) ∧ ∀ p, Emb w' n p w n p (ix l) := by
  obtain ⟨a, b⟩ := ask_world_ok h
  have n24 := h.n24
  have hl := h.len
  have ll := o.len
  have szl : Sz l := sz_le (by omega)
  obtain ⟨g, hg⟩ : ∃ g : Int → List Int, g = fun r => sortI ((ix w.c r).map fun t => ((l.idxOf t : Nat) : Int)) := ⟨_, rfl⟩
  obtain ⟨w', hw'⟩ : ∃ w' : W, w' = ⟨l.map fun r => ix w.a r, l.map fun r => ix w.b r, l.map g⟩ := ⟨_, rfl⟩
  have ea : ∀ k : Int, 0 ≤ k → k < n → ix w'.a k = ix w.a (ix l k) := fun k h0 h1 => by rw [hw']; exact ix_map h0 (by rw [ll]; exact h1)
  have eb : ∀ k : Int, 0 ≤ k → k < n → ix w'.b k = ix w.b (ix l k) := fun k h0 h1 => by rw [hw']; exact ix_map h0 (by rw [ll]; exact h1)
  have ec : ∀ k : Int, 0 ≤ k → k < n → ix w'.c k = g (ix l k) := fun k h0 h1 => by rw [hw']; exact ix_map h0 (by rw [ll]; exact h1)
  have mg : ∀ r t : Int, 0 ≤ r → r < n → (t ∈ g r ↔ ∃ s ∈ ix w.c r, ((l.idxOf s : Nat) : Int) = t) := fun r t h0 h1 => by
    rw [hg]
    dsimp only
    rw [(sort_perm _).mem_iff, List.mem_map]
  have inj : ∀ s t : Int, 0 ≤ s → s < n → 0 ≤ t → t < n → ((l.idxOf s : Nat) : Int) = ((l.idxOf t : Nat) : Int) → s = t := fun s t s0 s1 t0 t1 e => by
    have h1 := (o.idx s0 s1).2.2
    have h2 := (o.idx t0 t1).2.2
    rw [e, h2] at h1; exact h1.symm
  constructor
  · refine ⟨a, fun _ _ => ⟨by omega, h.rg, fun _ => ?_⟩⟩
    have v : ∀ r ∈ l, 0 ≤ r ∧ r < (n : Int) := fun r hr => o.mem.mp hr
    simp only [lt_eq]
    refine ⟨szl, fun r hr => h.ia (v r hr).1 (v r hr).2, szl, fun r hr => h.ib (v r hr).1 (v r hr).2, szl, fun r hr => h.ic (v r hr).1 (v r hr).2, fun r hr => h.szc (v r hr).1 (v r hr).2, fun r hr t ht => o.mem.mpr (h.step (v r hr).1 (v r hr).2 ht), fun r hr => ?_, trivial⟩
    rw [List.length_map]
    have := h.rlen (v r hr).1 (v r hr).2
    omega
  · refine ⟨w', ?_, ?_, eb, fun p => ?_⟩
    · unfold m_renamed
      rw [b]
      simp only [els, lt_eq, hl, o.sort]
      rw [if_neg (by simp), hw', hg]
    · have hmem : ∀ r ∈ w'.c, ∃ k : Int, 0 ≤ k ∧ k < n ∧ r = g (ix l k) := fun r hr => by
        rw [hw'] at hr
        obtain ⟨x, hx, rfl⟩ := List.mem_map.mp hr
        obtain ⟨k, k0, k1, rfl⟩ := mem_ix hx
        exact ⟨k, k0, by rw [ll] at k1; exact k1, rfl⟩
      refine ⟨by rw [hw']; simp [ll], by rw [hw']; simp [ll], by rw [hw']; simp [ll], h.n1, h.n24, fun x hx => ?_, fun x hx => ?_, fun r hr => ?_, fun r hr x hx => ?_, fun r hr => ?_⟩
      · rw [hw'] at hx
        obtain ⟨r, hr, rfl⟩ := List.mem_map.mp hx
        exact h.own (o.mem.mp hr).1 (o.mem.mp hr).2
      · rw [hw'] at hx
        obtain ⟨r, hr, rfl⟩ := List.mem_map.mp hx
        exact h.mks _ (ix_in (o.mem.mp hr).1 (by rw [h.lb]; exact (o.mem.mp hr).2))
      · obtain ⟨k, k0, k1, rfl⟩ := hmem r hr
        obtain ⟨v0, v1⟩ := o.at_ k0 k1
        have hne := h.ne _ (h.row v0 v1)
        obtain ⟨s, hs⟩ := List.exists_mem_of_ne_nil _ hne
        intro e
        have : ((l.idxOf s : Nat) : Int) ∈ g (ix l k) := (mg _ _ v0 v1).mpr ⟨s, hs, rfl⟩
        rw [e] at this; cases this
      · obtain ⟨k, k0, k1, rfl⟩ := hmem r hr
        obtain ⟨v0, v1⟩ := o.at_ k0 k1
        obtain ⟨s, hs, rfl⟩ := (mg _ _ v0 v1).mp hx
        have := o.idx (h.step v0 v1 hs).1 (h.step v0 v1 hs).2
        exact ⟨this.1, this.2.1⟩
      · obtain ⟨k, k0, k1, rfl⟩ := hmem r hr
        obtain ⟨v0, v1⟩ := o.at_ k0 k1
        rw [hg]
        refine sort_asc ?_
        unfold List.Nodup
        rw [List.pairwise_map]
        refine (List.pairwise_iff_forall_sublist.mpr fun {x y} hxy => ?_ : (ix w.c (ix l k)).Pairwise _)
        intro e
        have hx : x ∈ ix w.c (ix l k) := hxy.subset (by simp)
        have hy : y ∈ ix w.c (ix l k) := hxy.subset (by simp)
        have := List.pairwise_iff_forall_sublist.mp (h.asc _ (h.row v0 v1)) hxy
        have := inj x y (h.step v0 v1 hx).1 (h.step v0 v1 hx).2 (h.step v0 v1 hy).1 (h.step v0 v1 hy).2 e
        omega
    · refine emb_of (fun k k0 k1 => o.at_ k0 k1) (fun j k j0 j1 k0 k1 e => o.inj j0 j1 k0 k1 e) (fun k k0 k1 => by rw [ea k k0 k1]) (fun k k0 k1 => by rw [ea k k0 k1]) fun k t k0 k1 => ?_
      obtain ⟨v0, v1⟩ := o.at_ k0 k1
      rw [ec k k0 k1]
      constructor
      · intro ht
        obtain ⟨t0, t1⟩ := h.step v0 v1 ht
        exact ⟨_, (mg _ _ v0 v1).mpr ⟨t, ht, rfl⟩, (o.idx t0 t1).2.2.symm⟩
      · rintro ⟨s, hs, rfl⟩
        obtain ⟨u, hu, rfl⟩ := (mg _ _ v0 v1).mp hs
        rw [(o.idx (h.step v0 v1 hu).1 (h.step v0 v1 hu).2).2.2]
        exact hu
end
end Law

/-! Fair rooms. -/
namespace Law
open PySem PySem.Spec PyProof.Rows L2 MP
open MP.Enc (enc)
theorem foldl_pre {α σ : Type} (I : List α → σ → Prop) {f : σ → α → σ} : ∀ {l d : List α} {s : σ}, I d s → (∀ d x s, x ∈ l → I d s → I (d ++ [x]) (f s x)) → I (d ++ l) (l.foldl f s)
  | [], d, s, h, _ => by simpa using h
  | x :: l, d, s, h, hs => by
    have := foldl_pre I (l := l) (hs d x s List.mem_cons_self h) fun d y s hy => hs d y s (List.mem_cons_of_mem _ hy)
    simpa using this
theorem foldS_pre {α σ : Type} (I : List α → σ → Prop) {safe : σ → α → Prop} {f : σ → α → σ} : ∀ {l d : List α} {s : σ}, I d s → (∀ d x s, x ∈ l → I d s → safe s x ∧ I (d ++ [x]) (f s x)) → foldS safe f l s
  | [], _, _, _, _ => trivial
  | x :: l, d, s, h, hs => by
    obtain ⟨a, b⟩ := hs d x s List.mem_cons_self h
    exact ⟨a, foldS_pre I (l := l) b fun d y s hy => hs d y s (List.mem_cons_of_mem _ hy)⟩
theorem len_split {α : Type} (p : α → Bool) : ∀ l : List α, (l.filter p).length + (l.filter fun x => !p x).length = l.length
  | [] => rfl
  | x :: l => by
    have := len_split p l
    rw [List.filter_cons, List.filter_cons]
    cases p x <;> simp <;> omega
/-- rooms from which some are reached within some -/
inductive Rg (w : W) (K G : Int → Prop) : Int → Prop
  | here {r : Int} : K r → G r → Rg w K G r
  | step {r s : Int} : K r → s ∈ ix w.c r → Rg w K G s → Rg w K G r
theorem Rg.k {w : W} {K G : Int → Prop} {r : Int} (h : Rg w K G r) : K r := by cases h <;> assumption
theorem Rg.mono {w : W} {n : Nat} (hw : Wok w n) {K G K' G' : Int → Prop} (hk : ∀ r : Int, 0 ≤ r → r < n → K r → K' r) (hg : ∀ r : Int, 0 ≤ r → r < n → G r → G' r) {r : Int} (h : Rg w K G r) : 0 ≤ r → r < n → Rg w K' G' r := by
  induction h with
  | here a b => exact fun h0 h1 => .here (hk _ h0 h1 a) (hg _ h0 h1 b)
  | step a b _ ih => exact fun h0 h1 => .step (hk _ h0 h1 a) b (ih (hw.step h0 h1 b).1 (hw.step h0 h1 b).2)
/-- rooms that are fair together -/
def FC (w : W) (n : Nat) (X : Int → Prop) (marks : List Tx) (S : Int → Prop) : Prop :=
  ∀ r : Int, 0 ≤ r → r < n → S r → X r ∧ (∃ s ∈ ix w.c r, S s) ∧ ∀ m ∈ marks, Rg w S (fun r => m ∈ ix w.b r) r
structure Fair (w : W) (n : Nat) (X : Int → Prop) (marks : List Tx) (K : List Int) : Prop where
  rl : RL n K
  fc : FC w n X marks (· ∈ K)
  all : ∀ S : Int → Prop, FC w n X marks S → ∀ r : Int, 0 ≤ r → r < n → S r → r ∈ K
section
variable {w : W} {n : Nat} (h : Wok w n) {K : List Int} (hK : RL n K)
include h
theorem inner_ok : s_inner w K ∧ (m_inner w K).length = n ∧ ∀ r : Int, 0 ≤ r → r < n → ix (m_inner w K) r = (ix w.c r).filter fun t => decide (r ∈ K) && decide (t ∈ K) := by
  have hl := h.len
  have n24 := h.n24
  have ht : ∀ s r, t_inner_1 w K s r = s ++ [(ix w.c r).filter fun t => decide (r ∈ K) && decide (t ∈ K)] := fun _ _ => rfl
  have e : m_inner w K = (rng (n : Int)).map fun r => (ix w.c r).filter fun t => decide (r ∈ K) && decide (t ∈ K) := by
    unfold m_inner
    simp only [lt_eq, hl]
    rw [fold_app ht]; simp
  refine ⟨?_, by rw [e, List.length_map, rng_length]; omega, fun r h0 h1 => by rw [e, ix_maprng h0 h1]⟩
  unfold s_inner
  simp only [lt_eq, hl]
  refine ⟨rgOk (by omega) (by omega), foldS_rng (fun i s => s.length = i) rfl fun i hi s hs => ⟨⟨h.ic (by omega) (by omega), h.szc (by omega) (by omega), by unfold Sz1; omega, trivial⟩, by rw [ht]; simp [hs]⟩, trivial⟩
include hK
structure LdI (w : W) (K : List Int) (G : Int → Prop) (s : List Int × Bool) : Prop where
  nd : s.1.Nodup
  sub : ∀ r ∈ s.1, r ∈ K
  rg : ∀ r ∈ s.1, Rg w (· ∈ K) G r
  base : ∀ r ∈ K, G r → r ∈ s.1
  cnt : s.1.length + (K.filter fun r => !decide (r ∈ s.1)).length = K.length
  fin : s.2 = false → ∀ r ∈ K, r ∉ s.1 → ∀ t ∈ ix w.c r, t ∉ s.1
theorem leading_ok (goal : List Int) : s_leading (m_inner w K) K goal ∧ RL n (m_leading (m_inner w K) K goal) ∧ ∀ r : Int, r ∈ m_leading (m_inner w K) K goal ↔ Rg w (· ∈ K) (· ∈ goal) r := by
  obtain ⟨_, il, ix_⟩ := inner_ok h (K := K)
  have n24 := h.n24
  have kl := hK.len
  have knd : K.Nodup := hK.asc.imp fun h => by omega
  have turn : ∀ s : List Int × Bool, LdI w K (· ∈ goal) s → c_leading_1 (m_inner w K) K s = true → u_leading_1 (m_inner w K) K s ∧ LdI w K (· ∈ goal) (t_leading_1 (m_inner w K) K s) ∧
      ((K.filter fun r => !decide (r ∈ (t_leading_1 (m_inner w K) K s).1)).length + if (t_leading_1 (m_inner w K) K s).2 = true then 1 else 0) < ((K.filter fun r => !decide (r ∈ s.1)).length + if s.2 = true then 1 else 0) := fun s hs hc => by
    have hc : s.2 = true := hc
    obtain ⟨new, hnew⟩ : ∃ new, new = K.filter fun r => !decide (r ∈ s.1) && decide (0 < MP.len ((ix (m_inner w K) r).filter fun t => decide (t ∈ s.1))) := ⟨_, rfl⟩
    have et : t_leading_1 (m_inner w K) K s = (s.1 ++ new, decide (0 < MP.len new)) := by
      unfold t_leading_1
      simp only [lt_eq, ← hnew]
    have mn : ∀ r, r ∈ new ↔ r ∈ K ∧ r ∉ s.1 ∧ ∃ t ∈ ix w.c r, t ∈ s.1 := fun r => by
      rw [hnew, List.mem_filter, Bool.and_eq_true]
      constructor
      · rintro ⟨a, b, c⟩
        obtain ⟨r0, r1⟩ := hK.st r a
        have c := of_decide_eq_true c
        unfold MP.len at c
        rw [Int.natCast_pos, filter_pos] at c
        obtain ⟨t, t1, t2⟩ := c
        rw [ix_ r r0 r1] at t1
        exact ⟨a, by simpa using b, t, (List.mem_filter.mp t1).1, by simpa using t2⟩
      · rintro ⟨a, b, t, t1, t2⟩
        obtain ⟨r0, r1⟩ := hK.st r a
        refine ⟨a, by simpa using b, decide_eq_true ?_⟩
        unfold MP.len
        rw [Int.natCast_pos, filter_pos]
        exact ⟨t, by rw [ix_ r r0 r1]; exact List.mem_filter.mpr ⟨t1, by simp [a, hs.sub t t2]⟩, by simpa using t2⟩
    have hcnt : new.length + (K.filter fun r => !decide (r ∈ s.1 ++ new)).length = (K.filter fun r => !decide (r ∈ s.1)).length := by
      have := len_split (fun r => decide (r ∈ new)) (K.filter fun r => !decide (r ∈ s.1))
      rw [← this, List.filter_filter, List.filter_filter]
      congr 1
      · have : (K.filter fun r => decide (r ∈ new) && !decide (r ∈ s.1)) = new := by
          refine asc_ext (hK.asc.sublist List.filter_sublist) (by rw [hnew]; exact hK.asc.sublist List.filter_sublist) fun x => ?_
          rw [List.mem_filter]
          constructor
          · rintro ⟨_, z⟩
            rw [Bool.and_eq_true] at z
            simpa using z.1
          · intro z
            have := (mn x).mp z
            exact ⟨this.1, by simp [z, this.2.1]⟩
        rw [this]
      · congr 1
        refine List.filter_congr fun x _ => ?_
        simp only [List.mem_append]
        by_cases a : x ∈ s.1 <;> by_cases b : x ∈ new <;> simp [a, b]
    have hsl := hs.cnt
    refine ⟨?_, ?_, ?_⟩
    · unfold u_leading_1
      simp only [lt_eq, ← hnew]
      refine ⟨sz_le (by omega), fun r hr _ => inR (hK.st r hr).1 (by rw [il]; exact (hK.st r hr).2), fun r hr _ => ?_, sz_le (by rw [List.length_append]; omega), trivial⟩
      obtain ⟨r0, r1⟩ := hK.st r hr
      rw [ix_ r r0 r1]
      have := List.length_filter_le (fun t => decide (r ∈ K) && decide (t ∈ K)) (ix w.c r)
      have := h.rlen r0 r1
      exact sz_le (by omega)
    · rw [et]
      refine ⟨?_, fun r hr => ?_, fun r hr => ?_, fun r hr hg => List.mem_append.mpr (.inl (hs.base r hr hg)), by dsimp only; rw [List.length_append]; omega, fun hf r hr hn t ht => ?_⟩
      · rw [List.nodup_append]
        refine ⟨hs.nd, by rw [hnew]; exact knd.sublist List.filter_sublist, fun a ha b hb e => ?_⟩
        subst e
        exact ((mn a).mp hb).2.1 ha
      · rcases List.mem_append.mp hr with z | z
        · exact hs.sub r z
        · exact ((mn r).mp z).1
      · rcases List.mem_append.mp hr with z | z
        · exact hs.rg r z
        · obtain ⟨a, _, t, t1, t2⟩ := (mn r).mp z
          exact .step a t1 (hs.rg t t2)
      · have hf := of_decide_eq_false hf
        unfold MP.len at hf
        have hne : new = [] := List.length_eq_zero_iff.mp (by omega)
        dsimp only at hn ⊢
        rw [hne, List.append_nil] at hn ⊢
        intro htm
        have : r ∈ new := (mn r).mpr ⟨hr, hn, t, ht, htm⟩
        rw [hne] at this; cases this
    · rw [et]
      dsimp only
      rw [if_pos hc]
      by_cases q : 0 < MP.len new
      · rw [if_pos (decide_eq_true q)]
        unfold MP.len at q
        omega
      · rw [if_neg (by simpa using q)]
        omega
  have h0 : LdI w K (· ∈ goal) (K.filter (fun r => decide (r ∈ goal)), true) := by
    refine ⟨knd.sublist List.filter_sublist, fun r hr => (List.mem_filter.mp hr).1, fun r hr => ?_, fun r hr hg => List.mem_filter.mpr ⟨hr, decide_eq_true hg⟩, ?_, nofun⟩
    · obtain ⟨a, b⟩ := List.mem_filter.mp hr
      exact .here a (of_decide_eq_true b)
    · dsimp only
      rw [← len_split (fun r => decide (r ∈ goal)) K]
      congr 2
      refine List.filter_congr fun x hx => ?_
      simp [hx]
  have bound : ((K.filter fun r => !decide (r ∈ K.filter (fun r => decide (r ∈ goal)))).length + if true = true then 1 else 0) < wmost := by
    have := List.length_filter_le (fun r => !decide (r ∈ K.filter (fun r => decide (r ∈ goal)))) K
    rw [wmost_eq, if_pos rfl]; omega
  have hS := whS_inv (sc := v_leading_1 (m_inner w K) K) (c := c_leading_1 (m_inner w K) K) (sf := u_leading_1 (m_inner w K) K) (f := t_leading_1 (m_inner w K) K) (LdI w K (· ∈ goal)) (fun s : List Int × Bool => (K.filter fun r => !decide (r ∈ s.1)).length + if s.2 = true then 1 else 0) (fun s hs => ⟨trivial, fun hc => turn s hs hc⟩) h0 bound
  obtain ⟨fin, hc⟩ := whl_inv (c := c_leading_1 (m_inner w K) K) (f := t_leading_1 (m_inner w K) K) (LdI w K (· ∈ goal)) (fun s : List Int × Bool => (K.filter fun r => !decide (r ∈ s.1)).length + if s.2 = true then 1 else 0) (fun s hs hc => (turn s hs hc).2) h0 bound
  have hc : _ = false := hc
  obtain ⟨f, hf⟩ : ∃ f, f = whl (c_leading_1 (m_inner w K) K) (t_leading_1 (m_inner w K) K) wmost (K.filter (fun r => decide (r ∈ goal)), true) := ⟨_, rfl⟩
  rw [← hf] at fin hc
  have em : m_leading (m_inner w K) K goal = sortI f.1 := by
    unfold m_leading
    simp only [lt_eq, ← hf]
  refine ⟨?_, ?_, fun r => ?_⟩
  · unfold s_leading
    simp only [lt_eq, ← hf]
    exact ⟨sz_le (by omega), hS, by have := fin.cnt; omega, trivial⟩
  · rw [em]
    exact ⟨fun x hx => hK.st x (fin.sub x ((sort_perm _).mem_iff.mp hx)), sort_asc fin.nd⟩
  · rw [em, (sort_perm _).mem_iff]
    constructor
    · exact fin.rg r
    · intro hr
      induction hr with
      | here a b => exact fin.base _ a b
      | @step r s a b c ih =>
        by_cases q : r ∈ f.1
        · exact q
        · exact absurd ih (fin.fin hc r a q s b)
omit hK in
/-- the loop's state -/
structure TkI (w : W) (n : Nat) (rooms : List Int) (marks : List Tx) (s : Bool × List Int × List (T2 (List Int) (Option Tx))) : Prop where
  rl : RL n s.2.1
  sub : ∀ r ∈ s.2.1, r ∈ rooms
  all : ∀ S : Int → Prop, FC w n (· ∈ rooms) marks S → ∀ r : Int, 0 ≤ r → r < n → S r → r ∈ s.2.1
  cnt : s.2.2.length + s.2.1.length ≤ rooms.length
  fin : s.1 = false → FC w n (· ∈ rooms) marks (· ∈ s.2.1)
/-- within the loop over the marks -/
structure TmI (w : W) (n : Nat) (rooms : List Int) (marks : List Tx) (K0 : List Int) (m0 : Bool) (done : List Tx) (s : (List (List Int)) × (List Int) × Bool × (List (T2 (List Int) (Option Tx)))) : Prop where
  rl : RL n s.2.1
  sub : ∀ r ∈ s.2.1, r ∈ K0
  all : ∀ S : Int → Prop, FC w n (· ∈ rooms) marks S → (∀ r : Int, 0 ≤ r → r < n → S r → r ∈ K0) → ∀ r : Int, 0 ≤ r → r < n → S r → r ∈ s.2.1
  cnt : s.2.2.2.length + s.2.1.length ≤ rooms.length
  less : s.2.2.1 = true → m0 = true ∨ s.2.1.length < K0.length
  same : s.2.2.1 = false → m0 = false ∧ s.2.1 = K0 ∧ ∀ m ∈ done, ∀ r ∈ K0, Rg w (· ∈ K0) (fun r => m ∈ ix w.b r) r
omit hK in
theorem taken_off_ok {rooms : List Int} {marks : List Tx} (hr : RL n rooms) : s_taken_off w rooms marks ∧ Fair w n (· ∈ rooms) marks (m_taken_off w rooms marks).b := by
  have n24 := h.n24
  have rl0 := hr.len
  have mark : ∀ (K0 : List Int) (m0 : Bool) (done : List Tx) (x : Tx) (s : (List (List Int)) × (List Int) × Bool × (List (T2 (List Int) (Option Tx)))), x ∈ marks → TmI w n rooms marks K0 m0 done s → u_taken_off_2 w s x ∧ TmI w n rooms marks K0 m0 (done ++ [x]) (t_taken_off_2 w s x) := fun K0 m0 done x s hx hs => by
    obtain ⟨st, K, more, rows⟩ := s
    obtain ⟨rl, sub, all, cnt, less, same⟩ := hs
    dsimp only at rl sub all cnt less same
    have kl := rl.len
    obtain ⟨si, il, _⟩ := inner_ok h (K := K)
    obtain ⟨goal, hgoal⟩ : ∃ goal, goal = K.filter fun r => decide (x ∈ ix w.b r) := ⟨_, rfl⟩
    obtain ⟨sl, nrl, nm⟩ := leading_ok h rl goal
    obtain ⟨near, hnear⟩ : ∃ near, near = m_leading (m_inner w K) K goal := ⟨_, rfl⟩
    rw [← hnear] at nrl nm
    obtain ⟨far, hfar⟩ : ∃ far, far = K.filter fun r => !decide (r ∈ near) := ⟨_, rfl⟩
    have nK : ∀ r ∈ near, r ∈ K := fun r hr => (nm r).mp hr |>.k
    have hsplit : near.length + far.length = K.length := by
      have := len_split (fun r => decide (r ∈ near)) K
      rw [← this, hfar]
      congr 2
      exact asc_ext nrl.asc (rl.asc.sublist List.filter_sublist) fun r => by
        rw [List.mem_filter, decide_eq_true_eq]
        exact ⟨fun z => ⟨nK r z, z⟩, fun z => z.2⟩
    have nall : ∀ S : Int → Prop, FC w n (· ∈ rooms) marks S → (∀ r : Int, 0 ≤ r → r < n → S r → r ∈ K) → ∀ r : Int, 0 ≤ r → r < n → S r → r ∈ near := fun S hS hk r h0 h1 hSr => by
      rw [nm]
      have := (hS r h0 h1 hSr).2.2 x hx
      have goalM : ∀ r : Int, r ∈ K → x ∈ ix w.b r → r ∈ goal := fun r a b => by rw [hgoal]; exact List.mem_filter.mpr ⟨a, decide_eq_true b⟩
      have key : ∀ r : Int, Rg w S (fun r => x ∈ ix w.b r) r → 0 ≤ r → r < n → Rg w (· ∈ K) (· ∈ goal) r := fun r hrg => by
        induction hrg with
        | here a b => exact fun h0 h1 => .here (hk _ h0 h1 a) (goalM _ (hk _ h0 h1 a) b)
        | step a b _ ih => exact fun h0 h1 => .step (hk _ h0 h1 a) b (ih (h.step h0 h1 b).1 (h.step h0 h1 b).2)
      exact key r this h0 h1
    constructor
    · unfold u_taken_off_2
      simp only [lt_eq, ← hgoal, ← hnear, ← hfar]
      exact ⟨si, sz_le (by omega), fun r hr => h.ib (rl.st r hr).1 (rl.st r hr).2, sl, sz_le (by omega), fun _ => ⟨sz1_le (by omega), trivial⟩⟩
    · by_cases q : 0 < MP.len far
      · have et : t_taken_off_2 w (st, K, more, rows) x = (m_inner w K, near, true, rows ++ [⟨far, some x⟩]) := by
          unfold t_taken_off_2
          simp only [lt_eq, ← hgoal, ← hnear, ← hfar]
          rw [if_pos (decide_eq_true q)]
        rw [et]
        unfold MP.len at q
        have kk : K.length ≤ K0.length := by
          have := rl.asc
          rcases Nat.lt_or_ge K0.length K.length with z | z
          · exfalso
            have : ∀ (l m : List Int), l.Pairwise (· < ·) → (∀ x ∈ l, x ∈ m) → l.length ≤ m.length := fun l m hl hm => by
              induction l generalizing m with
              | nil => simp
              | cons a l ih =>
                rw [List.pairwise_cons] at hl
                have h1 := ih (m.erase a) hl.2 fun y hy => (List.mem_erase_of_ne (by have := hl.1 y hy; omega)).mpr (hm y (List.mem_cons_of_mem _ hy))
                rw [List.length_erase_of_mem (hm a List.mem_cons_self)] at h1
                have := List.length_pos_of_mem (hm a List.mem_cons_self)
                rw [List.length_cons]; omega
            have := this K K0 rl.asc sub
            omega
          · exact z
        refine ⟨nrl, fun r hr => sub r (nK r hr), fun S hS hk => nall S hS (all S hS hk), ?_, fun _ => .inr ?_, nofun⟩
        · dsimp only; rw [List.length_append, List.length_singleton]; omega
        · dsimp only; omega
      · have et : t_taken_off_2 w (st, K, more, rows) x = (m_inner w K, K, more, rows) := by
          unfold t_taken_off_2
          simp only [lt_eq, ← hgoal, ← hnear, ← hfar]
          rw [if_neg (by simpa using q)]
        rw [et]
        refine ⟨rl, sub, all, cnt, less, fun hm => ?_⟩
        obtain ⟨a, b, c⟩ := same hm
        refine ⟨a, b, fun m hmm r hr => ?_⟩
        rcases List.mem_append.mp hmm with z | z
        · exact c m z r hr
        · rw [List.mem_singleton.mp z]
          subst b
          unfold MP.len at q
          have hfe : far = [] := List.length_eq_zero_iff.mp (by omega)
          have hn : r ∈ near := by
            by_cases y : r ∈ near
            · exact y
            · have : r ∈ far := by rw [hfar]; exact List.mem_filter.mpr ⟨hr, by simpa using y⟩
              rw [hfe] at this; cases this
          exact Rg.mono h (fun _ _ _ z => z) (fun r _ _ hg => by rw [hgoal] at hg; exact of_decide_eq_true (List.mem_filter.mp hg).2) ((nm r).mp hn) (rl.st r hr).1 (rl.st r hr).2
  have turn : ∀ s, TkI w n rooms marks s → c_taken_off_1 w marks s = true → u_taken_off_1 w marks s ∧ TkI w n rooms marks (t_taken_off_1 w marks s) ∧
      ((t_taken_off_1 w marks s).2.1.length + if (t_taken_off_1 w marks s).1 = true then 1 else 0) < (s.2.1.length + if s.1 = true then 1 else 0) := fun s hs hc => by
    obtain ⟨more, K, rows⟩ := s
    have hc : more = true := hc
    subst hc
    obtain ⟨rl, sub, all, cnt, _⟩ := hs
    dsimp only at rl sub all cnt
    have kl := rl.len
    obtain ⟨si, il, ixi⟩ := inner_ok h (K := K)
    obtain ⟨stuck, hstuck⟩ : ∃ stuck, stuck = K.filter fun r => decide (MP.len (ix (m_inner w K) r) = 0) := ⟨_, rfl⟩
    have ms : ∀ r, r ∈ stuck ↔ r ∈ K ∧ ∀ t ∈ ix w.c r, t ∉ K := fun r => by
      rw [hstuck, List.mem_filter, decide_eq_true_eq]
      constructor
      · rintro ⟨a, b⟩
        refine ⟨a, fun t ht hk => ?_⟩
        rw [ixi r (rl.st r a).1 (rl.st r a).2] at b
        unfold MP.len at b
        have : ((ix w.c r).filter fun t => decide (r ∈ K) && decide (t ∈ K)) = [] := List.length_eq_zero_iff.mp (by omega)
        rw [List.filter_eq_nil_iff] at this
        exact this t ht (by simp [a, hk])
      · rintro ⟨a, b⟩
        refine ⟨a, ?_⟩
        rw [ixi r (rl.st r a).1 (rl.st r a).2]
        have : ((ix w.c r).filter fun t => decide (r ∈ K) && decide (t ∈ K)) = [] := List.filter_eq_nil_iff.mpr fun t ht => by simp [b t ht]
        rw [this]; rfl
    obtain ⟨K0, hK0⟩ : ∃ K0, K0 = K.filter fun r => !decide (r ∈ stuck) := ⟨_, rfl⟩
    have hsplit : stuck.length + K0.length = K.length := by
      have := len_split (fun r => decide (r ∈ stuck)) K
      rw [← this, hK0]
      congr 2
      exact asc_ext (by rw [hstuck]; exact rl.asc.sublist List.filter_sublist) (rl.asc.sublist List.filter_sublist) fun r => by
        rw [List.mem_filter, decide_eq_true_eq]
        exact ⟨fun z => ⟨((ms r).mp z).1, z⟩, fun z => z.2⟩
    have k0all : ∀ S : Int → Prop, FC w n (· ∈ rooms) marks S → ∀ r : Int, 0 ≤ r → r < n → S r → r ∈ K0 := fun S hS r h0 h1 hSr => by
      rw [hK0, List.mem_filter]
      refine ⟨all S hS r h0 h1 hSr, ?_⟩
      simp only [Bool.not_eq_true', decide_eq_false_iff_not]
      intro z
      obtain ⟨t, t1, t2⟩ := (hS r h0 h1 hSr).2.1
      exact ((ms r).mp z).2 t t1 (all S hS t (h.step h0 h1 t1).1 (h.step h0 h1 t1).2 t2)
    -- the first part of the turn
    obtain ⟨j, hj⟩ : ∃ j : (List (T2 (List Int) (Option Tx))) × (List Int) × Bool, j = if (decide (0 < MP.len stuck)) = true then (rows ++ [⟨stuck, none⟩], K0, true) else (rows, K, false) := ⟨_, rfl⟩
    have hjs : (0 < stuck.length ∧ j = (rows ++ [⟨stuck, none⟩], K0, true)) ∨ (stuck = [] ∧ K0 = K ∧ j = (rows, K, false)) := by
      by_cases q : 0 < MP.len stuck
      · left
        refine ⟨by unfold MP.len at q; omega, ?_⟩
        rw [hj, if_pos (decide_eq_true q)]
      · right
        have hse : stuck = [] := List.length_eq_zero_iff.mp (by unfold MP.len at q; omega)
        refine ⟨hse, by rw [hK0, hse]; simp, ?_⟩
        rw [hj, if_neg (by simpa using q)]
    have j0 : TmI w n rooms marks j.2.1 j.2.2 [] (m_inner w K, j.2.1, j.2.2, j.1) ∧ j.2.1 = K0 ∧ (j.2.2 = true → K0.length < K.length) ∧ (j.2.2 = false → K0 = K ∧ stuck = []) := by
      rcases hjs with ⟨q, e⟩ | ⟨q, e1, e⟩
      · rw [e]
        refine ⟨⟨by rw [hK0]; exact rl.sub List.filter_sublist, fun r hr => hr, fun S _ hk => hk, by dsimp only; rw [List.length_append, List.length_singleton]; omega, fun _ => .inl rfl, nofun⟩, rfl, fun _ => by omega, nofun⟩
      · rw [e]
        refine ⟨⟨rl, fun r hr => hr, fun S _ hk => hk, cnt, nofun, fun _ => ⟨rfl, rfl, nofun⟩⟩, e1.symm, nofun, fun _ => ⟨e1, q⟩⟩
    obtain ⟨j1, j2, j3, j4⟩ := j0
    have fS := foldS_pre (TmI w n rooms marks j.2.1 j.2.2) (l := marks) j1 fun d x s hx hs => mark _ _ d x s hx hs
    have fI := foldl_pre (TmI w n rooms marks j.2.1 j.2.2) (l := marks) j1 fun d x s hx hs => (mark _ _ d x s hx hs).2
    rw [List.nil_append] at fI
    obtain ⟨f, hf⟩ : ∃ f, f = marks.foldl (t_taken_off_2 w) (m_inner w K, j.2.1, j.2.2, j.1) := ⟨_, rfl⟩
    rw [← hf] at fI
    have et : t_taken_off_1 w marks (true, K, rows) = (f.2.2.1, f.2.1, f.2.2.2) := by
      unfold t_taken_off_1
      simp only [lt_eq, ← hstuck, ← hK0, ← hj, ← hf]
    refine ⟨?_, ?_, ?_⟩
    · unfold u_taken_off_1
      simp only [lt_eq, ← hstuck, ← hK0, ← hj]
      refine ⟨si, sz_le (by omega), fun r hr => inR (rl.st r hr).1 (by rw [il]; exact (rl.st r hr).2), fun _ => ⟨sz1_le (by omega), sz_le (by omega), trivial⟩, fS, trivial⟩
    · rw [et]
      have subK0 : ∀ r ∈ K0, r ∈ K := fun r hr => by rw [hK0] at hr; exact (List.mem_filter.mp hr).1
      refine ⟨fI.rl, fun r hr => sub r (subK0 r (by rw [← j2]; exact fI.sub r hr)), fun S hS => fI.all S hS (by rw [j2]; exact k0all S hS), fI.cnt, fun hm => ?_⟩
      obtain ⟨a, b, c⟩ := fI.same hm
      obtain ⟨d1, d2⟩ := j4 a
      dsimp only
      rw [b, j2, d1]
      rw [j2, d1] at c
      intro r h0 h1 hr
      refine ⟨sub r hr, ?_, fun m hm => c m hm r hr⟩
      by_cases q : ∃ t ∈ ix w.c r, t ∈ K
      · exact q
      · have : r ∈ stuck := (ms r).mpr ⟨hr, fun t ht hk => q ⟨t, ht, hk⟩⟩
        rw [d2] at this; cases this
    · rw [et]
      dsimp only
      rw [if_pos rfl]
      cases q : f.2.2.1 with
      | true =>
        simp
        rcases fI.less q with z | z
        · have := j3 z
          have hl : f.2.1.length ≤ K0.length := by
            have e := fI.rl.sub_len (l := f.2.1) (m := K0) (by rw [hK0]; exact rl.sub List.filter_sublist) fun x hx => by rw [← j2]; exact fI.sub x hx
            rcases e with e | e
            · rw [e]; omega
            · omega
          omega
        · rw [j2] at z
          omega
      | false =>
        obtain ⟨a, b, _⟩ := fI.same q
        simp
        rw [b, j2]
        omega
  have h0 : TkI w n rooms marks (true, rooms, []) := ⟨hr, fun r hr => hr, fun S hS r h0 h1 hSr => (hS r h0 h1 hSr).1, by simp, nofun⟩
  have bound : (rooms.length + if true = true then 1 else 0) < wmost := by rw [wmost_eq, if_pos rfl]; omega
  have hS := whS_inv (sc := v_taken_off_1 w marks) (c := c_taken_off_1 w marks) (sf := u_taken_off_1 w marks) (f := t_taken_off_1 w marks) (TkI w n rooms marks) (fun s : Bool × List Int × List (T2 (List Int) (Option Tx)) => s.2.1.length + if s.1 = true then 1 else 0) (fun s hs => ⟨trivial, fun hc => turn s hs hc⟩) h0 bound
  obtain ⟨fin, hc⟩ := whl_inv (c := c_taken_off_1 w marks) (f := t_taken_off_1 w marks) (TkI w n rooms marks) (fun s : Bool × List Int × List (T2 (List Int) (Option Tx)) => s.2.1.length + if s.1 = true then 1 else 0) (fun s hs hc => (turn s hs hc).2) h0 bound
  have hc : _ = false := hc
  constructor
  · unfold s_taken_off
    simp only [lt_eq]
    exact ⟨hS, trivial⟩
  · unfold m_taken_off
    simp only [lt_eq]
    exact ⟨fin.rl, fin.fin hc, fin.all⟩
end
end Law

/-! Fair rooms told; worlds beside one another; ways. -/
namespace Law
open PySem PySem.Spec PyProof.Rows L2 MP
open MP.Enc (enc)
section
variable {w : W} {n : Nat} (h : Wok w n)
include h
theorem ask_fair_ok {rooms : List Int} {marks : List Tx} (hr : RL n rooms) (hm : MarkRow marks) : s_ask_fair w rooms marks ∧ m_ask_fair w rooms marks = .ok () := by
  obtain ⟨a, b⟩ := ask_world_ok h
  obtain ⟨c, d⟩ := ask_rooms_ok h hr
  have e : m_ask_marks marks = .ok () := by
    unfold m_ask_marks
    rw [hm.1]; rfl
  refine ⟨⟨a, fun _ _ => ⟨⟨s_are_marks_ok hm.2.1 hm.2.2, trivial⟩, fun _ _ => ⟨c, trivial⟩⟩⟩, ?_⟩
  unfold m_ask_fair
  rw [b, e, d]
  rfl
theorem fair_rooms_ok {rooms : List Int} {marks : List Tx} (hr : RL n rooms) (hm : MarkRow marks) : s_fair_rooms w rooms marks ∧ ∃ K, m_fair_rooms w rooms marks = .ok K ∧ Fair w n (· ∈ rooms) marks K := by
  obtain ⟨a, b⟩ := ask_fair_ok h hr hm
  obtain ⟨c, d⟩ := taken_off_ok h (marks := marks) hr
  refine ⟨⟨a, fun _ _ => ⟨c, trivial⟩⟩, _, ?_, d⟩
  unfold m_fair_rooms
  rw [b]; rfl
end
/-! ### one world's fair rooms within another -/
section
variable {w w' : W} {n n' : Nat} {e : Int → Int}
theorem emb_fair (h : Wok w n) (h' : Wok w' n') (val : ∀ r : Int, 0 ≤ r → r < n → 0 ≤ e r ∧ e r < n') (st : ∀ r t : Int, 0 ≤ r → r < n → (t ∈ ix w'.c (e r) ↔ ∃ s ∈ ix w.c r, t = e s)) (mk : ∀ r : Int, 0 ≤ r → r < n → ix w.b r = ix w'.b (e r))
    {X X' : Int → Prop} (hX : ∀ r : Int, 0 ≤ r → r < n → (X r ↔ X' (e r))) {marks : List Tx} {K K' : List Int} (F : Fair w n X marks K) (F' : Fair w' n' X' marks K') : ∀ r : Int, 0 ≤ r → r < n → (r ∈ K ↔ e r ∈ K') := by
  intro r h0 h1
  constructor
  · intro hr
    refine F'.all (fun s => ∃ r ∈ K, e r = s) (fun s s0 s1 hs => ?_) (e r) (val r h0 h1).1 (val r h0 h1).2 ⟨r, hr, rfl⟩
    obtain ⟨t, ht, rfl⟩ := hs
    obtain ⟨t0, t1⟩ := F.rl.st t ht
    obtain ⟨a, ⟨b, b1, b2⟩, c⟩ := F.fc t t0 t1 ht
    refine ⟨(hX t t0 t1).mp a, ⟨e b, (st t _ t0 t1).mpr ⟨b, b1, rfl⟩, b, b2, rfl⟩, fun m hm => ?_⟩
    have key : ∀ r : Int, Rg w (· ∈ K) (fun r => m ∈ ix w.b r) r → 0 ≤ r → r < n → Rg w' (fun s => ∃ r ∈ K, e r = s) (fun r => m ∈ ix w'.b r) (e r) := fun r hr => by
      induction hr with
      | here a b => exact fun h0 h1 => .here ⟨_, a, rfl⟩ (by rw [← mk _ h0 h1]; exact b)
      | step a b _ ih => exact fun h0 h1 => .step ⟨_, a, rfl⟩ ((st _ _ h0 h1).mpr ⟨_, b, rfl⟩) (ih (h.step h0 h1 b).1 (h.step h0 h1 b).2)
    exact key t (c m hm) t0 t1
  · intro hr
    refine F.all (fun r => e r ∈ K') (fun t t0 t1 ht => ?_) r h0 h1 hr
    obtain ⟨a, ⟨b, b1, b2⟩, c⟩ := F'.fc (e t) (val t t0 t1).1 (val t t0 t1).2 ht
    obtain ⟨s, hs, rfl⟩ := (st t b t0 t1).mp b1
    refine ⟨(hX t t0 t1).mpr a, ⟨s, hs, b2⟩, fun m hm => ?_⟩
    have key : ∀ q : Int, Rg w' (· ∈ K') (fun r => m ∈ ix w'.b r) q → ∀ r : Int, q = e r → 0 ≤ r → r < n → Rg w (fun r => e r ∈ K') (fun r => m ∈ ix w.b r) r := fun q hq => by
      induction hq with
      | here a b => exact fun r hqr h0 h1 => .here (by subst hqr; exact a) (by subst hqr; rw [mk r h0 h1]; exact b)
      | step a b _ ih =>
        intro r hqr h0 h1
        subst hqr
        obtain ⟨u, hu, e2⟩ := (st r _ h0 h1).mp b
        exact .step a hu (ih u e2 (h.step h0 h1 hu).1 (h.step h0 h1 hu).2)
    exact key (e t) (c m hm) t rfl t0 t1
end
/-! ### beside -/
section
variable {u v : W} {n m : Nat} (hu : Wok u n) (hv : Wok v m)
include hu hv
theorem beside_ok (hnm : n + m ≤ 24) : s_beside u v ∧ ∃ w, m_beside u v = .ok w ∧ Wok w (n + m) ∧
    (∀ r : Int, 0 ≤ r → r < n → ix w.a r = ix u.a r ∧ ix w.b r = ix u.b r ∧ ix w.c r = ix u.c r) ∧
    (∀ r : Int, 0 ≤ r → r < m → ix w.a (r + n) = ix v.a r ∧ ix w.b (r + n) = ix v.b r ∧ ix w.c (r + n) = (ix v.c r).map (· + (n : Int))) := by
  obtain ⟨a, b⟩ := ask_world_ok hu
  obtain ⟨c, d⟩ := ask_world_ok hv
  have hl := hu.len
  have hm := hv.len
  have szu : ∀ {α : Type} {l : List α}, l.length = n → Sz l := fun e => sz_le (by omega)
  have szv : ∀ {α : Type} {l : List α}, l.length = m → Sz l := fun e => sz_le (by omega)
  have ec : ∀ w : W, m_copy_of w = w := fun w => by unfold m_copy_of; simp
  obtain ⟨w, hw⟩ : ∃ w : W, w = ⟨u.a ++ v.a, u.b ++ v.b, u.c ++ v.c.map fun row => row.map fun r => r + (n : Int)⟩ := ⟨_, rfl⟩
  refine ⟨?_, w, ?_, ?_, fun r h0 h1 => ?_, fun r h0 h1 => ?_⟩
  · refine ⟨a, fun _ _ => ⟨c, fun _ _ => ?_⟩⟩
    simp only [lt_eq, ec, hl, hm]
    intro _
    have row : ∀ r ∈ v.c, Sz r := fun r hr => by
      have := asc_len (hv.st r hr) (hv.asc r hr) (by omega)
      exact sz_le (by omega)
    exact ⟨⟨szu hu.lb, szu hu.lc, trivial⟩, ⟨szv hv.lb, szv hv.lc, trivial⟩, szv hv.lc, row, sz_le (by rw [List.length_append, hu.la, hv.la]; omega), sz_le (by rw [List.length_append, hu.lb, hv.lb]; omega), sz_le (by rw [List.length_append, List.length_map, hu.lc, hv.lc]; omega), trivial⟩
  · unfold m_beside
    rw [b, d]
    simp only [els, lt_eq, ec, hl, hm]
    rw [if_neg (by simp; omega), hw]
  · have := hu.n1
    rw [hw]
    refine ⟨by simp [hu.la, hv.la], by simp [hu.lb, hv.lb], by simp [hu.lc, hv.lc], by omega, hnm, fun x hx => ?_, fun r hr => ?_, fun r hr => ?_, fun r hr x hx => ?_, fun r hr => ?_⟩
    · rcases List.mem_append.mp hx with z | z
      · exact hu.ow x z
      · exact hv.ow x z
    · rcases List.mem_append.mp hr with z | z
      · exact hu.mks r z
      · exact hv.mks r z
    · rcases List.mem_append.mp hr with z | z
      · exact hu.ne r z
      · obtain ⟨q, hq, rfl⟩ := List.mem_map.mp z
        have := hv.ne q hq
        simpa using this
    · rcases List.mem_append.mp hr with z | z
      · have := hu.st r z x hx; omega
      · obtain ⟨q, hq, rfl⟩ := List.mem_map.mp z
        obtain ⟨y, hy, rfl⟩ := List.mem_map.mp hx
        have := hv.st q hq y hy; omega
    · rcases List.mem_append.mp hr with z | z
      · exact hu.asc r z
      · obtain ⟨q, hq, rfl⟩ := List.mem_map.mp z
        rw [List.pairwise_map]
        exact (hv.asc q hq).imp fun h => by omega
  · rw [hw]
    exact ⟨ix_app1 h0 (by rw [hu.la]; exact h1), ix_app1 h0 (by rw [hu.lb]; exact h1), ix_app1 h0 (by rw [hu.lc]; exact h1)⟩
  · rw [hw]
    refine ⟨?_, ?_, ?_⟩
    · rw [ix_app3 (by rw [hu.la]; omega) (by rw [hu.la, hv.la]; omega), hu.la]; congr 1; omega
    · rw [ix_app3 (by rw [hu.lb]; omega) (by rw [hu.lb, hv.lb]; omega), hu.lb]; congr 1; omega
    · rw [ix_app3 (by rw [hu.lc]; omega) (by rw [hu.lc, List.length_map, hv.lc]; omega), hu.lc, show r + (n : Int) - (n : Nat) = r by omega, ix_map h0 (by rw [hv.lc]; exact h1)]
end
/-! ### ways -/
theorem cut_to {α : Type} {l : List α} {i : Int} (h0 : 0 ≤ i) (h1 : i ≤ l.length) : cut l none (some i) = l.take i.toNat := by
  unfold cut cutA HT.sIx
  simp only [List.drop_zero, Nat.sub_zero]
  rw [if_neg (by omega), Nat.min_eq_left (by omega)]
theorem cut_last {α : Type} {l : List α} : cut l none (some (-1)) = l.dropLast := by
  unfold cut cutA HT.sIx
  simp only [List.drop_zero, Nat.sub_zero]
  rw [if_pos (by decide), List.dropLast_eq_take]
  congr 1; omega
theorem cut_from {α : Type} {l : List α} {i : Int} (h0 : 0 ≤ i) (h1 : i ≤ l.length) : cut l (some i) none = l.drop i.toNat := by
  unfold cut cutA HT.sIx
  simp only
  rw [if_neg (by omega), Nat.min_eq_left (by omega), List.take_of_length_le (by rw [List.length_drop]; omega)]
theorem cut_mid {α : Type} {l : List α} {i : Int} (h0 : 0 ≤ i) (h1 : i ≤ l.length) : cut l (some i) (some (-1)) = (l.drop i.toNat).dropLast := by
  have e1 : HT.sIx l.length 0 (some i) = i.toNat := by
    show (if i < 0 then (i + (l.length : Int)).toNat else min i.toNat l.length) = _
    rw [if_neg (by omega), Nat.min_eq_left (by omega)]
  have e2 : HT.sIx l.length l.length (some (-1)) = l.length - 1 := by
    show (if (-1 : Int) < 0 then (-1 + (l.length : Int)).toNat else min (-1 : Int).toNat l.length) = _
    rw [if_pos (by decide)]; omega
  unfold cut cutA
  rw [e1, e2, List.dropLast_eq_take, List.length_drop]
  congr 1; omega
theorem cut_fst {α : Type} {l : List α} : cut l none (some 1) = l.take 1 := by
  cases l with
  | nil => rfl
  | cons a l => rw [cut_to (by decide) (by simp; omega)]; rfl
theorem cut_tl {α : Type} {l : List α} : cut l (some 1) none = l.drop 1 := by
  cases l with
  | nil => rfl
  | cons a l => rw [cut_from (by decide) (by simp; omega)]; rfl
/-- a way of a world -/
structure WayOk (w : W) (n : Nat) (y : T2 (List Int) (List Int)) : Prop where
  ne : y.b ≠ []
  val : ∀ x ∈ y.a ++ y.b, 0 ≤ x ∧ x < (n : Int)
  st : ∀ i : Nat, (hi : i < (y.a ++ y.b).length) → (y.a ++ y.b)[if i + 1 < (y.a ++ y.b).length then i + 1 else y.a.length]?.getD 0 ∈ ix w.c (y.a ++ y.b)[i]
theorem zip_next {f r : List Int} (hr : r ≠ []) (i : Nat) (hi : i < (f ++ r).length) : ((f ++ r).drop 1 ++ r.take 1)[i]? = some ((f ++ r)[if i + 1 < (f ++ r).length then i + 1 else f.length]?.getD 0) := by
  obtain ⟨a, r', rfl⟩ := List.exists_cons_of_ne_nil hr
  by_cases q : i + 1 < (f ++ a :: r').length
  · rw [if_pos q, List.getElem?_append_left (by rw [List.length_drop]; omega), List.getElem?_drop, Nat.add_comm 1 i, List.getElem?_eq_getElem q]
    rfl
  · rw [if_neg q, List.getElem?_append_right (by rw [List.length_drop]; omega), List.length_drop, show i - ((f ++ a :: r').length - 1) = 0 by omega]
    simp
theorem is_way_ok {w : W} {n : Nat} (h : Wok w n) {y : T2 (List Int) (List Int)} (hy : WayOk w n y) (hl : (y.a ++ y.b).length ≤ 1000) : s_is_way w y ∧ m_is_way w y = .ok true := by
  obtain ⟨a, b⟩ := ask_world_ok h
  have len := h.len
  obtain ⟨f, r⟩ := y
  obtain ⟨ne, val, st⟩ := hy
  dsimp only at ne val st hl
  have hpos : 0 < r.length := List.length_pos_iff.mpr ne
  have hz : ∀ x ∈ zip2 (f ++ r) (cut (f ++ r) (some 1) none ++ cut r none (some 1)), (0 ≤ x.a ∧ x.a < (n : Int)) ∧ x.b ∈ ix w.c x.a := fun x hx => by
    rw [cut_tl, cut_fst] at hx
    unfold zip2 at hx
    obtain ⟨i, hi, e⟩ := List.mem_iff_getElem.mp hx
    rw [List.length_zipWith] at hi
    rw [List.getElem_zipWith] at e
    have hi1 : i < (f ++ r).length := by omega
    have hn := zip_next (f := f) ne i hi1
    rw [List.getElem?_eq_getElem (by omega)] at hn
    injection hn with hn
    subst e
    dsimp only
    rw [hn]
    exact ⟨val _ (List.getElem_mem _), st i hi1⟩
  have hall : ((f ++ r).all fun room => decide (0 ≤ room) && decide (room < MP.len w.a)) = true := by
    rw [List.all_eq_true]
    intro x hx
    rw [len]
    have := val x hx
    simp [this]
  constructor
  · refine ⟨a, fun _ _ => ?_⟩
    simp only [lt_eq]
    refine ⟨sz_le (by omega), fun _ => sz_le (by omega), fun _ => ⟨?_, foldOS_unit fun x hx => ⟨h.ic (hz x hx).1.1 (hz x hx).1.2, trivial⟩, trivial⟩⟩
    rw [cut_tl, cut_fst]
    refine sz_le ?_
    rw [List.length_append] at hl
    rw [List.length_append, List.length_drop, List.length_take, List.length_append]; omega
  · unfold m_is_way
    rw [b]
    simp only [els, lt_eq]
    rw [if_neg (by
      rw [hall]
      simp
      unfold MP.len
      omega)]
    rw [foldO_all (v := .ok false) (fun _ => true) fun x hx => by
      unfold t_is_way_1
      have := (hz x hx).2
      rw [if_neg (by simp [this]), if_pos rfl]]
    simp [Out.then]
/-- rooms one behind the other -/
structure Path (w : W) (n : Nat) (l : List Int) : Prop where
  ne : l ≠ []
  val : ∀ x ∈ l, 0 ≤ x ∧ x < (n : Int)
  st : ∀ i : Nat, (hi : i + 1 < l.length) → l[i + 1] ∈ ix w.c l[i]
theorem ix_last {l : List Int} (h : l ≠ []) : ix l (-1) = l.getLast h ∧ InR l.length (-1) := by
  have hp : 0 < l.length := List.length_pos_iff.mpr h
  have hi : InR l.length (-1) := ⟨by omega, by omega⟩
  refine ⟨?_, hi⟩
  have e := atI_ix hi
  rw [atI_neg (by decide) hi.1, show (-1 + (l.length : Int)).toNat = l.length - 1 by omega, List.getElem?_eq_getElem (by omega)] at e
  injection e with e
  rw [← e, List.getLast_eq_getElem]
theorem path_step {w : W} {n : Nat} (h : Wok w n) {l : List Int} (p : Path w n l) {x : Int} (hx : x ∈ ix w.c (ix l (-1))) : Path w n (l ++ [x]) := by
  obtain ⟨e, hi⟩ := ix_last p.ne
  have hlast : ix l (-1) ∈ l := by rw [e]; exact List.getLast_mem _
  have hp : 0 < l.length := List.length_pos_iff.mpr p.ne
  refine ⟨by simp, fun y hy => ?_, fun i hi => ?_⟩
  · rcases List.mem_append.mp hy with z | z
    · exact p.val y z
    · rw [List.mem_singleton.mp z]
      exact h.step (p.val _ hlast).1 (p.val _ hlast).2 hx
  · rw [List.length_append, List.length_singleton] at hi
    by_cases q : i + 1 < l.length
    · rw [List.getElem_append_left q, List.getElem_append_left (by omega)]
      exact p.st i q
    · have : i + 1 = l.length := by omega
      rw [List.getElem_append_right (show l.length ≤ i + 1 by omega), List.getElem_append_left (show i < l.length by omega)]
      simp only [List.getElem_singleton]
      rw [e, List.getLast_eq_getElem] at hx
      have e2 : i = l.length - 1 := by omega
      subst e2
      exact hx
theorem pick_step {w : W} {n : Nat} (h : Wok w n) {r : Int} (h0 : 0 ≤ r) (h1 : r < n) (d : Int) : MP.len (ix w.c r) ≠ 0 ∧ InR (ix w.c r).length (d.fmod (MP.len (ix w.c r))) ∧ ix (ix w.c r) (d.fmod (MP.len (ix w.c r))) ∈ ix w.c r := by
  have hne := h.ne _ (h.row h0 h1)
  have hp : 0 < (ix w.c r).length := List.length_pos_iff.mpr hne
  have a := Int.fmod_nonneg_of_pos d (show (0 : Int) < MP.len (ix w.c r) by unfold MP.len; omega)
  have b := Int.fmod_lt_of_pos d (show (0 : Int) < MP.len (ix w.c r) by unfold MP.len; omega)
  unfold MP.len at a b ⊢
  exact ⟨by omega, inR a b, ix_in a b⟩
theorem law_way_ok {w : W} {n : Nat} (h : Wok w n) (c : Int) {room size : Int} (r0 : 0 ≤ room) (r1 : room < n) (z0 : 0 ≤ size) (z1 : size ≤ 100) :
    s_law_way w c room size ∧ WayOk w n (m_law_way w c room size) ∧ ((m_law_way w c room size).a ++ (m_law_way w c room size).b).length ≤ 200 ∧ ((m_law_way w c room size).a ++ (m_law_way w c room size).b)[0]? = some room := by
  have n24 := h.n24
  obtain ⟨k, rfl⟩ : ∃ k : Nat, size = (k : Int) := ⟨size.toNat, by omega⟩
  -- the first steps
  let I1 (i : Nat) (s : Option (List Int) × List Int) : Prop := Path w n s.2 ∧ s.2.length = i + 1 ∧ s.2[0]? = some room
  have h0 : I1 0 (none, [room]) := ⟨⟨by simp, by simp [r0, r1], fun i hi => by simp at hi⟩, rfl, rfl⟩
  have turn1 : ∀ i : Nat, i < k → ∀ s, I1 i s → u_law_way_1 w c s i ∧ I1 (i + 1) (t_law_way_1 w c s i) := fun i hi s ⟨hp, hl, hf⟩ => by
    obtain ⟨e, hin⟩ := ix_last hp.ne
    have hlast : ix s.2 (-1) ∈ s.2 := by rw [e]; exact List.getLast_mem _
    obtain ⟨v0, v1⟩ := hp.val _ hlast
    obtain ⟨a, b, d⟩ := pick_step h v0 v1 (m_law_draw c i 24)
    constructor
    · unfold u_law_way_1
      simp only [lt_eq]
      exact ⟨hin, h.ic v0 v1, s_draw (by omega) (by decide), a, b, sz1_le (by omega), trivial⟩
    · unfold t_law_way_1
      simp only [lt_eq]
      refine ⟨path_step h hp d, by simp [hl], ?_⟩
      dsimp only
      rw [List.getElem?_append_left (by omega)]; exact hf
  have f1S := foldS_rng I1 h0 turn1
  have f1 := foldl_rng I1 h0 fun i hi s hs => (turn1 i hi s hs).2
  obtain ⟨s1, hs1⟩ : ∃ s1, s1 = (rng (k : Int)).foldl (t_law_way_1 w c) (none, [room]) := ⟨_, rfl⟩
  rw [← hs1] at f1
  -- on till a room is met again
  let μ (l : List Int) : Nat := ((rng (n : Int)).filter fun x => !decide (x ∈ l.dropLast)).length
  let I2 (l : List Int) : Prop := Path w n l ∧ l.length + μ l ≤ k + 1 + n ∧ l[0]? = some room
  have hc2 : ∀ l : List Int, c_law_way_2 w c l = !decide (ix l (-1) ∈ l.dropLast) := fun l => by
    unfold c_law_way_2; rw [cut_last]
  have turn2 : ∀ l, I2 l → c_law_way_2 w c l = true → u_law_way_2 w c l ∧ I2 (t_law_way_2 w c l) ∧ μ (t_law_way_2 w c l) < μ l := fun l ⟨hp, hl, hf⟩ hc => by
    rw [hc2] at hc
    obtain ⟨e, hin⟩ := ix_last hp.ne
    have hpos : 0 < l.length := List.length_pos_iff.mpr hp.ne
    have hlast : ix l (-1) ∈ l := by rw [e]; exact List.getLast_mem _
    obtain ⟨v0, v1⟩ := hp.val _ hlast
    obtain ⟨a, b, d⟩ := pick_step h v0 v1 (m_law_draw c (MP.len l) 24)
    have hlen : MP.len l = (l.length : Int) := rfl
    have hμ : ∀ y : Int, μ (l ++ [y]) < μ l := fun y => by
      show ((rng (n : Int)).filter fun x => !decide (x ∈ (l ++ [y]).dropLast)).length < ((rng (n : Int)).filter fun x => !decide (x ∈ l.dropLast)).length
      rw [List.dropLast_concat]
      refine filter_lt (fun x _ hx => ?_) ⟨ix l (-1), mem_rng.mpr ⟨v0, v1⟩, hc, by simp [hlast]⟩
      simp only [Bool.not_eq_true', decide_eq_false_iff_not] at hx ⊢
      exact fun z => hx ((List.dropLast_sublist l).subset z)
    refine ⟨?_, ?_, ?_⟩
    · unfold u_law_way_2
      simp only [lt_eq]
      exact ⟨hin, h.ic v0 v1, s_draw (by omega) (by decide), a, b, sz1_le (by omega), trivial⟩
    · unfold t_law_way_2
      simp only [lt_eq]
      refine ⟨path_step h hp d, ?_, by rw [List.getElem?_append_left (by omega)]; exact hf⟩
      have := hμ (ix (ix w.c (ix l (-1))) ((m_law_draw c (MP.len l) 24).fmod (MP.len (ix w.c (ix l (-1))))))
      rw [List.length_append, List.length_singleton]
      omega
    · unfold t_law_way_2
      simp only [lt_eq]
      exact hμ _
  have g0 : I2 s1.2 := ⟨f1.1, by
    have := List.length_filter_le (fun x => !decide (x ∈ s1.2.dropLast)) (rng (n : Int))
    rw [rng_length] at this
    have := f1.2.1
    show s1.2.length + ((rng (n : Int)).filter fun x => !decide (x ∈ s1.2.dropLast)).length ≤ k + 1 + n
    omega, f1.2.2⟩
  have bound : μ s1.2 < wmost := by
    have := g0.2.1
    rw [wmost_eq]; omega
  have wS := whS_inv (sc := v_law_way_2 w c) (c := c_law_way_2 w c) (sf := u_law_way_2 w c) (f := t_law_way_2 w c) I2 μ (fun l hl => ⟨⟨(ix_last hl.1.ne).2, trivial⟩, fun hc => turn2 l hl hc⟩) g0 bound
  obtain ⟨fin, hc⟩ := whl_inv (c := c_law_way_2 w c) (f := t_law_way_2 w c) I2 μ (fun l hl hc => (turn2 l hl hc).2) g0 bound
  obtain ⟨l, hl⟩ : ∃ l, l = whl (c_law_way_2 w c) (t_law_way_2 w c) wmost s1.2 := ⟨_, rfl⟩
  rw [← hl] at fin hc
  rw [hc2] at hc
  obtain ⟨p, plen, pf⟩ := fin
  obtain ⟨e, hin⟩ := ix_last p.ne
  have hpos : 0 < l.length := List.length_pos_iff.mpr p.ne
  have hmem : ix l (-1) ∈ l.dropLast := by simpa using hc
  have hle : MP.len l = (l.length : Int) := rfl
  obtain ⟨places, hpl⟩ : ∃ places, places = (rng (MP.len l - 1)).filter fun k => decide (ix l k = ix l (-1)) := ⟨_, rfl⟩
  have pne : 0 < places.length := by
    obtain ⟨i, hi, ei⟩ := List.mem_iff_getElem.mp hmem
    rw [List.length_dropLast] at hi
    rw [hpl]
    refine filter_pos.mpr ⟨(i : Int), mem_rng.mpr ⟨by omega, by omega⟩, ?_⟩
    rw [decide_eq_true_eq, ix_nat (by omega), ← ei, List.getElem_dropLast]
  have q0 := Int.fmod_nonneg_of_pos (m_law_draw c 59 24) (show (0 : Int) < MP.len places by unfold MP.len; omega)
  have q1 := Int.fmod_lt_of_pos (m_law_draw c 59 24) (show (0 : Int) < MP.len places by unfold MP.len; omega)
  obtain ⟨at_, hat⟩ : ∃ at_, at_ = ix places ((m_law_draw c 59 24).fmod (MP.len places)) := ⟨_, rfl⟩
  have ham : at_ ∈ places := by rw [hat]; exact ix_in q0 (by unfold MP.len at q1 ⊢; exact q1)
  rw [hpl, List.mem_filter, mem_rng, decide_eq_true_eq] at ham
  obtain ⟨⟨a0, a1⟩, a2⟩ := ham
  have ey : m_law_way w c room k = ⟨l.take at_.toNat, (l.drop at_.toNat).dropLast⟩ := by
    unfold m_law_way
    simp only [lt_eq, ← hs1, ← hl, ← hpl, ← hat]
    rw [cut_to a0 (by omega), cut_mid a0 (by omega)]
  obtain ⟨j, rfl⟩ : ∃ j : Nat, at_ = (j : Int) := ⟨at_.toNat, by omega⟩
  rw [Int.toNat_natCast] at ey
  have eall : l.take j ++ (l.drop j).dropLast = l.dropLast := by
    rw [List.dropLast_eq_take, List.dropLast_eq_take, List.length_drop, ← List.take_append_drop j (l.take (l.length - 1)), List.take_take, Nat.min_eq_left (by omega), List.drop_take]
    congr 2; omega
  refine ⟨?_, ?_, ?_, ?_⟩
  · unfold s_law_way
    simp only [lt_eq, ← hs1, ← hl, ← hpl]
    refine ⟨rgOk (by omega) (by omega), f1S, wS, rgOk (by omega) (by omega), fun k hk => ?_, fun _ _ => hin, s_draw (by decide) (by decide), by unfold MP.len; omega, inR q0 q1, trivial⟩
    have := mem_rng.mp hk
    exact inR this.1 (by omega)
  · rw [ey]
    have lr : (l.drop j).dropLast.length = l.length - 1 - j := by rw [List.length_dropLast, List.length_drop]; omega
    refine ⟨?_, fun x hx => ?_, fun i hi => ?_⟩
    · intro z
      have := congrArg List.length z
      dsimp only at this
      rw [lr] at this
      simp at this
      omega
    · dsimp only at hx
      rw [eall] at hx
      exact p.val x ((List.dropLast_sublist l).subset hx)
    · dsimp only at hi ⊢
      simp only [eall] at hi ⊢
      rw [List.length_dropLast] at hi ⊢
      rw [List.getElem_dropLast, List.length_take, Nat.min_eq_left (by omega)]
      by_cases q : i + 1 < l.length - 1
      · rw [if_pos q, List.getElem?_eq_getElem (by rw [List.length_dropLast]; exact q), List.getElem_dropLast]
        exact p.st i (by omega)
      · rw [if_neg q, List.getElem?_eq_getElem (by rw [List.length_dropLast]; omega), List.getElem_dropLast]
        have := p.st i (by omega)
        have e3 : l[j] = l[i + 1] := by
          rw [ix_nat (by omega), e, List.getLast_eq_getElem] at a2
          rw [a2]
          congr 1; omega
        show l[j] ∈ _
        rw [e3]; exact this
  · rw [ey, eall, List.length_dropLast]; omega
  · rw [ey, eall]
    rw [List.getElem?_dropLast, if_pos (by omega)]
    exact pf
end Law

/-! Plans. -/
namespace Law
open PySem PySem.Spec PyProof.Rows L2 MP
open MP.Enc (enc)
theorem lt_i {α : Type} {v : α} {S : α → Prop} (h : ∀ x, x = v → S x) : lt v S := h v rfl
theorem lt_t {α : Type} {v : α} {B : α → Bool} (h : ∀ x, x = v → B x = true) : lt v B = true := h v rfl
theorem twin_eq (w : W) : m_law_twin w = w := by unfold m_law_twin; simp
theorem s_twin_ok {w : W} {n : Nat} (h : Wok w n) : s_law_twin w := ⟨sz_le (by have := h.lb; have := h.n24; omega), sz_le (by have := h.lc; have := h.n24; omega), trivial⟩
/-- a plan's entry is right -/
def stepB (w : W) (p : Int) (P : List (Option Int)) (r : Int) : Bool := match ix P r with
  | none => true
  | some s => decide (ix w.a r = p) && decide (s ∈ ix w.c r)
def planB (w : W) (n : Nat) (p : Int) (P : List (Option Int)) : Bool := decide (P.length = n) && (rng (n : Int)).all (stepB w p P)
section
variable {w : W} {n : Nat} (h : Wok w n) {p : Int} (hp : Pl p) {P : List (Option Int)}
include h
theorem law_is_plan_ok (hl : P.length ≤ 1000) : s_law_is_plan w p P ∧ m_law_is_plan w p P = planB w n p P := by
  have n24 := h.n24
  have hlen := h.len
  by_cases q : P.length = n
  · have e : MP.len P = n := by show (P.length : Int) = n; rw [q]
    constructor
    · refine fun _ => ⟨by rw [e]; exact rgOk (by omega) (by omega), foldOS_unit fun r hr => ?_, trivial⟩
      rw [e] at hr
      obtain ⟨h0, h1⟩ := mem_rng.mp hr
      unfold u_law_is_plan_1
      simp only [lt_eq]
      exact ⟨inR h0 (by rw [q]; exact h1), fun z => z, fun _ => trivial, fun _ _ => h.ia h0 h1, fun _ => ⟨fun z => z, fun _ => h.ic h0 h1, trivial⟩⟩
    · unfold m_law_is_plan planB
      rw [e, hlen, if_neg (by simp), foldO_all (v := false) (stepB w p P) fun r hr => by
        unfold t_law_is_plan_1 stepB
        simp only [lt_eq]
        cases z : ix P r with
        | none => simp
        | some s =>
          have hu : uw (some s) = s := rfl
          simp only [hu, Option.isSome_some, Bool.true_and, show m_law_whole s = true from rfl]
          by_cases y1 : ix w.a r = p <;> by_cases y2 : s ∈ ix w.c r <;> simp [y1, y2]]
      rw [decide_eq_true q]
      cases (rng (n : Int)).all (stepB w p P) <;> rfl
  · have e : ¬ MP.len P = n := by show ¬ (P.length : Int) = n; omega
    constructor
    · intro z
      rw [hlen] at z
      simp [e] at z
    · unfold m_law_is_plan planB
      rw [hlen, if_pos (by simp [e]), decide_eq_false q]
      rfl
include hp
theorem is_plan_ok (hl : P.length ≤ 1000) : s_is_plan w p P ∧ m_is_plan w p P = .ok (planB w n p P) := by
  obtain ⟨a, b⟩ := ask_world_ok h
  have n24 := h.n24
  have hlen := h.len
  by_cases q : P.length = n
  · have e : MP.len P = n := by show (P.length : Int) = n; rw [q]
    constructor
    · refine ⟨a, fun _ _ => ⟨trivial, fun _ _ _ => ⟨by rw [e]; exact rgOk (by omega) (by omega), foldOS_unit fun r hr => ?_, trivial⟩⟩⟩
      rw [e] at hr
      obtain ⟨h0, h1⟩ := mem_rng.mp hr
      have hi : InR P.length r := inR h0 (by rw [q]; exact h1)
      exact ⟨hi, fun _ => h.ia h0 h1, fun _ _ => hi, fun z _ => z, fun _ _ => h.ic h0 h1, trivial⟩
    · unfold m_is_plan planB
      rw [b, ask_player_ok h hp, hlen, e]
      simp only [els]
      rw [if_neg (by simp), foldO_all (v := .ok false) (stepB w p P) fun r hr => by
        unfold t_is_plan_1 stepB
        cases z : ix P r with
        | none => simp
        | some s =>
          have hu : uw (some s) = s := rfl
          simp only [hu, Option.isSome_some, Bool.true_and]
          by_cases y1 : ix w.a r = p <;> by_cases y2 : s ∈ ix w.c r <;> simp [y1, y2]]
      rw [decide_eq_true q]
      cases (rng (n : Int)).all (stepB w p P) <;> rfl
  · have e : ¬ MP.len P = n := by show ¬ (P.length : Int) = n; omega
    constructor
    · refine ⟨a, fun _ _ => ⟨trivial, fun _ _ z => ?_⟩⟩
      rw [hlen] at z
      simp [e] at z
    · unfold m_is_plan planB
      rw [b, ask_player_ok h hp, hlen]
      simp only [els]
      rw [if_pos (by simp [e]), decide_eq_false q]
      rfl
/-- plans that the laws draw -/
structure PlanOk (w : W) (n : Nat) (p : Int) (some_ : Bool) (P : List (Option Int)) : Prop where
  len : P.length = n
  no : ∀ r : Int, 0 ≤ r → r < n → ¬ ix w.a r = p → ix P r = none
  st : ∀ r s : Int, 0 ≤ r → r < n → ix P r = some s → ix w.a r = p ∧ s ∈ ix w.c r
  all : some_ = false → ∀ r : Int, 0 ≤ r → r < n → ix w.a r = p → ∃ s, ix P r = some s
omit hp in
theorem law_plan_ok (c : Int) (some_ : Bool) : s_law_plan w p c some_ ∧ PlanOk w n p some_ (m_law_plan w p c some_) := by
  have n24 := h.n24
  have hl := h.len
  let g (r : Int) : Option Int := if (!decide (ix w.a r = p) || (some_ && decide (m_law_draw c (30 + r) 3 = 1))) = true then none else some (ix (ix w.c r) ((m_law_draw c r 24).fmod (MP.len (ix w.c r))))
  have ht : ∀ s r, t_law_plan_1 w p c some_ s r = s ++ [g r] := fun s r => by
    unfold t_law_plan_1
    simp only [lt_eq]
    rfl
  constructor
  · unfold s_law_plan
    simp only [lt_eq, hl]
    refine ⟨rgOk (by omega) (by omega), foldS_rng (fun i s => s.length = i) rfl fun i hi s hs => ⟨?_, by rw [ht]; simp [hs]⟩, trivial⟩
    have h0 : (0 : Int) ≤ i := by omega
    have h1 : (i : Int) < n := by omega
    obtain ⟨a, b, _⟩ := pick_step h h0 h1 (m_law_draw c i 24)
    unfold u_law_plan_1
    simp only [lt_eq]
    exact ⟨h.ic h0 h1, s_draw (by omega) (by decide), a, b, h.ia h0 h1, fun _ _ => s_draw (by omega) (by decide), by unfold Sz1; omega, trivial⟩
  · have e : m_law_plan w p c some_ = (rng (n : Int)).map g := by
      unfold m_law_plan
      simp only [lt_eq, hl]
      rw [fold_app ht]; simp
    rw [e]
    refine ⟨by simp [rng_length], fun r h0 h1 ho => ?_, fun r s h0 h1 es => ?_, fun hs r h0 h1 ho => ?_⟩
    · rw [ix_maprng h0 h1]
      exact if_pos (by simp [ho])
    · rw [ix_maprng h0 h1] at es
      have es : (if _ then _ else _) = some s := es
      by_cases z : (!decide (ix w.a r = p) || (some_ && decide (m_law_draw c (30 + r) 3 = 1))) = true
      · rw [if_pos z] at es; cases es
      · rw [if_neg z] at es
        cases es
        have : ix w.a r = p := by
          by_cases y : ix w.a r = p
          · exact y
          · simp [y] at z
        exact ⟨this, (pick_step h h0 h1 _).2.2⟩
    · rw [ix_maprng h0 h1]
      exact ⟨_, if_neg (by simp [ho, hs])⟩
end
end Law

/-! Bringing, told by the law's own rounds. -/
namespace Law
open PySem PySem.Spec PyProof.Rows L2 MP
open MP.Enc (enc)
section
variable {w : W} {n : Nat} (h : Wok w n) {p : Int} {X : Int → Prop} {R R' : List (Option Int)}
include h
theorem brg_one (B : Brg w n p X R) (B' : Brg w n p X R') {m : Int} (ih : ∀ r k : Int, 0 ≤ r → r < n → k < m → (ix R r = some k ↔ ix R' r = some k)) {r : Int} (h0 : 0 ≤ r) (h1 : r < n) (e : ix R r = some m) : ix R' r = some m := by
  have hm := B.nn r m h0 h1 e
  by_cases q : m = 0
  · subst q
    exact (B'.zero r h0 h1).mpr ((B.zero r h0 h1).mp e)
  · have c := (B.step r m h0 h1 e (by omega)).2
    have c' : Can w p r fun s => False ∨ ∃ j, j < m ∧ ix R' s = some j := c.mono fun s hs z => by
      obtain z | ⟨j, hj, ej⟩ := z
      · exact .inl z
      · exact .inr ⟨j, hj, (ih s j (h.step h0 h1 hs).1 (h.step h0 h1 hs).2 hj).mp ej⟩
    cases z : ix R' r with
    | none =>
      refine absurd (c'.mono fun s hs y => ?_) (B'.full r h0 h1 trivial z)
      obtain y | ⟨j, hj, ej⟩ := y
      · exact .inl y
      · exact .inr (by rw [ej]; rfl)
    | some k =>
      by_cases lt : k < m
      · have := (ih r k h0 h1 lt).mpr z
        rw [e] at this; cases this; omega
      · by_cases eq : k = m
        · rw [eq]
        · refine absurd (c'.mono fun s hs y => ?_) (B'.least r k h0 h1 z (by omega))
          obtain y | ⟨j, hj, ej⟩ := y
          · exact .inl y
          · exact .inr ⟨j, by omega, ej⟩
/-- the ranks are settled by what is asked of them -/
theorem brg_uniq (B : Brg w n p X R) (B' : Brg w n p X R') : R = R' := by
  have key : ∀ (m : Nat) (r k : Int), 0 ≤ r → r < n → k < m → (ix R r = some k ↔ ix R' r = some k) := by
    intro m
    induction m with
    | zero =>
      intro r k h0 h1 hk
      constructor
      · intro e; have := B.nn r k h0 h1 e; omega
      · intro e; have := B'.nn r k h0 h1 e; omega
    | succ m ih =>
      intro r k h0 h1 hk
      by_cases q : k < m
      · exact ih r k h0 h1 q
      · have : k = (m : Int) := by omega
        subst this
        exact ⟨brg_one h B B' ih h0 h1, brg_one h B' B (fun r k h0 h1 hk => (ih r k h0 h1 hk).symm) h0 h1⟩
  refine ext_ix (by rw [B.len, B'.len]) fun i h0 h1 => ?_
  rw [B.len] at h1
  cases z : ix R i with
  | some k =>
    have := B.nn i k h0 h1 z
    exact ((key (k.toNat + 1) i k h0 h1 (by omega)).mp z).symm
  | none =>
    cases y : ix R' i with
    | none => rfl
    | some k =>
      have := B'.nn i k h0 h1 y
      rw [(key (k.toNat + 1) i k h0 h1 (by omega)).mpr y] at z; cases z
end
theorem rng2_1 (n : Nat) : rng2 1 ((n : Int) + 1) = (rng (n : Int)).map fun k => k + 1 := by
  unfold rng2 rng rangeI
  rw [List.map_map, show ((n : Int) + 1 - 1).toNat = (n : Int).toNat by omega]
  refine List.map_congr_left fun k _ => ?_
  show (1 : Int) + k = 0 + (k : Int) + 1
  omega
theorem foldS_map {α β σ : Type} {g : β → α} {safe : σ → α → Prop} {f : σ → α → σ} : ∀ {l : List β} {s : σ}, foldS (fun s x => safe s (g x)) (fun s x => f s (g x)) l s → foldS safe f (l.map g) s
  | [], _, _ => trivial
  | _ :: _, _, h => ⟨h.1, foldS_map h.2⟩
theorem u_set_ok {n : Nat} {turn : Int} : ∀ (l : List Int) (R : List (Option Int)), R.length = n → (∀ r ∈ l, 0 ≤ r ∧ r < (n : Int)) → foldS (u_law_brought_2 turn) (t_law_brought_2 turn) l R := fun l => by
  induction l with
  | nil => intro R _ _; trivial
  | cons x r ih =>
    intro R hR hx
    have hx0 := hx x List.mem_cons_self
    exact ⟨⟨inR hx0.1 (by rw [hR]; exact hx0.2), trivial⟩, ih _ (by unfold t_law_brought_2; rw [lt_eq, len_setI]; exact hR) fun y hy => hx y (List.mem_cons_of_mem _ hy)⟩
section
variable {w : W} {n : Nat} (h : Wok w n) {p : Int} {rooms : List Int}
include h
theorem bi0 : BI w n p (fun r => r ∈ rooms) (· ∈ rng (n : Int)) (· ∈ ([] : List Int)) (0, (rng (n : Int)).map (fun r => if (decide (r ∈ rooms)) = true then some (0 : Int) else none), true) := by
  have e : ∀ r : Int, 0 ≤ r → r < n → ix ((rng (n : Int)).map (fun r => if (decide (r ∈ rooms)) = true then some (0 : Int) else none)) r = if r ∈ rooms then some 0 else none := fun r h0 h1 => by
    rw [ix_maprng h0 h1]; simp
  have e0 : ∀ r k : Int, 0 ≤ r → r < n → ix ((rng (n : Int)).map (fun r => if (decide (r ∈ rooms)) = true then some (0 : Int) else none)) r = some k → k = 0 := fun r k h0 h1 q => by
    rw [e r h0 h1] at q
    split at q
    · cases q; rfl
    · cases q
  refine ⟨Int.le_refl _, by simp [rng_length], fun r k h0 h1 q => ?_, fun r h0 h1 => ?_, fun r k h0 h1 q hk => ?_, fun r k h0 h1 q hk => ?_, fun hk => ?_, fun hk => ?_⟩
  · have := e0 r k h0 h1 q; subst this; exact ⟨Int.le_refl _, Int.le_refl _⟩
  · dsimp only
    rw [e r h0 h1]; split <;> simp_all
  · have := e0 r k h0 h1 q; omega
  · have := e0 r k h0 h1 q; omega
  · exact absurd (show (1 : Int) ≤ 0 from hk) (by decide)
  · exact absurd (show true = false from hk) (by decide)
def FullB (w : W) (n : Nat) (p : Int) (R : List (Option Int)) : Prop := ∀ r : Int, 0 ≤ r → r < n → ix R r = none → ¬ Can w p r fun t => t ∈ ([] : List Int) ∨ (ix R t).isSome = true
def LB (w : W) (n : Nat) (p : Int) (rooms : List Int) (i : Nat) (R : List (Option Int)) : Prop :=
  (∃ b, BI w n p (fun r => r ∈ rooms) (· ∈ rng (n : Int)) (· ∈ ([] : List Int)) ((i : Int), R, b)) ∧ (((rng (n : Int)).filter fun r => (ix R r).isNone).length + i ≤ n ∨ FullB w n p R)
theorem law_turn_eq {R : List (Option Int)} (hR : R.length = n) (i : Int) (b : Bool) : t_law_brought_1 w p n R (i + 1) = (t_brought_1 w p (rng (n : Int)) [] (i, R, b)).2.1 := by
  have e : MP.len R = n := by show (R.length : Int) = n; rw [hR]
  unfold t_law_brought_1 t_brought_1
  simp only [lt_eq, e, List.nil_append]
  rfl
theorem law_brought_turn {i : Nat} {R : List (Option Int)} (hi : LB w n p rooms i R) (hrw : RL n rooms) : u_law_brought_1 w p n R ((i : Int) + 1) ∧ LB w n p rooms (i + 1) (t_law_brought_1 w p n R ((i : Int) + 1)) := by
  obtain ⟨⟨b, hb⟩, hc⟩ := hi
  have hRl : R.length = n := hb.len
  have n24 := h.n24
  have te := law_turn_eq h (p := p) hRl (i : Int) b
  obtain ⟨t1, t2, t3, t4⟩ := brought_turn h (p := p) (within := rng (n : Int)) (had := []) (fun r hr => mem_rng.mp hr) (by rw [rng_length]; omega) (by simp) (base := fun r => r ∈ rooms) (fun r hr => mem_rng.mpr (hrw.st r hr)) hb
  obtain ⟨k, b', ek⟩ : ∃ k b', t_brought_1 w p (rng (n : Int)) [] ((i : Int), R, b) = (k, t_law_brought_1 w p n R ((i : Int) + 1), b') := ⟨_, _, by rw [te]⟩
  have kk : k = (i : Int) + 1 := by
    have := congrArg Prod.fst ek
    exact this.symm
  rw [ek] at t2 t3 t4
  subst kk
  constructor
  · unfold u_law_brought_1
    simp only [lt_eq]
    have hI : ∀ r ∈ rng (n : Int), InR R.length r := fun r hr => by
      have := mem_rng.mp hr
      exact inR this.1 (by rw [hRl]; exact this.2)
    refine ⟨rgOk (by omega) (by omega), hI, rgOk (by omega) (by omega), hI, fun r hr _ => ?_, ?_, trivial⟩
    · have := mem_rng.mp hr
      exact s_law_now_ok h this.1 this.2
    · exact u_set_ok _ _ hRl fun r hr => mem_rng.mp (List.mem_filter.mp hr).1
  · refine ⟨⟨b', by rw [show ((i + 1 : Nat) : Int) = (i : Int) + 1 by omega]; exact t2⟩, ?_⟩
    rcases hc with hc | hc
    · cases q : b' with
      | true =>
        have := t3 q
        dsimp only at this
        left; omega
      | false =>
        right
        intro r h0 h1 e
        exact t2.full q r h0 h1 (mem_rng.mpr ⟨h0, h1⟩) e
    · right
      have : t_law_brought_1 w p n R ((i : Int) + 1) = R := by
        unfold t_law_brought_1
        simp only [lt_eq]
        rw [List.filter_eq_nil_iff.mpr fun r hr z => ?_]
        · rfl
        · obtain ⟨h0, h1⟩ := mem_rng.mp hr
          rw [Bool.and_eq_true, Option.isNone_iff_eq_none, law_now] at z
          refine hc r h0 h1 z.1 (z.2.mono fun s hs y => .inr ?_)
          exact (List.mem_filter.mp y).2
      rw [this]; exact hc
theorem law_brought_ok (hr : RL n rooms) : s_law_brought w p rooms ∧ Brg w n p (· ∈ rooms) (m_law_brought w p rooms) := by
  have n24 := h.n24
  have hl := h.len
  have i0 : LB w n p rooms 0 ((rng (n : Int)).map (fun r => if (decide (r ∈ rooms)) = true then some (0 : Int) else none)) := ⟨⟨true, bi0 h⟩, .inl (by
    have := List.length_filter_le (fun r => (ix ((rng (n : Int)).map (fun r => if (decide (r ∈ rooms)) = true then some (0 : Int) else none)) r).isNone) (rng (n : Int))
    rw [rng_length] at this
    omega)⟩
  constructor
  · unfold s_law_brought
    simp only [lt_eq, hl, rng2_1]
    exact ⟨rgOk (by omega) (by omega), rg2Ok (by omega) (by omega) (by omega) (by omega), foldS_map (foldS_rng (LB w n p rooms) i0 fun i hi s hs => law_brought_turn h hs hr), trivial⟩
  · have fin : LB w n p rooms n (m_law_brought w p rooms) := by
      unfold m_law_brought
      simp only [lt_eq, hl, rng2_1, List.foldl_map]
      exact foldl_rng (LB w n p rooms) i0 fun i hi s hs => (law_brought_turn h hs hr).2
    obtain ⟨⟨b, hb⟩, hc⟩ := fin
    have full : FullB w n p (m_law_brought w p rooms) := by
      rcases hc with hc | hc
      · intro r h0 h1 e
        have : r ∈ (rng (n : Int)).filter fun r => (ix (m_law_brought w p rooms) r).isNone := List.mem_filter.mpr ⟨mem_rng.mpr ⟨h0, h1⟩, by rw [e]; rfl⟩
        have := List.length_pos_of_mem this
        omega
      · exact hc
    refine ⟨hb.len, fun r k h0 h1 e => (hb.nn r k h0 h1 e).1, hb.zero, fun r k h0 h1 e hk => ⟨trivial, ?_⟩, fun r k h0 h1 e hk => ?_, fun r h0 h1 _ e => ?_⟩
    · exact (hb.step r k h0 h1 e hk).2.mono fun s _ z => z.imp (fun y => nomatch y) id
    · exact fun c => hb.least r k h0 h1 e hk (c.mono fun s _ z => z.imp (fun y => y.elim) id)
    · exact fun c => full r h0 h1 e (c.mono fun s _ z => z.imp (fun y => y.elim) id)
end
/-- a ring of 24 rooms -/
def ring24 : W := ⟨(List.map (fun (k_ : Int) => (Int.fmod (Int.fdiv k_ (3 : Int)) (2 : Int))) (rng (24 : Int))), (List.map (fun (k_ : Int) => ([] : (List Tx))) (rng (24 : Int))), (List.map (fun (k_ : Int) => ([(Int.fmod (k_ + (1 : Int)) (24 : Int))] : (List Int))) (rng (24 : Int)))⟩
theorem markRow_nil : MarkRow [] := ⟨by decide +kernel, by simp, by simp⟩
theorem ring_ok : Wok ring24 24 := by
  refine ⟨by decide, by decide, by decide, by decide, by decide, by decide, fun r hr => ?_, by decide, by decide, fun r hr => ?_⟩
  · obtain ⟨k, _, e⟩ := List.mem_map.mp hr
    rw [← e]; exact markRow_nil
  · obtain ⟨k, _, e⟩ := List.mem_map.mp hr
    rw [← e]; simp
theorem law_few_ok {n : Nat} (n24 : n ≤ 24) (c : Int) : s_law_few c n ∧ RL n (m_law_few c n) := by
  refine ⟨⟨rgOk (by omega) (by omega), fun r hr => ?_, trivial⟩, ?_⟩
  · have := mem_rng.mp hr
    exact s_draw (by omega) (by decide)
  · unfold m_law_few; exact RL.filter _
theorem cut_take {α : Type} {l : List α} {lo hi : Option Int} : (cut l lo hi).Sublist l := (List.take_sublist _ _).trans (List.drop_sublist _ _)
section
variable {w : W} {n : Nat} (h : Wok w n) {p : Int} (hp : Pl p) {rooms : List Int} (hr : RL n rooms) {R P : List (Option Int)}
include h
theorem dwn_step (B : Brg w n p (· ∈ rooms) R) (D : Dwn w n p R P) {r s : Int} (h0 : 0 ≤ r) (h1 : r < n) (e : ix P r = some s) : ix w.a r = p ∧ ∃ k, ix R r = some k ∧ 0 < k ∧ s ∈ ix w.c r ∧ ∃ j, j < k ∧ ix R s = some j := by
  by_cases ho : ix w.a r = p
  · cases q : ix R r with
    | none => rw [D.no r h0 h1 (.inr (.inl q))] at e; cases e
    | some k =>
      have := B.nn r k h0 h1 q
      by_cases k0 : k = 0
      · subst k0; rw [D.no r h0 h1 (.inr (.inr q))] at e; cases e
      · obtain ⟨t, ht, et, j, hj, ej⟩ := D.go r k h0 h1 ho q (by omega)
        rw [e] at et; cases et
        exact ⟨ho, k, rfl, by omega, ht, j, hj, ej⟩
  · rw [D.no r h0 h1 (.inl ho)] at e; cases e
theorem dwn_planB (B : Brg w n p (· ∈ rooms) R) (D : Dwn w n p R P) : planB w n p P = true := by
  unfold planB
  rw [decide_eq_true D.len, Bool.true_and, List.all_eq_true]
  intro r hr
  obtain ⟨h0, h1⟩ := mem_rng.mp hr
  unfold stepB
  cases e : ix P r with
  | none => rfl
  | some s =>
    obtain ⟨a, k, _, _, b, _⟩ := dwn_step h B D h0 h1 e
    simp [a, b]
theorem lower_than {there room k : Int} (hk : ix R room = some k) : m_lower_than R there room = true ↔ ∃ j, j < k ∧ ix R there = some j := by
  unfold m_lower_than
  rw [hk]
  cases ix R there with
  | none => simp
  | some j => simp only [uw, Option.isSome_some, Bool.true_and, Option.getD_some, decide_eq_true_eq, Option.some.injEq]; exact ⟨fun z => ⟨j, of_decide_eq_true z, rfl⟩, fun ⟨_, z, e⟩ => by rw [e]; exact decide_eq_true z⟩
include hp hr
theorem bring_shows_ok (B : Brg w n p (· ∈ rooms) R) (D : Dwn w n p R P) : s_bring_shows w p rooms R P ∧ m_bring_shows w p rooms R P = .ok true := by
  obtain ⟨a, b⟩ := ask_game_ok h hp hr
  have n24 := h.n24
  have hl := h.len
  have hRl := B.len
  have hPl := D.len
  have er : MP.len R = n := by show (R.length : Int) = n; rw [hRl]
  obtain ⟨c, d⟩ := is_plan_ok h hp (P := P) (by rw [hPl]; omega)
  rw [dwn_planB h B D] at d
  have hR : ∀ t : Int, 0 ≤ t → t < n → InR R.length t := fun t t0 t1 => inR t0 (by rw [hRl]; exact t1)
  have ar : s_are_ranks w R ∧ m_are_ranks w R = true := by
    unfold s_are_ranks m_are_ranks
    refine ⟨⟨fun _ => sz_le (by omega), fun _ k _ z => by cases k <;> simp_all, trivial⟩, ?_⟩
    rw [er, hl]
    simp only [decide_true, Bool.true_and, List.all_eq_true]
    intro k hk
    obtain ⟨i, i0, i1, e⟩ := mem_ix hk
    rw [hRl] at i1
    cases k with
    | none => rfl
    | some k => simp only [uw, Option.getD_some, Option.isNone_some, Bool.false_or]; exact decide_eq_true (B.nn i k i0 i1 e)
  have lo : ∀ t r : Int, 0 ≤ t → t < n → 0 ≤ r → r < n → (ix R r).isSome = true → s_lower_than R t r := fun t r t0 t1 r0 r1 hs => ⟨hR t t0 t1, fun _ => hR t t0 t1, fun z => z, fun _ => hR r r0 r1, fun _ => hs, trivial⟩
  constructor
  · refine ⟨a, fun _ _ => ⟨ar.1, fun _ => c, fun _ => ⟨_, d⟩, fun _ => ⟨by rw [hl]; exact rgOk (by omega) (by omega), foldOS_unit fun r hrr => ?_, trivial⟩⟩⟩
    rw [hl] at hrr
    obtain ⟨h0, h1⟩ := mem_rng.mp hrr
    unfold u_bring_shows_1
    simp only [lt_eq]
    have st := fun t ht => h.step h0 h1 (s := t) ht
    refine ⟨h.ic h0 h1, h.szc h0 h1, fun t ht => hR t (st t ht).1 (st t ht).2, hR r h0 h1, fun _ => ⟨hR r h0 h1, fun _ => ⟨h.ia h0 h1, fun _ => h.ic h0 h1, trivial⟩, fun e1 => ?_⟩⟩
    have hs : (ix R r).isSome = true := by cases q : ix R r <;> simp_all
    refine ⟨hR r h0 h1, hs, fun _ => h.ia h0 h1, fun _ => ⟨inR h0 (by rw [hPl]; exact h1), fun _ => inR h0 (by rw [hPl]; exact h1), fun z => by cases q : ix P r <;> simp_all, fun z => ?_, trivial⟩, fun _ => ⟨hR r h0 h1, hs, fun _ => h.ic h0 h1, fun _ => h.szc h0 h1, fun _ t ht => lo t r (st t ht).1 (st t ht).2 h0 h1 hs, trivial⟩⟩
    cases q : ix P r with
    | none => rw [q] at z; cases z
    | some s =>
      obtain ⟨_, k, _, _, hm, _⟩ := dwn_step h B D h0 h1 q
      exact lo s r (st s hm).1 (st s hm).2 h0 h1 hs
  · unfold m_bring_shows
    have d2 : okv (m_is_plan w p P) = true := by rw [d]; rfl
    rw [b, ar.2, d2, hl]
    simp only [els]
    rw [if_neg (by simp), foldO_all (v := .ok true) (fun _ => true) fun r hrr => ?_]
    · simp [Out.then]
    obtain ⟨h0, h1⟩ := mem_rng.mp hrr
    have st := fun t ht => h.step h0 h1 (s := t) ht
    refine Eq.trans ?_ (if_pos rfl).symm
    unfold t_bring_shows_1
    simp only [lt_eq]
    rw [if_neg (by have := B.zero r h0 h1; by_cases z : r ∈ rooms <;> simp [z, this])]
    cases q : ix R r with
    | none =>
      rw [if_pos (show (none : Option Int).isNone = true from rfl), if_neg]
      intro z
      refine B.full r h0 h1 trivial q ?_
      rw [Bool.or_eq_true, Bool.and_eq_true, decide_eq_true_eq, decide_eq_true_eq, decide_eq_true_eq] at z
      rcases z with ⟨z1, z2⟩ | z
      · unfold MP.len at z2
        obtain ⟨s, hs, es⟩ := filter_pos.mp (Int.natCast_pos.mp z2)
        exact .inl ⟨z1, s, hs, .inr es⟩
      · unfold MP.len at z
        have z := filter_all.mp (Int.ofNat_inj.mp z)
        by_cases ho : ix w.a r = p
        · obtain ⟨s, hs⟩ := List.exists_mem_of_ne_nil _ (h.ne _ (h.row h0 h1))
          exact .inl ⟨ho, s, hs, .inr (z s hs)⟩
        · exact .inr ⟨ho, fun s hs => .inr (z s hs)⟩
    | some k =>
      rw [if_neg (by simp)]
      have hk := B.nn r k h0 h1 q
      have hu : uw (some k) = k := rfl
      simp only [hu]
      by_cases k0 : 0 < k
      · have cc := (B.step r k h0 h1 q k0).2
        by_cases ho : ix w.a r = p
        · rw [if_pos (by simp [k0, ho])]
          obtain ⟨s, hs, es, j, hj, ej⟩ := D.go r k h0 h1 ho q k0
          rw [es]
          have : m_lower_than R s r = true := (lower_than h q).mpr ⟨j, hj, ej⟩
          rw [if_neg (by simp [uw, this])]
        · rw [if_neg (by simp [ho]), if_neg]
          rw [Bool.and_eq_true, Bool.not_eq_true', List.all_eq_false]
          rintro ⟨_, s, hs, z⟩
          refine z ((lower_than h q).mpr ?_)
          rcases cc with ⟨z, _⟩ | ⟨_, z⟩
          · exact absurd z ho
          · exact (z s hs).elim False.elim id
      · rw [if_neg (by simp [k0]), if_neg (by simp [k0])]
end
end Law

/-! Judging: until and always. -/
namespace Law
open PySem PySem.Spec PyProof.Rows L2 MP
open MP.Enc (enc)
theorem fold_filter {α : Type} {p : α → Bool} {t : List α → α → List α} (ht : ∀ s x, t s x = if p x = true then s ++ [x] else s) : ∀ (l a : List α), l.foldl t a = a ++ l.filter p
  | [], a => by simp
  | x :: l, a => by
    rw [List.foldl_cons, fold_filter ht l, ht, List.filter_cons]
    cases p x <;> simp
/-- a least set that is closed -/
def Clo (n : Nat) (F : (Int → Prop) → Int → Prop) (T : Int → Prop) : Prop := ∀ r : Int, 0 ≤ r → r < n → F T r → T r
def Lf (n : Nat) (F : (Int → Prop) → Int → Prop) (r : Int) : Prop := ∀ T, Clo n F T → T r
structure Mu (n : Nat) (F : (Int → Prop) → Int → Prop) (S : Int → Prop) : Prop where
  clo : Clo n F S
  least : ∀ T, Clo n F T → ∀ r : Int, 0 ≤ r → r < n → S r → T r
theorem Mu.lf {n : Nat} {F : (Int → Prop) → Int → Prop} {S : Int → Prop} (M : Mu n F S) {r : Int} (h0 : 0 ≤ r) (h1 : r < n) : S r ↔ Lf n F r :=
  ⟨fun h T hT => M.least T hT r h0 h1 h, fun h => h S M.clo⟩
/-- the rounds, whatever is asked of a room's steps -/
def newR (n : Nat) (stay : List Int) (cond : List (Option Int) → Int → Bool) (R : List (Option Int)) : List Int := (rng (n : Int)).filter fun r => ((ix R r).isNone && decide (r ∈ stay)) && cond R r
def stepR (n : Nat) (stay : List Int) (cond : List (Option Int) → Int → Bool) (s : Int × List (Option Int) × Bool) : Int × List (Option Int) × Bool :=
  (s.1 + 1, (newR n stay cond s.2.1).foldl (fun l r => setI l r (some (s.1 + 1))) s.2.1, decide (0 < MP.len (newR n stay cond s.2.1)))
structure FI (n : Nat) (stay goal : List Int) (cond : List (Option Int) → Int → Bool) (s : Int × List (Option Int) × Bool) : Prop where
  len : s.2.1.length = n
  gl : ∀ r : Int, 0 ≤ r → r < n → r ∈ goal → (ix s.2.1 r).isSome = true
  least : ∀ T : Int → Prop, (∀ r : Int, 0 ≤ r → r < n → r ∈ goal → T r) → (∀ (R : List (Option Int)) (r : Int), R.length = n → (∀ s : Int, 0 ≤ s → s < n → (ix R s).isSome = true → T s) → 0 ≤ r → r < n → r ∈ stay → cond R r = true → T r) → ∀ r : Int, 0 ≤ r → r < n → (ix s.2.1 r).isSome = true → T r
  clos : s.2.2 = false → ∀ r : Int, 0 ≤ r → r < n → ix s.2.1 r = none → r ∈ stay → cond s.2.1 r = false
theorem fi_step {n : Nat} {stay goal : List Int} {cond : List (Option Int) → Int → Bool} {s : Int × List (Option Int) × Bool} (hs : FI n stay goal cond s) : FI n stay goal cond (stepR n stay cond s) ∧
    ((rng (n : Int)).filter fun r => (ix (stepR n stay cond s).2.1 r).isNone).length ≤ ((rng (n : Int)).filter fun r => (ix s.2.1 r).isNone).length ∧
    ((stepR n stay cond s).2.2 = true → ((rng (n : Int)).filter fun r => (ix (stepR n stay cond s).2.1 r).isNone).length < ((rng (n : Int)).filter fun r => (ix s.2.1 r).isNone).length) := by
  obtain ⟨new, hnew⟩ : ∃ new, new = newR n stay cond s.2.1 := ⟨_, rfl⟩
  have mn : ∀ r, r ∈ new ↔ (0 ≤ r ∧ r < n) ∧ ix s.2.1 r = none ∧ r ∈ stay ∧ cond s.2.1 r = true := fun r => by
    rw [hnew]; unfold newR
    rw [List.mem_filter, mem_rng]
    simp only [Bool.and_eq_true, Option.isNone_iff_eq_none, decide_eq_true_eq, and_assoc]
  obtain ⟨sl, sx⟩ := set_fold (some (s.1 + 1)) (new := new) (l := s.2.1) fun r hr => by rw [hs.len]; exact ((mn r).mp hr).1
  rw [hs.len] at sx
  obtain ⟨R, hR⟩ : ∃ R, R = new.foldl (fun l r => setI l r (some (s.1 + 1))) s.2.1 := ⟨_, rfl⟩
  rw [← hR] at sl sx
  have et : stepR n stay cond s = (s.1 + 1, R, decide (0 < MP.len new)) := by unfold stepR; rw [← hnew, ← hR]
  have up : ∀ r : Int, 0 ≤ r → r < n → (ix s.2.1 r).isSome = true → (ix R r).isSome = true := fun r h0 h1 e => by
    rw [sx r h0 h1]
    split
    · rfl
    · exact e
  rw [et]
  refine ⟨⟨by dsimp only; rw [sl, hs.len], fun r h0 h1 hg => up r h0 h1 (hs.gl r h0 h1 hg), fun T hg hT r h0 h1 e => ?_, fun hm r h0 h1 e hst => ?_⟩, ?_, fun hm => ?_⟩
  · dsimp only at e
    rw [sx r h0 h1] at e
    by_cases q : r ∈ new
    · obtain ⟨_, _, a, b⟩ := (mn r).mp q
      exact hT s.2.1 r hs.len (fun t t0 t1 ht => hs.least T hg hT t t0 t1 ht) h0 h1 a b
    · rw [if_neg q] at e
      exact hs.least T hg hT r h0 h1 e
  · dsimp only at hm e ⊢
    have hne : new = [] := by
      have hm := of_decide_eq_false hm
      unfold MP.len at hm
      exact List.length_eq_zero_iff.mp (by omega)
    have hRs : R = s.2.1 := by rw [hR, hne]; rfl
    rw [hRs] at e ⊢
    cases q : cond s.2.1 r with
    | false => rfl
    | true =>
      have : r ∈ new := (mn r).mpr ⟨⟨h0, h1⟩, e, hst, q⟩
      rw [hne] at this; cases this
  · dsimp only
    have : ∀ (l : List Int), (∀ x ∈ l, (ix R x).isNone = true → (ix s.2.1 x).isNone = true) → (l.filter fun r => (ix R r).isNone).length ≤ (l.filter fun r => (ix s.2.1 r).isNone).length := fun l => by
      induction l with
      | nil => intro _; exact Nat.le_refl _
      | cons x l ih =>
        intro hx
        have h1 := ih fun y hy => hx y (List.mem_cons_of_mem _ hy)
        have h2 := hx x List.mem_cons_self
        rw [List.filter_cons, List.filter_cons]
        cases a : (ix R x).isNone <;> cases b : (ix s.2.1 x).isNone <;> simp [a, b] at h2 ⊢ <;> omega
    refine this _ fun r hr e => ?_
    obtain ⟨h0, h1⟩ := mem_rng.mp hr
    cases q : ix s.2.1 r with
    | none => rfl
    | some k => have := up r h0 h1 (by rw [q]; rfl); rw [Option.isNone_iff_eq_none] at e; rw [e] at this; cases this
  · dsimp only at hm ⊢
    have hm := of_decide_eq_true hm
    unfold MP.len at hm
    obtain ⟨r, hr⟩ := List.exists_mem_of_length_pos (show 0 < new.length by omega)
    obtain ⟨⟨h0, h1⟩, hn, _⟩ := (mn r).mp hr
    refine filter_lt (fun x hx e => ?_) ⟨r, mem_rng.mpr ⟨h0, h1⟩, by rw [hn]; rfl, by rw [sx r h0 h1, if_pos hr]; rfl⟩
    obtain ⟨h0, h1⟩ := mem_rng.mp hx
    cases q : ix s.2.1 x with
    | none => rfl
    | some k => have := up x h0 h1 (by rw [q]; rfl); rw [Option.isNone_iff_eq_none] at e; rw [e] at this; cases this
/-- the loop -/
theorem fi_loop {n : Nat} (n24 : n ≤ 24) {stay goal : List Int} {cond : List (Option Int) → Int → Bool} (h0 : ∀ R : List (Option Int), R.length = n → (∀ r : Int, 0 ≤ r → r < n → ix R r = none) → ∀ r : Int, 0 ≤ r → r < n → cond R r = false)
    {v : Int × List (Option Int) × Bool → Prop} {c : Int × List (Option Int) × Bool → Bool} {u : Int × List (Option Int) × Bool → Prop} {t : Int × List (Option Int) × Bool → Int × List (Option Int) × Bool}
    (hv : ∀ s, v s) (hc : ∀ s, c s = s.2.2) (ht : ∀ s : Int × List (Option Int) × Bool, s.2.1.length = n → u s ∧ t s = stepR n stay cond s) (hgl : ∀ r ∈ goal, 0 ≤ r ∧ r < (n : Int)) :
    whS v c u t wmost (0, (rng (n : Int)).map (fun r => if (decide (r ∈ goal)) = true then some (0 : Int) else none), decide ((0 : Int) < MP.len goal)) ∧
    ∃ R, (whl c t wmost (0, (rng (n : Int)).map (fun r => if (decide (r ∈ goal)) = true then some (0 : Int) else none), decide ((0 : Int) < MP.len goal))).2.1 = R ∧ R.length = n ∧ (∀ r : Int, 0 ≤ r → r < n → r ∈ goal → (ix R r).isSome = true) ∧
      (∀ T : Int → Prop, (∀ r : Int, 0 ≤ r → r < n → r ∈ goal → T r) → (∀ (R : List (Option Int)) (r : Int), R.length = n → (∀ s : Int, 0 ≤ s → s < n → (ix R s).isSome = true → T s) → 0 ≤ r → r < n → r ∈ stay → cond R r = true → T r) → ∀ r : Int, 0 ≤ r → r < n → (ix R r).isSome = true → T r) ∧
      ∀ r : Int, 0 ≤ r → r < n → ix R r = none → r ∈ stay → cond R r = false := by
  have e : ∀ r : Int, 0 ≤ r → r < n → ix ((rng (n : Int)).map (fun r => if (decide (r ∈ goal)) = true then some (0 : Int) else none)) r = if r ∈ goal then some 0 else none := fun r h0 h1 => by
    rw [ix_maprng h0 h1]; simp
  have i0 : FI n stay goal cond (0, (rng (n : Int)).map (fun r => if (decide (r ∈ goal)) = true then some (0 : Int) else none), decide ((0 : Int) < MP.len goal)) := by
    refine ⟨by simp [rng_length], fun r r0 r1 hg => by dsimp only; rw [e r r0 r1, if_pos hg]; rfl, fun T hg _ r r0 r1 es => ?_, fun hm r r0 r1 _ _ => ?_⟩
    · dsimp only at es
      rw [e r r0 r1] at es
      split at es
      · rename_i q; exact hg r r0 r1 q
      · cases es
    · dsimp only at hm ⊢
      have hm := of_decide_eq_false hm
      have hne : goal = [] := by
        unfold MP.len at hm
        exact List.length_eq_zero_iff.mp (by omega)
      refine h0 _ (by simp [rng_length]) (fun x x0 x1 => ?_) r r0 r1
      rw [e x x0 x1, if_neg (by rw [hne]; simp)]
  have μ : ∀ s : Int × List (Option Int) × Bool, FI n stay goal cond s → c s = true → u s ∧ FI n stay goal cond (t s) ∧
      (((rng (n : Int)).filter fun r => (ix (t s).2.1 r).isNone).length + if (t s).2.2 = true then 1 else 0) < (((rng (n : Int)).filter fun r => (ix s.2.1 r).isNone).length + if s.2.2 = true then 1 else 0) := fun s hs hcs => by
    obtain ⟨a, b⟩ := ht s hs.len
    rw [hc] at hcs
    obtain ⟨p, q, r⟩ := fi_step hs
    rw [b]
    refine ⟨a, p, ?_⟩
    rw [if_pos hcs]
    cases z : (stepR n stay cond s).2.2 with
    | true => have := r z; simp; omega
    | false => simp; omega
  have bound : ((rng (n : Int)).filter fun r => (ix ((rng (n : Int)).map (fun r => if (decide (r ∈ goal)) = true then some (0 : Int) else none)) r).isNone).length + (if decide ((0 : Int) < MP.len goal) = true then 1 else 0) < wmost := by
    have := List.length_filter_le (fun r => (ix ((rng (n : Int)).map (fun r => if (decide (r ∈ goal)) = true then some (0 : Int) else none)) r).isNone) (rng (n : Int))
    rw [rng_length] at this
    rw [wmost_eq]
    split <;> omega
  refine ⟨whS_inv _ (fun s : Int × List (Option Int) × Bool => ((rng (n : Int)).filter fun r => (ix s.2.1 r).isNone).length + if s.2.2 = true then 1 else 0) (fun s hs => ⟨hv s, fun hcs => μ s hs hcs⟩) i0 bound, ?_⟩
  obtain ⟨fin, hcf⟩ := whl_inv _ (fun s : Int × List (Option Int) × Bool => ((rng (n : Int)).filter fun r => (ix s.2.1 r).isNone).length + if s.2.2 = true then 1 else 0) (fun s hs hcs => (μ s hs hcs).2) i0 (k := wmost) bound
  rw [hc] at hcf
  exact ⟨_, rfl, fin.len, fin.gl, fin.least, fin.clos hcf⟩
/-! ### some until, all until -/
def FE (w : W) (A B : Int → Prop) (Y : Int → Prop) (r : Int) : Prop := B r ∨ (A r ∧ ∃ s ∈ ix w.c r, Y s)
def FA (w : W) (A B : Int → Prop) (Y : Int → Prop) (r : Int) : Prop := B r ∨ (A r ∧ ∀ s ∈ ix w.c r, Y s)
section
variable {w : W} {n : Nat} (h : Wok w n) {stay goal : List Int} (hg : RL n goal)
include h hg
theorem some_ranks_ok : s_some_ranks w stay goal ∧ (m_some_ranks w stay goal).length = n ∧ Mu n (FE w (· ∈ stay) (· ∈ goal)) fun r => (ix (m_some_ranks w stay goal) r).isSome = true := by
  have n24 := h.n24
  have hl := h.len
  obtain ⟨a, R, eR, l, g, le, cl⟩ := fi_loop (goal := goal) (stay := stay) (cond := fun R r => decide ((0 : Int) < MP.len ((ix w.c r).filter fun t => (ix R t).isSome))) n24 (fun R hR hn r r0 r1 => by
      rw [decide_eq_false_iff_not]
      unfold MP.len
      intro z
      obtain ⟨s, hs, es⟩ := filter_pos.mp (Int.natCast_pos.mp z)
      rw [hn s (h.step r0 r1 hs).1 (h.step r0 r1 hs).2] at es; cases es)
    (v := v_some_ranks_1 w stay n) (c := c_some_ranks_1 w stay n) (u := u_some_ranks_1 w stay n) (t := t_some_ranks_1 w stay n) (fun _ => trivial) (fun _ => rfl) (fun s hs => by
      have hI : ∀ t : Int, 0 ≤ t → t < n → InR s.2.1.length t := fun t t0 t1 => inR t0 (by rw [hs]; exact t1)
      have ht2 : ∀ a r, t_some_ranks_2 w stay s a r = if (((ix s.2.1 r).isNone && decide (r ∈ stay)) && decide ((0 : Int) < MP.len ((ix w.c r).filter fun t => (ix s.2.1 t).isSome))) = true then a ++ [r] else a := fun a r => by
        unfold t_some_ranks_2
        simp only [lt_eq]
        cases ((ix s.2.1 r).isNone && decide (r ∈ stay)) <;> simp
      have e1 := fold_filter ht2 (rng (n : Int)) []
      rw [List.nil_append] at e1
      have e2 : (rng (n : Int)).foldl (t_some_ranks_2 w stay s) [] = newR n stay (fun R r => decide ((0 : Int) < MP.len ((ix w.c r).filter fun t => (ix R t).isSome))) s.2.1 := e1
      constructor
      · unfold u_some_ranks_1
        simp only [lt_eq]
        rw [e2]
        refine ⟨rgOk (by omega) (by omega), foldS_rng (fun i l => l.length ≤ i) (Nat.le_refl _) fun i hi a ha => ⟨?_, ?_⟩, ?_, trivial⟩
        · have i0 : (0 : Int) ≤ i := by omega
          have i1 : (i : Int) < n := by omega
          exact ⟨hI _ i0 i1, fun _ => ⟨h.ic i0 i1, h.szc i0 i1, fun t ht => hI t (h.step i0 i1 ht).1 (h.step i0 i1 ht).2, fun _ => ⟨sz1_le (by omega), trivial⟩⟩⟩
        · rw [ht2]; split
          · simp; omega
          · omega
        · have key : ∀ (l : List Int) (R : List (Option Int)), R.length = n → (∀ r ∈ l, 0 ≤ r ∧ r < (n : Int)) → foldS (u_some_ranks_3 (s.1 + 1)) (t_some_ranks_3 (s.1 + 1)) l R := fun l => by
            induction l with
            | nil => intro R _ _; trivial
            | cons x r ih =>
              intro R hR hx
              have hx0 := hx x List.mem_cons_self
              exact ⟨⟨inR hx0.1 (by rw [hR]; exact hx0.2), trivial⟩, ih _ (by unfold t_some_ranks_3; rw [lt_eq, len_setI]; exact hR) fun y hy => hx y (List.mem_cons_of_mem _ hy)⟩
          exact key _ _ hs fun r hr => mem_rng.mp (List.mem_filter.mp hr).1
      · unfold t_some_ranks_1 stepR
        simp only [lt_eq]
        rw [e2]
        rfl) hg.st
  have eM : m_some_ranks w stay goal = R := by
    rw [← eR]; unfold m_some_ranks; simp only [lt_eq, hl]
  rw [eM]
  refine ⟨?_, l, ⟨fun r r0 r1 z => ?_, fun T hT r r0 r1 es => ?_⟩⟩
  · unfold s_some_ranks
    simp only [lt_eq, hl]
    exact ⟨rgOk (by omega) (by omega), a, trivial⟩
  · rcases z with z | ⟨z, s, hs, es⟩
    · exact g r r0 r1 z
    · cases q : ix R r with
      | some k => rfl
      | none =>
        have := of_decide_eq_false (cl r r0 r1 q z)
        refine absurd ?_ this
        unfold MP.len
        exact Int.natCast_pos.mpr (filter_pos.mpr ⟨s, hs, es⟩)
  · refine le T (fun r r0 r1 hr => hT r r0 r1 (.inl hr)) (fun R' r hR' hs r0 r1 hst hc => ?_) r r0 r1 es
    have hc := of_decide_eq_true hc
    unfold MP.len at hc
    obtain ⟨s, hm, es⟩ := filter_pos.mp (Int.natCast_pos.mp hc)
    exact hT r r0 r1 (.inr ⟨hst, s, hm, hs s (h.step r0 r1 hm).1 (h.step r0 r1 hm).2 es⟩)
theorem all_ranks_ok : s_all_ranks w stay goal ∧ (m_all_ranks w stay goal).length = n ∧ Mu n (FA w (· ∈ stay) (· ∈ goal)) fun r => (ix (m_all_ranks w stay goal) r).isSome = true := by
  have n24 := h.n24
  have hl := h.len
  have cnd : ∀ (R : List (Option Int)) (r : Int), decide (MP.len ((ix w.c r).filter fun t => (ix R t).isNone) = 0) = true ↔ ∀ s ∈ ix w.c r, (ix R s).isSome = true := fun R r => by
    rw [decide_eq_true_eq]
    unfold MP.len
    rw [show ((((ix w.c r).filter fun t => (ix R t).isNone).length : Int) = 0) ↔ ((ix w.c r).filter fun t => (ix R t).isNone).length = 0 by omega, List.length_eq_zero_iff, List.filter_eq_nil_iff]
    constructor
    · intro z s hs
      have := z s hs
      cases q : ix R s <;> simp_all
    · intro z s hs
      have := z s hs
      cases q : ix R s <;> simp_all
  obtain ⟨a, R, eR, l, g, le, cl⟩ := fi_loop (goal := goal) (stay := stay) (cond := fun R r => decide (MP.len ((ix w.c r).filter fun t => (ix R t).isNone) = 0)) n24 (fun R hR hn r r0 r1 => by
      cases q : decide (MP.len ((ix w.c r).filter fun t => (ix R t).isNone) = 0) with
      | false => rfl
      | true =>
        obtain ⟨s, hs⟩ := List.exists_mem_of_ne_nil _ (h.ne _ (h.row r0 r1))
        have := (cnd R r).mp q s hs
        rw [hn s (h.step r0 r1 hs).1 (h.step r0 r1 hs).2] at this; cases this)
    (v := v_all_ranks_1 w stay n) (c := c_all_ranks_1 w stay n) (u := u_all_ranks_1 w stay n) (t := t_all_ranks_1 w stay n) (fun _ => trivial) (fun _ => rfl) (fun s hs => by
      have hI : ∀ t : Int, 0 ≤ t → t < n → InR s.2.1.length t := fun t t0 t1 => inR t0 (by rw [hs]; exact t1)
      have ht2 : ∀ a r, t_all_ranks_2 w stay s a r = if (((ix s.2.1 r).isNone && decide (r ∈ stay)) && decide (MP.len ((ix w.c r).filter fun t => (ix s.2.1 t).isNone) = 0)) = true then a ++ [r] else a := fun a r => by
        unfold t_all_ranks_2
        simp only [lt_eq]
        cases ((ix s.2.1 r).isNone && decide (r ∈ stay)) <;> simp
      have e1 := fold_filter ht2 (rng (n : Int)) []
      rw [List.nil_append] at e1
      have e2 : (rng (n : Int)).foldl (t_all_ranks_2 w stay s) [] = newR n stay (fun R r => decide (MP.len ((ix w.c r).filter fun t => (ix R t).isNone) = 0)) s.2.1 := e1
      constructor
      · unfold u_all_ranks_1
        simp only [lt_eq]
        rw [e2]
        refine ⟨rgOk (by omega) (by omega), foldS_rng (fun i l => l.length ≤ i) (Nat.le_refl _) fun i hi a ha => ⟨?_, ?_⟩, ?_, trivial⟩
        · have i0 : (0 : Int) ≤ i := by omega
          have i1 : (i : Int) < n := by omega
          exact ⟨hI _ i0 i1, fun _ => ⟨h.ic i0 i1, h.szc i0 i1, fun t ht => hI t (h.step i0 i1 ht).1 (h.step i0 i1 ht).2, fun _ => ⟨sz1_le (by omega), trivial⟩⟩⟩
        · rw [ht2]; split
          · simp; omega
          · omega
        · have key : ∀ (l : List Int) (R : List (Option Int)), R.length = n → (∀ r ∈ l, 0 ≤ r ∧ r < (n : Int)) → foldS (u_all_ranks_3 (s.1 + 1)) (t_all_ranks_3 (s.1 + 1)) l R := fun l => by
            induction l with
            | nil => intro R _ _; trivial
            | cons x r ih =>
              intro R hR hx
              have hx0 := hx x List.mem_cons_self
              exact ⟨⟨inR hx0.1 (by rw [hR]; exact hx0.2), trivial⟩, ih _ (by unfold t_all_ranks_3; rw [lt_eq, len_setI]; exact hR) fun y hy => hx y (List.mem_cons_of_mem _ hy)⟩
          exact key _ _ hs fun r hr => mem_rng.mp (List.mem_filter.mp hr).1
      · unfold t_all_ranks_1 stepR
        simp only [lt_eq]
        rw [e2]
        rfl) hg.st
  have eM : m_all_ranks w stay goal = R := by
    rw [← eR]; unfold m_all_ranks; simp only [lt_eq, hl]
  rw [eM]
  refine ⟨?_, l, ⟨fun r r0 r1 z => ?_, fun T hT r r0 r1 es => ?_⟩⟩
  · unfold s_all_ranks
    simp only [lt_eq, hl]
    exact ⟨rgOk (by omega) (by omega), a, trivial⟩
  · rcases z with z | ⟨z, hs⟩
    · exact g r r0 r1 z
    · cases q : ix R r with
      | some k => rfl
      | none =>
        have := cl r r0 r1 q z
        rw [(cnd R r).mpr hs] at this; cases this
  · refine le T (fun r r0 r1 hr => hT r r0 r1 (.inl hr)) (fun R' r hR' hs r0 r1 hst hc => ?_) r r0 r1 es
    have hc := (cnd R' r).mp hc
    exact hT r r0 r1 (.inr ⟨hst, fun s hm => hs s (h.step r0 r1 hm).1 (h.step r0 r1 hm).2 (hc s hm)⟩)
end
end Law

/-! Sentences and where they hold. -/
namespace Law
open PySem PySem.Spec PyProof.Rows L2 MP
open MP.Enc (enc)
inductive U1 where
  | not | sn | an | sa | aa
inductive U2 where
  | and | or | su | au
def U1.w : U1 → Tx
  | .not => tx "not"
  | .sn => tx "some next"
  | .an => tx "all next"
  | .sa => tx "some always"
  | .aa => tx "all always"
def U2.w : U2 → Tx
  | .and => tx "and"
  | .or => tx "or"
  | .su => tx "some until"
  | .au => tx "all until"
inductive Fm where
  | yes
  | mark (m : Tx)
  | un (u : U1) (a : Fm)
  | bi (u : U2) (a b : Fm)
def Fm.sn : Fm → Sn
  | .yes => .n [.x (tx "yes")]
  | .mark m => .n [.x (tx "mark"), .x m]
  | .un u a => .n [.x u.w, a.sn]
  | .bi u a b => .n [.x u.w, a.sn, b.sn]
def Fm.dp : Fm → Nat
  | .yes => 1
  | .mark _ => 1
  | .un _ a => a.dp + 1
  | .bi _ a b => max a.dp b.dp + 1
def Fm.wc : Fm → Nat
  | .yes => 1
  | .mark _ => 1
  | .un _ a => a.wc + 1
  | .bi _ a b => a.wc + b.wc + 1
def Fm.good : Fm → Prop
  | .yes => True
  | .mark m => MarkRow [m]
  | .un _ a => a.good
  | .bi _ a b => a.good ∧ b.good
theorem Fm.isN (f : Fm) : f.sn.isN = true := by cases f <;> rfl
theorem u1_look (u : U1) : lookX u.w tab_PARTS = some 1 := by cases u <;> decide +kernel
theorem u2_look (u : U2) : lookX u.w tab_PARTS = some 2 := by cases u <;> decide +kernel
theorem u1_mark (u : U1) : u.w ≠ tx "mark" := by cases u <;> decide +kernel
theorem u2_mark (u : U2) : u.w ≠ tx "mark" := by cases u <;> decide +kernel
theorem u1_yes (u : U1) : u.w ≠ tx "yes" := by cases u <;> decide +kernel
theorem u2_yes (u : U2) : u.w ≠ tx "yes" := by cases u <;> decide +kernel
theorem yes_mark : tx "yes" ≠ tx "mark" := by decide +kernel
theorem ix_c0 {α : Type} [Inhabited α] (a : α) (l : List α) : ix (a :: l) 0 = a := by
  rw [ix_at (by decide) (by simp)]; rfl
theorem ix_c1 {α : Type} [Inhabited α] (a b : α) (l : List α) : ix (a :: b :: l) 1 = b := by
  rw [ix_at (by decide) (by simp; omega)]; rfl
theorem in0 {α : Type} (a : α) (l : List α) : InR (a :: l).length 0 := inR (by decide) (by simp)
theorem in1 {α : Type} (a b : α) (l : List α) : InR (a :: b :: l).length 1 := inR (by decide) (by simp; omega)
/-- a word with parts -/
theorem wm_word {wd : Tx} {ps : List Sn} {fuel : Nat} (hl : lookX wd tab_PARTS = some (ps.length : Int)) (hm : wd ≠ tx "mark") (hz : ps.length ≤ 1000) (hp : ∀ p ∈ ps, p.isN = true ∧ s_well_made fuel p ∧ m_well_made fuel p = true) :
    s_well_made (fuel + 1) (.n (.x wd :: ps)) ∧ m_well_made (fuel + 1) (.n (.x wd :: ps)) = true := by
  have e0 : Sn.its (.n (.x wd :: ps)) = .x wd :: ps := rfl
  have e1 : Sn.tx (ix (.x wd :: ps : List Sn) 0) = wd := by rw [ix_c0]; rfl
  have e2 : Sn.isX (ix (.x wd :: ps : List Sn) 0) = true := by rw [ix_c0]; rfl
  have e3 : Sn.its (Sn.n (List.drop 1 (.x wd :: ps))) = ps := rfl
  have el : MP.len (.x wd :: ps : List Sn) = (ps.length : Int) + 1 := by show (((.x wd :: ps : List Sn).length : Nat) : Int) = _; simp
  constructor
  · simp only [s_well_made, e0, e1, e2, e3]
    refine ⟨rfl, fun _ => rfl, fun _ => in0 _ _, fun _ => ⟨rfl, in0 _ _, trivial, fun z => absurd (of_decide_eq_true z) hm, fun _ => ⟨rfl, in0 _ _, trivial, fun _ => rfl, fun _ => rfl, fun _ => in0 _ _, fun _ => trivial, fun _ => by rw [hl]; rfl, fun _ => ⟨rfl, by simp, rfl, sz_le (by omega), fun p hpm _ => (hp p hpm).2.1, trivial⟩⟩⟩⟩
  · simp only [m_well_made, e0, e1, e2, e3]
    rw [if_neg (by rw [el]; simp; omega), if_neg (by simpa using hm), if_neg (by rw [hl, el]; simp [uw]), List.all_eq_true]
    intro p hpm
    rw [(hp p hpm).1, (hp p hpm).2.2]; rfl
theorem wm_mark {m : Tx} {fuel : Nat} (h : MarkRow [m]) : s_well_made (fuel + 1) (.n [.x (tx "mark"), .x m]) ∧ m_well_made (fuel + 1) (.n [.x (tx "mark"), .x m]) = true := by
  have e0 : Sn.its (.n [.x (tx "mark"), .x m]) = [.x (tx "mark"), .x m] := rfl
  have e1 : Sn.tx (ix ([.x (tx "mark"), .x m] : List Sn) 0) = tx "mark" := by rw [ix_c0]; rfl
  have e2 : Sn.isX (ix ([.x (tx "mark"), .x m] : List Sn) 0) = true := by rw [ix_c0]; rfl
  have e3 : Sn.tx (ix ([.x (tx "mark"), .x m] : List Sn) 1) = m := by rw [ix_c1]; rfl
  have e4 : Sn.isX (ix ([.x (tx "mark"), .x m] : List Sn) 1) = true := by rw [ix_c1]; rfl
  constructor
  · simp only [s_well_made, e0, e1, e2, e3, e4]
    refine ⟨rfl, fun _ => rfl, fun _ => in0 _ _, fun _ => ⟨rfl, in0 _ _, trivial, fun _ => ⟨rfl, fun _ => rfl, fun _ => in1 _ _ _, fun _ _ => rfl, fun _ _ => in1 _ _ _, fun _ _ => trivial, fun _ _ => s_are_marks_ok h.2.1 h.2.2, trivial⟩, fun z => by simp at z⟩⟩
  · simp only [m_well_made, e0, e1, e2, e3, e4]
    rw [if_neg (by simp [MP.len]), if_pos (by simp), h.1]
    rfl
theorem well_made_ok : ∀ (f : Fm) (fuel : Nat), f.good → f.dp ≤ fuel → s_well_made fuel f.sn ∧ m_well_made fuel f.sn = true := by
  intro f
  induction f with
  | yes =>
    intro fuel _ hd
    obtain ⟨k, rfl⟩ : ∃ k, fuel = k + 1 := ⟨fuel - 1, by unfold Fm.dp at hd; omega⟩
    exact wm_word (ps := []) (by decide +kernel) yes_mark (by simp) (fun p hp => by cases hp)
  | mark m =>
    intro fuel hg hd
    obtain ⟨k, rfl⟩ : ∃ k, fuel = k + 1 := ⟨fuel - 1, by unfold Fm.dp at hd; omega⟩
    exact wm_mark hg
  | un u a ih =>
    intro fuel hg hd
    unfold Fm.dp at hd
    obtain ⟨k, rfl⟩ : ∃ k, fuel = k + 1 := ⟨fuel - 1, by omega⟩
    refine wm_word (ps := [a.sn]) (u1_look u) (u1_mark u) (by simp) fun p hp => ?_
    rw [List.mem_singleton] at hp
    subst hp
    exact ⟨a.isN, ih k hg (by omega)⟩
  | bi u a b iha ihb =>
    intro fuel hg hd
    unfold Fm.dp at hd
    obtain ⟨k, rfl⟩ : ∃ k, fuel = k + 1 := ⟨fuel - 1, by omega⟩
    refine wm_word (ps := [a.sn, b.sn]) (u2_look u) (u2_mark u) (by simp) fun p hp => ?_
    rcases List.mem_cons.mp hp with rfl | hp
    · exact ⟨a.isN, iha k hg.1 (by omega)⟩
    · rw [List.mem_singleton] at hp
      subst hp
      exact ⟨b.isN, ihb k hg.2 (by omega)⟩
theorem parts_word {wd : Tx} {ps : List Sn} (hm : wd ≠ tx "mark") : s_parts_of (.n (.x wd :: ps)) ∧ m_parts_of (.n (.x wd :: ps)) = ps := by
  have e0 : Sn.its (.n (.x wd :: ps)) = .x wd :: ps := rfl
  have e1 : Sn.tx (ix (.x wd :: ps : List Sn) 0) = wd := by rw [ix_c0]; rfl
  have e2 : Sn.isX (ix (.x wd :: ps : List Sn) 0) = true := by rw [ix_c0]; rfl
  constructor
  · unfold s_parts_of
    rw [e0, e1, e2]
    exact ⟨rfl, in0 _ _, rfl, fun _ => ⟨rfl, by simp, rfl, trivial⟩⟩
  · unfold m_parts_of
    rw [e0, e1, if_neg (by simpa using hm)]
    rfl
theorem parts_mark {ps : List Sn} : s_parts_of (.n (.x (tx "mark") :: ps)) ∧ m_parts_of (.n (.x (tx "mark") :: ps)) = [] := by
  have e0 : Sn.its (.n (.x (tx "mark") :: ps)) = .x (tx "mark") :: ps := rfl
  have e1 : Sn.tx (ix (.x (tx "mark") :: ps : List Sn) 0) = tx "mark" := by rw [ix_c0]; rfl
  have e2 : Sn.isX (ix (.x (tx "mark") :: ps : List Sn) 0) = true := by rw [ix_c0]; rfl
  constructor
  · unfold s_parts_of
    rw [e0, e1, e2]
    exact ⟨rfl, in0 _ _, rfl, fun _ => ⟨rfl, by simp, rfl, trivial⟩⟩
  · unfold m_parts_of
    rw [e0, e1, if_pos (by simp)]
theorem count_deep_ok : ∀ (f : Fm) (fuel : Nat), f.dp ≤ fuel → (s_count fuel f.sn ∧ m_count fuel f.sn = f.wc) ∧ s_deep fuel f.sn ∧ m_deep fuel f.sn = f.dp := by
  intro f
  have step : ∀ (s : Sn) (ps : List Sn) (k : Nat) (cs ds : List Int), s_parts_of s → m_parts_of s = ps → ps.length ≤ 1000 → (∀ p ∈ ps, s_count k p ∧ s_deep k p) → ps.map (m_count k) = cs → ps.map (m_deep k) = ds →
      (s_count (k + 1) s ∧ m_count (k + 1) s = 1 + cs.sum) ∧ s_deep (k + 1) s ∧ m_deep (k + 1) s = 1 + maxI ds := fun s ps k cs ds h1 h2 hz h3 h4 h5 => by
    subst h4 h5 h2
    exact ⟨⟨⟨h1, sz_le (by omega), fun p hp => (h3 p hp).1, trivial⟩, rfl⟩, ⟨h1, sz_le (by omega), fun p hp => (h3 p hp).2, trivial⟩, rfl⟩
  induction f with
  | yes =>
    intro fuel hd
    obtain ⟨k, rfl⟩ : ∃ k, fuel = k + 1 := ⟨fuel - 1, by unfold Fm.dp at hd; omega⟩
    exact step _ [] k [] [] (parts_word yes_mark).1 (parts_word yes_mark).2 (by simp) (fun p hp => by cases hp) rfl rfl
  | mark m =>
    intro fuel hd
    obtain ⟨k, rfl⟩ : ∃ k, fuel = k + 1 := ⟨fuel - 1, by unfold Fm.dp at hd; omega⟩
    exact step _ [] k [] [] parts_mark.1 parts_mark.2 (by simp) (fun p hp => by cases hp) rfl rfl
  | un u a ih =>
    intro fuel hd
    unfold Fm.dp at hd
    obtain ⟨k, rfl⟩ : ∃ k, fuel = k + 1 := ⟨fuel - 1, by omega⟩
    obtain ⟨⟨a1, a2⟩, a3, a4⟩ := ih k (by omega)
    obtain ⟨⟨x1, x2⟩, x3, x4⟩ := step (.n [.x u.w, a.sn]) [a.sn] k [(a.wc : Int)] [(a.dp : Int)] (parts_word (u1_mark u)).1 (parts_word (u1_mark u)).2 (by simp) (fun p hp => by rw [List.mem_singleton] at hp; subst hp; exact ⟨a1, a3⟩) (by rw [List.map_cons, a2]; rfl) (by rw [List.map_cons, a4]; rfl)
    refine ⟨⟨x1, x2.trans ?_⟩, x3, x4.trans ?_⟩
    · show 1 + ([(a.wc : Int)]).sum = ((a.wc + 1 : Nat) : Int)
      simp; omega
    · show 1 + maxI [(a.dp : Int)] = ((a.dp + 1 : Nat) : Int)
      unfold maxI; simp; omega
  | bi u a b iha ihb =>
    intro fuel hd
    unfold Fm.dp at hd
    obtain ⟨k, rfl⟩ : ∃ k, fuel = k + 1 := ⟨fuel - 1, by omega⟩
    obtain ⟨⟨a1, a2⟩, a3, a4⟩ := iha k (by omega)
    obtain ⟨⟨b1, b2⟩, b3, b4⟩ := ihb k (by omega)
    obtain ⟨⟨x1, x2⟩, x3, x4⟩ := step (.n [.x u.w, a.sn, b.sn]) [a.sn, b.sn] k [(a.wc : Int), (b.wc : Int)] [(a.dp : Int), (b.dp : Int)] (parts_word (u2_mark u)).1 (parts_word (u2_mark u)).2 (by simp) (fun p hp => by
      rcases List.mem_cons.mp hp with rfl | hp
      · exact ⟨a1, a3⟩
      · rw [List.mem_singleton] at hp; subst hp; exact ⟨b1, b3⟩) (by rw [List.map_cons, a2, List.map_cons, b2]; rfl) (by rw [List.map_cons, a4, List.map_cons, b4]; rfl)
    refine ⟨⟨x1, x2.trans ?_⟩, x3, x4.trans ?_⟩
    · show 1 + ([(a.wc : Int), (b.wc : Int)]).sum = ((a.wc + b.wc + 1 : Nat) : Int)
      simp; omega
    · show 1 + maxI [(a.dp : Int), (b.dp : Int)] = ((max a.dp b.dp + 1 : Nat) : Int)
      unfold maxI
      simp only [List.foldl_cons, List.foldl_nil]
      split <;> omega
theorem is_sentence_ok {f : Fm} (hg : f.good) (hd : f.dp ≤ 24) (hw : f.wc ≤ 200) : s_is_sentence f.sn ∧ m_is_sentence f.sn = true := by
  obtain ⟨a, b⟩ := well_made_ok f 30 hg (by omega)
  obtain ⟨⟨c, d⟩, e, g⟩ := count_deep_ok f 30 (by omega)
  constructor
  · exact ⟨a, fun _ => c, fun _ _ => e, trivial⟩
  · unfold m_is_sentence
    rw [b, d, g, decide_eq_true (by omega), decide_eq_true (by omega)]
    rfl
theorem ask_sentence_ok {f : Fm} (hg : f.good) (hd : f.dp ≤ 24) (hw : f.wc ≤ 200) : s_ask_sentence f.sn ∧ m_ask_sentence f.sn = .ok () := by
  obtain ⟨a, b⟩ := is_sentence_ok hg hd hw
  refine ⟨⟨a, trivial⟩, ?_⟩
  unfold m_ask_sentence
  rw [b]; rfl
end Law

/-! Where sentences hold. -/
namespace Law
open PySem PySem.Spec PyProof.Rows L2 MP
open MP.Enc (enc)
theorem lf_congr {n : Nat} {F G : (Int → Prop) → Int → Prop} (h : ∀ T (r : Int), 0 ≤ r → r < n → (F T r ↔ G T r)) {r : Int} : Lf n F r ↔ Lf n G r :=
  ⟨fun z T hT => z T fun r h0 h1 y => hT r h0 h1 ((h T r h0 h1).mp y), fun z T hT => z T fun r h0 h1 y => hT r h0 h1 ((h T r h0 h1).mpr y)⟩
/-- where a sentence holds -/
def Sat (w : W) (n : Nat) : Fm → Int → Prop
  | .yes, _ => True
  | .mark m, r => m ∈ ix w.b r
  | .un .not a, r => ¬ Sat w n a r
  | .un .sn a, r => ∃ s ∈ ix w.c r, Sat w n a s
  | .un .an a, r => ∀ s ∈ ix w.c r, Sat w n a s
  | .un .sa a, r => ¬ Lf n (FA w (fun _ => True) fun s => ¬ Sat w n a s) r
  | .un .aa a, r => ¬ Lf n (FE w (fun _ => True) fun s => ¬ Sat w n a s) r
  | .bi .and a b, r => Sat w n a r ∧ Sat w n b r
  | .bi .or a b, r => Sat w n a r ∨ Sat w n b r
  | .bi .su a b, r => Lf n (FE w (Sat w n a) (Sat w n b)) r
  | .bi .au a b, r => Lf n (FA w (Sat w n a) (Sat w n b)) r
section
variable {w : W} {n : Nat} (h : Wok w n)
include h
theorem others_ok {l : List Int} : s_others w l ∧ RL n (m_others w l) ∧ ∀ r : Int, 0 ≤ r → r < n → (r ∈ m_others w l ↔ r ∉ l) := by
  have n24 := h.n24
  refine ⟨⟨by rw [h.len]; exact rgOk (by omega) (by omega), trivial⟩, ?_, fun r h0 h1 => ?_⟩
  · unfold m_others; rw [h.len]; exact RL.filter _
  · unfold m_others
    rw [h.len, List.mem_filter, mem_rng]
    simp [h0, h1]
theorem stepping_ok {wd : Tx} {l : List Int} : s_stepping w wd l ∧ RL n (m_stepping w wd l) ∧ ∀ r : Int, 0 ≤ r → r < n → (r ∈ m_stepping w wd l ↔ (∀ s ∈ ix w.c r, s ∈ l) ∨ (wd = tx "some next" ∧ ∃ s ∈ ix w.c r, s ∈ l)) := by
  have n24 := h.n24
  have hl := h.len
  have ht : ∀ s r, t_stepping_1 w wd l s r = if (decide (MP.len ((ix w.c r).filter fun t => decide (t ∈ l)) = MP.len (ix w.c r)) || (decide (wd = tx "some next") && decide ((0 : Int) < MP.len ((ix w.c r).filter fun t => decide (t ∈ l))))) = true then s ++ [r] else s := fun s r => by
    unfold t_stepping_1
    simp only [lt_eq]
  have e : m_stepping w wd l = (rng (n : Int)).filter fun r => (decide (MP.len ((ix w.c r).filter fun t => decide (t ∈ l)) = MP.len (ix w.c r)) || (decide (wd = tx "some next") && decide ((0 : Int) < MP.len ((ix w.c r).filter fun t => decide (t ∈ l))))) := by
    unfold m_stepping
    simp only [lt_eq, hl]
    rw [fold_filter ht]; simp
  refine ⟨?_, ?_, fun r h0 h1 => ?_⟩
  · unfold s_stepping
    simp only [lt_eq, hl]
    refine ⟨rgOk (by omega) (by omega), foldS_rng (fun i a => a.length ≤ i) (Nat.le_refl _) fun i hi a ha => ⟨?_, ?_⟩, trivial⟩
    · have i0 : (0 : Int) ≤ i := by omega
      have i1 : (i : Int) < n := by omega
      exact ⟨h.ic i0 i1, h.szc i0 i1, h.ic i0 i1, fun _ => ⟨sz1_le (by omega), trivial⟩⟩
    · rw [ht]; split
      · simp; omega
      · omega
  · rw [e]; exact RL.filter _
  · rw [e, List.mem_filter, mem_rng, Bool.or_eq_true, Bool.and_eq_true, decide_eq_true_eq, decide_eq_true_eq, decide_eq_true_eq]
    unfold MP.len
    rw [Int.ofNat_inj, filter_all, Int.natCast_pos, filter_pos]
    simp [h0, h1]
theorem by_ranks_ok {wd : Tx} {R : List (Option Int)} (hR : R.length = n) : s_rooms_by_ranks wd R ∧ RL n (m_rooms_by_ranks wd R) ∧ ∀ r : Int, 0 ≤ r → r < n → (r ∈ m_rooms_by_ranks wd R ↔ ((ix R r).isSome = true ↔ (wd = tx "some until" ∨ wd = tx "all until"))) := by
  have n24 := h.n24
  have e : MP.len R = n := by show (R.length : Int) = n; rw [hR]
  refine ⟨?_, ?_, fun r h0 h1 => ?_⟩
  · unfold s_rooms_by_ranks
    simp only [lt_eq, e]
    refine ⟨rgOk (by omega) (by omega), fun r hr => ?_, trivial⟩
    have := mem_rng.mp hr
    exact inR this.1 (by rw [hR]; exact this.2)
  · unfold m_rooms_by_ranks
    simp only [lt_eq, e]; exact RL.filter _
  · unfold m_rooms_by_ranks
    simp only [lt_eq, e, List.mem_filter, mem_rng, h0, h1, true_and, decide_eq_true_eq]
    rw [Bool.eq_iff_iff]
    simp
/-- of a word with parts that have been judged -/
theorem judged_word {wd : Tx} {ps : List Sn} {k : Nat} (hy : wd ≠ tx "yes") (hm : wd ≠ tx "mark") (hp0 : 0 < ps.length) (hz : ps.length ≤ 1000) (hs : ∀ p ∈ ps, s_judged k w p)
    (hT : (wd.has (tx "until") || wd.has (tx "always")) = true → s_time_ranks w wd (ix (ps.map (m_judged k w)) 0) (ix (ps.map (m_judged k w)) (-1)) ∧ s_rooms_by_ranks wd (m_time_ranks w wd (ix (ps.map (m_judged k w)) 0) (ix (ps.map (m_judged k w)) (-1))))
    (hP : (wd.has (tx "until") || wd.has (tx "always")) = false → s_plain_rooms w (.n (.x wd :: ps)) (ps.map (m_judged k w))) :
    s_judged (k + 1) w (.n (.x wd :: ps)) ∧ m_judged (k + 1) w (.n (.x wd :: ps)) = if (wd.has (tx "until") || wd.has (tx "always")) = true then m_rooms_by_ranks wd (m_time_ranks w wd (ix (ps.map (m_judged k w)) 0) (ix (ps.map (m_judged k w)) (-1))) else m_plain_rooms w (.n (.x wd :: ps)) (ps.map (m_judged k w)) := by
  have e0 : Sn.its (.n (.x wd :: ps)) = .x wd :: ps := rfl
  have e1 : Sn.tx (ix (.x wd :: ps : List Sn) 0) = wd := by rw [ix_c0]; rfl
  have e2 : Sn.isX (ix (.x wd :: ps : List Sn) 0) = true := by rw [ix_c0]; rfl
  have e3 : Sn.its (Sn.n (List.drop 1 (.x wd :: ps))) = ps := rfl
  have hb : (decide (wd = tx "yes") || decide (wd = tx "mark")) = false := by simp [hy, hm]
  constructor
  · simp only [s_judged, e0, e1, e2, e3, lt_eq, hb]
    refine ⟨rfl, in0 _ _, trivial, fun _ => rfl, fun _ => in0 _ _, fun _ => trivial, (fun z => by cases z), fun _ => ⟨rfl, by simp, rfl, sz_le (by omega), hs, rfl, in0 _ _, trivial, fun _ => rfl, fun _ => in0 _ _, fun _ => trivial, fun z => ⟨rfl, in0 _ _, trivial, rfl, in0 _ _, trivial, inR (by decide) (by simp; omega), ⟨by simp; omega, by simp; omega⟩, (hT z).1, (hT z).2, trivial⟩, fun z => ⟨hP z, trivial⟩⟩⟩
  · simp only [m_judged, e0, e1, e2, e3, lt_eq, hb]
    rw [if_neg (by decide)]
theorem yes_ok {k : Nat} : s_judged (k + 1) w (Fm.sn .yes) ∧ m_judged (k + 1) w (Fm.sn .yes) = rng (n : Int) := by
  have n24 := h.n24
  have e0 : Sn.its (Fm.sn .yes) = [.x (tx "yes")] := rfl
  have e1 : Sn.tx (ix ([.x (tx "yes")] : List Sn) 0) = tx "yes" := by rw [ix_c0]; rfl
  have e2 : Sn.isX (ix ([.x (tx "yes")] : List Sn) 0) = true := by rw [ix_c0]; rfl
  have hb : (decide (tx "yes" = tx "yes") || decide (tx "yes" = tx "mark")) = true := by simp
  constructor
  · simp only [s_judged, e0, e1, e2, hb]
    refine ⟨rfl, in0 _ _, trivial, fun _ => rfl, fun _ => in0 _ _, fun _ => trivial, fun _ => ⟨?_, trivial⟩, fun z => absurd z (by simp)⟩
    unfold s_plain_rooms
    simp only [lt_eq, e0, e1, e2, h.len]
    exact ⟨rfl, in0 _ _, trivial, rgOk (by omega) (by omega), fun z => by simp at z⟩
  · simp only [m_judged, e0, e1]
    rw [if_pos (by simp)]
    unfold m_plain_rooms
    simp only [lt_eq, e0, e1, h.len]
    rw [if_pos (by simp)]
theorem mark_ok {m : Tx} {k : Nat} : s_judged (k + 1) w (Fm.sn (.mark m)) ∧ m_judged (k + 1) w (Fm.sn (.mark m)) = (rng (n : Int)).filter fun r => decide (m ∈ ix w.b r) := by
  have n24 := h.n24
  have e0 : Sn.its (Fm.sn (.mark m)) = [.x (tx "mark"), .x m] := rfl
  have e1 : Sn.tx (ix ([.x (tx "mark"), .x m] : List Sn) 0) = tx "mark" := by rw [ix_c0]; rfl
  have e2 : Sn.isX (ix ([.x (tx "mark"), .x m] : List Sn) 0) = true := by rw [ix_c0]; rfl
  have e3 : Sn.tx (ix ([.x (tx "mark"), .x m] : List Sn) 1) = m := by rw [ix_c1]; rfl
  have e4 : Sn.isX (ix ([.x (tx "mark"), .x m] : List Sn) 1) = true := by rw [ix_c1]; rfl
  have ny : ¬ tx "mark" = tx "yes" := fun z => yes_mark z.symm
  have hb : (decide (tx "mark" = tx "yes") || decide (tx "mark" = tx "mark")) = true := by simp
  constructor
  · simp only [s_judged, e0, e1, e2, hb]
    refine ⟨rfl, in0 _ _, trivial, fun _ => rfl, fun _ => in0 _ _, fun _ => trivial, fun _ => ⟨?_, trivial⟩, fun z => absurd z (by simp)⟩
    unfold s_plain_rooms
    simp only [lt_eq, e0, e1, e2, e4, h.len]
    exact ⟨rfl, in0 _ _, trivial, rgOk (by omega) (by omega), fun _ => ⟨fun _ => ⟨sz_le (by rw [rng_length]; omega), fun _ _ => rfl, fun _ _ => in1 _ _ _, fun _ _ => trivial, fun r hr => h.ib (mem_rng.mp hr).1 (mem_rng.mp hr).2, trivial⟩, fun z => by simp at z⟩⟩
  · simp only [m_judged, e0, e1]
    rw [if_pos (by simp)]
    unfold m_plain_rooms
    simp only [lt_eq, e0, e1, e3, h.len]
    rw [if_neg (by simpa using ny), if_pos (by simp)]
theorem time_ok {wd : Tx} {A B : List Int} (hA : RL n A) (hB : RL n B) : s_time_ranks w wd A B ∧ (m_time_ranks w wd A B).length = n ∧
    (wd = tx "some until" → Mu n (FE w (· ∈ A) (· ∈ B)) fun r => (ix (m_time_ranks w wd A B) r).isSome = true) ∧
    (wd = tx "all until" → Mu n (FA w (· ∈ A) (· ∈ B)) fun r => (ix (m_time_ranks w wd A B) r).isSome = true) ∧
    (wd = tx "some always" → Mu n (FA w (· ∈ rng (n : Int)) (· ∈ m_others w A)) fun r => (ix (m_time_ranks w wd A B) r).isSome = true) ∧
    (wd = tx "all always" → Mu n (FE w (· ∈ rng (n : Int)) (· ∈ m_others w A)) fun r => (ix (m_time_ranks w wd A B) r).isSome = true) := by
  have n24 := h.n24
  have hl := h.len
  obtain ⟨o1, o2, o3⟩ := others_ok h (l := A)
  obtain ⟨a1, a2, a3⟩ := some_ranks_ok h (stay := A) hB
  obtain ⟨b1, b2, b3⟩ := all_ranks_ok h (stay := A) hB
  obtain ⟨c1, c2, c3⟩ := all_ranks_ok h (stay := rng (n : Int)) o2
  obtain ⟨d1, d2, d3⟩ := some_ranks_ok h (stay := rng (n : Int)) o2
  have ne : ∀ a b : String, (decide (tx a = tx b) = false) → tx a ≠ tx b := fun a b z y => by rw [y] at z; simp at z
  constructor
  · unfold s_time_ranks
    simp only [lt_eq, hl]
    exact ⟨rgOk (by omega) (by omega), fun _ => ⟨a1, trivial⟩, fun _ => ⟨fun _ => ⟨b1, trivial⟩, fun _ => ⟨fun _ => ⟨o1, c1, trivial⟩, fun _ => ⟨o1, d1, trivial⟩⟩⟩⟩
  · unfold m_time_ranks
    simp only [lt_eq, hl]
    refine ⟨?_, fun e => ?_, fun e => ?_, fun e => ?_, fun e => ?_⟩
    · split
      · exact a2
      · split
        · exact b2
        · split
          · exact c2
          · exact d2
    · subst e
      rw [if_pos (by simp)]; exact a3
    · subst e
      rw [if_neg (by decide +kernel), if_pos (by simp)]; exact b3
    · subst e
      rw [if_neg (by decide +kernel), if_neg (by decide +kernel), if_pos (by simp)]; exact c3
    · subst e
      rw [if_neg (by decide +kernel), if_neg (by decide +kernel), if_neg (by decide +kernel)]; exact d3
theorem judge_ok : ∀ (f : Fm) (fuel : Nat), f.dp ≤ fuel → s_judged fuel w f.sn ∧ RL n (m_judged fuel w f.sn) ∧ ∀ r : Int, 0 ≤ r → r < n → (r ∈ m_judged fuel w f.sn ↔ Sat w n f r) := by
  have n24 := h.n24
  intro f
  induction f with
  | yes =>
    intro fuel hd
    obtain ⟨k, rfl⟩ : ∃ k, fuel = k + 1 := ⟨fuel - 1, by unfold Fm.dp at hd; omega⟩
    obtain ⟨a, b⟩ := yes_ok h (k := k)
    rw [b]
    exact ⟨a, RL.rng n, fun r h0 h1 => by simp [mem_rng, h0, h1, Sat]⟩
  | mark m =>
    intro fuel hd
    obtain ⟨k, rfl⟩ : ∃ k, fuel = k + 1 := ⟨fuel - 1, by unfold Fm.dp at hd; omega⟩
    obtain ⟨a, b⟩ := mark_ok h (m := m) (k := k)
    rw [b]
    exact ⟨a, RL.filter _, fun r h0 h1 => by simp [List.mem_filter, mem_rng, h0, h1, Sat]⟩
  | un u a ih =>
    intro fuel hd
    have hd : a.dp + 1 ≤ fuel := hd
    obtain ⟨k, rfl⟩ : ∃ k, fuel = k + 1 := ⟨fuel - 1, by omega⟩
    obtain ⟨i1, i2, i3⟩ := ih k (by omega)
    obtain ⟨J, hJ⟩ : ∃ J, J = m_judged k w a.sn := ⟨_, rfl⟩
    rw [← hJ] at i2 i3
    have p0 : ix ([a.sn].map (m_judged k w)) 0 = J := by rw [List.map_cons, ix_c0, hJ]
    have p1 : ix ([a.sn].map (m_judged k w)) (-1) = J := by rw [hJ]; rfl
    obtain ⟨t1, t2, t3, t4, t5, t6⟩ := time_ok h (wd := u.w) (A := J) (B := J) i2 i2
    obtain ⟨r1, r2, r3⟩ := by_ranks_ok h (wd := u.w) t2
    obtain ⟨o1, o2, o3⟩ := others_ok h (l := J)
    obtain ⟨s1, s2, s3⟩ := stepping_ok h (wd := u.w) (l := J)
    have e0 : Sn.its (.n [.x u.w, a.sn]) = [.x u.w, a.sn] := rfl
    have e1 : Sn.tx (ix ([.x u.w, a.sn] : List Sn) 0) = u.w := by rw [ix_c0]; rfl
    have e2 : Sn.isX (ix ([.x u.w, a.sn] : List Sn) 0) = true := by rw [ix_c0]; rfl
    have wd2 : ∀ u : U1, u.w ≠ tx "and" ∧ u.w ≠ tx "or" := fun u => by cases u <;> constructor <;> decide +kernel
    have wn : ∀ u : U1, u.w = tx "not" → u = .not := fun u e => by cases u <;> first | rfl | (exact absurd e (by decide +kernel))
    have key := judged_word h (wd := u.w) (ps := [a.sn]) (k := k) (u1_yes u) (u1_mark u) (by simp) (by simp) (fun p hp => by rw [List.mem_singleton] at hp; subst hp; exact i1)
      (fun _ => by rw [p0, p1]; exact ⟨t1, r1⟩) (fun _ => by
        unfold s_plain_rooms
        simp only [lt_eq, e0, e1, e2, p0, h.len]
        exact ⟨rfl, in0 _ _, trivial, rgOk (by omega) (by omega), fun _ => ⟨fun z => absurd (of_decide_eq_true z) (u1_mark u), fun _ => ⟨fun _ => ⟨in0 _ _, o1, trivial⟩, fun _ => ⟨fun z => absurd (of_decide_eq_true z) (wd2 u).1, fun _ => ⟨fun z => absurd (of_decide_eq_true z) (wd2 u).2, fun _ => ⟨in0 _ _, s1, trivial⟩⟩⟩⟩⟩⟩)
    rw [p0, p1] at key
    obtain ⟨k1, k2⟩ := key
    have k2 : m_judged (k + 1) w (Fm.sn (.un u a)) = _ := k2
    refine ⟨k1, ?_⟩
    rw [k2]
    have pl : m_plain_rooms w (.n [.x u.w, a.sn]) ([a.sn].map (m_judged k w)) = if u.w = tx "not" then m_others w J else m_stepping w u.w J := by
      unfold m_plain_rooms
      simp only [lt_eq, e0, e1, p0]
      rw [if_neg (by simpa using u1_yes u), if_neg (by simpa using u1_mark u)]
      by_cases q : u.w = tx "not"
      · rw [if_pos (by simpa using q), if_pos q]
      · rw [if_neg (by simpa using q), if_neg q, if_neg (by simpa using (wd2 u).1), if_neg (by simpa using (wd2 u).2)]
    have bd : ∀ r : Int, 0 ≤ r → r < n → (r ∈ rng (n : Int) ↔ True) := fun r h0 h1 => by simp [mem_rng, h0, h1]
    have nJ : ∀ r : Int, 0 ≤ r → r < n → (r ∈ m_others w J ↔ ¬ Sat w n a r) := fun r h0 h1 => by rw [o3 r h0 h1, i3 r h0 h1]
    cases u with
    | not =>
      rw [if_neg (by decide +kernel), pl, if_pos (show U1.not.w = tx "not" from rfl)]
      exact ⟨o2, fun r h0 h1 => nJ r h0 h1⟩
    | sn =>
      rw [if_neg (by decide +kernel), pl, if_neg (by decide +kernel)]
      refine ⟨s2, fun r h0 h1 => ?_⟩
      rw [s3 r h0 h1]
      constructor
      · rintro (z | ⟨_, s, hs, z⟩)
        · obtain ⟨s, hs⟩ := List.exists_mem_of_ne_nil _ (h.ne _ (h.row h0 h1))
          exact ⟨s, hs, (i3 s (h.step h0 h1 hs).1 (h.step h0 h1 hs).2).mp (z s hs)⟩
        · exact ⟨s, hs, (i3 s (h.step h0 h1 hs).1 (h.step h0 h1 hs).2).mp z⟩
      · rintro ⟨s, hs, z⟩
        exact .inr ⟨rfl, s, hs, (i3 s (h.step h0 h1 hs).1 (h.step h0 h1 hs).2).mpr z⟩
    | an =>
      rw [if_neg (by decide +kernel), pl, if_neg (by decide +kernel)]
      refine ⟨s2, fun r h0 h1 => ?_⟩
      rw [s3 r h0 h1]
      constructor
      · rintro (z | ⟨z, _⟩)
        · exact fun s hs => (i3 s (h.step h0 h1 hs).1 (h.step h0 h1 hs).2).mp (z s hs)
        · exact absurd z (by decide +kernel)
      · exact fun z => .inl fun s hs => (i3 s (h.step h0 h1 hs).1 (h.step h0 h1 hs).2).mpr (z s hs)
    | sa =>
      rw [if_pos (by decide +kernel)]
      refine ⟨r2, fun r h0 h1 => ?_⟩
      rw [r3 r h0 h1, (t5 rfl).lf h0 h1]
      have : ¬ (U1.sa.w = tx "some until" ∨ U1.sa.w = tx "all until") := by decide +kernel
      rw [iff_false_right this]
      exact not_congr (lf_congr fun T s s0 s1 => by simp only [FA, nJ s s0 s1, bd s s0 s1])
    | aa =>
      rw [if_pos (by decide +kernel)]
      refine ⟨r2, fun r h0 h1 => ?_⟩
      rw [r3 r h0 h1, (t6 rfl).lf h0 h1]
      have : ¬ (U1.aa.w = tx "some until" ∨ U1.aa.w = tx "all until") := by decide +kernel
      rw [iff_false_right this]
      exact not_congr (lf_congr fun T s s0 s1 => by simp only [FE, nJ s s0 s1, bd s s0 s1])
  | bi u a b iha ihb =>
    intro fuel hd
    have hd : max a.dp b.dp + 1 ≤ fuel := hd
    obtain ⟨k, rfl⟩ : ∃ k, fuel = k + 1 := ⟨fuel - 1, by omega⟩
    obtain ⟨i1, i2, i3⟩ := iha k (by omega)
    obtain ⟨j1, j2, j3⟩ := ihb k (by omega)
    obtain ⟨J, hJ⟩ : ∃ J, J = m_judged k w a.sn := ⟨_, rfl⟩
    obtain ⟨K, hK⟩ : ∃ K, K = m_judged k w b.sn := ⟨_, rfl⟩
    rw [← hJ] at i2 i3
    rw [← hK] at j2 j3
    have p0 : ix ([a.sn, b.sn].map (m_judged k w)) 0 = J := by rw [List.map_cons, ix_c0, hJ]
    have p2 : ix ([a.sn, b.sn].map (m_judged k w)) 1 = K := by rw [List.map_cons, List.map_cons, ix_c1, hK]
    have p1 : ix ([a.sn, b.sn].map (m_judged k w)) (-1) = K := by rw [hK]; rfl
    obtain ⟨t1, t2, t3, t4, t5, t6⟩ := time_ok h (wd := u.w) (A := J) (B := K) i2 j2
    obtain ⟨r1, r2, r3⟩ := by_ranks_ok h (wd := u.w) t2
    have e0 : Sn.its (.n [.x u.w, a.sn, b.sn]) = [.x u.w, a.sn, b.sn] := rfl
    have e1 : Sn.tx (ix ([.x u.w, a.sn, b.sn] : List Sn) 0) = u.w := by rw [ix_c0]; rfl
    have e2 : Sn.isX (ix ([.x u.w, a.sn, b.sn] : List Sn) 0) = true := by rw [ix_c0]; rfl
    have wn : ∀ u : U2, u.w ≠ tx "not" := fun u => by cases u <;> decide +kernel
    have pw : ∀ u : U2, (u.w.has (tx "until") || u.w.has (tx "always")) = false → u.w = tx "and" ∨ u.w = tx "or" := fun u e => by
      cases u
      · exact .inl rfl
      · exact .inr rfl
      · exact absurd e (by decide +kernel)
      · exact absurd e (by decide +kernel)
    have key := judged_word h (wd := u.w) (ps := [a.sn, b.sn]) (k := k) (u2_yes u) (u2_mark u) (by simp) (by simp) (fun p hp => by
        rcases List.mem_cons.mp hp with rfl | hp
        · exact i1
        · rw [List.mem_singleton] at hp; subst hp; exact j1)
      (fun _ => by rw [p0, p1]; exact ⟨t1, r1⟩) (fun hpw => by
        unfold s_plain_rooms
        simp only [lt_eq, e0, e1, e2, p0, h.len]
        exact ⟨rfl, in0 _ _, trivial, rgOk (by omega) (by omega), fun _ => ⟨fun z => absurd (of_decide_eq_true z) (u2_mark u), fun _ => ⟨fun z => absurd (of_decide_eq_true z) (wn u), fun _ => ⟨fun _ => ⟨in0 _ _, sz_le (by have := i2.len; omega), fun _ _ => in1 _ _ _, trivial⟩, fun z1 => ⟨fun _ => ⟨sz_le (by rw [rng_length]; omega), fun _ _ => in0 _ _, fun _ _ _ => in1 _ _ _, trivial⟩, fun z2 => ((pw u hpw).elim (fun e => absurd e (of_decide_eq_false z1)) (fun e => absurd e (of_decide_eq_false z2)))⟩⟩⟩⟩⟩)
    rw [p0, p1] at key
    obtain ⟨k1, k2⟩ := key
    have k2 : m_judged (k + 1) w (Fm.sn (.bi u a b)) = _ := k2
    refine ⟨k1, ?_⟩
    rw [k2]
    cases u with
    | and =>
      have pl : m_plain_rooms w (.n [.x U2.and.w, a.sn, b.sn]) ([a.sn, b.sn].map (m_judged k w)) = J.filter fun r => decide (r ∈ K) := by
        unfold m_plain_rooms
        simp only [lt_eq, e0, e1, p0, p2]
        rw [if_neg (by decide +kernel), if_neg (by decide +kernel), if_neg (by decide +kernel), if_pos (by decide +kernel)]
      rw [if_neg (by decide +kernel), pl]
      refine ⟨i2.sub List.filter_sublist, fun r h0 h1 => ?_⟩
      rw [List.mem_filter, decide_eq_true_eq, i3 r h0 h1, j3 r h0 h1]
      rfl
    | or =>
      have pl : m_plain_rooms w (.n [.x U2.or.w, a.sn, b.sn]) ([a.sn, b.sn].map (m_judged k w)) = (rng (n : Int)).filter fun r => decide (r ∈ J) || decide (r ∈ K) := by
        unfold m_plain_rooms
        simp only [lt_eq, e0, e1, p0, p2, h.len]
        rw [if_neg (by decide +kernel), if_neg (by decide +kernel), if_neg (by decide +kernel), if_neg (by decide +kernel), if_pos (by decide +kernel)]
      rw [if_neg (by decide +kernel), pl]
      refine ⟨RL.filter _, fun r h0 h1 => ?_⟩
      rw [List.mem_filter, mem_rng, Bool.or_eq_true, decide_eq_true_eq, decide_eq_true_eq, i3 r h0 h1, j3 r h0 h1]
      simp [h0, h1, Sat]
    | su =>
      rw [if_pos (by decide +kernel)]
      refine ⟨r2, fun r h0 h1 => ?_⟩
      rw [r3 r h0 h1, (t3 rfl).lf h0 h1]
      have : (U2.su.w = tx "some until" ∨ U2.su.w = tx "all until") := .inl rfl
      rw [iff_true_right this]
      exact lf_congr fun T s s0 s1 => by simp only [FE, i3 s s0 s1, j3 s s0 s1]
    | au =>
      rw [if_pos (by decide +kernel)]
      refine ⟨r2, fun r h0 h1 => ?_⟩
      rw [r3 r h0 h1, (t4 rfl).lf h0 h1]
      have : (U2.au.w = tx "some until" ∨ U2.au.w = tx "all until") := .inr rfl
      rw [iff_true_right this]
      exact lf_congr fun T s s0 s1 => by simp only [FA, i3 s s0 s1, j3 s s0 s1]
theorem holds_ok {f : Fm} (hg : f.good) (hd : f.dp ≤ 24) (hw : f.wc ≤ 200) : s_holds w f.sn ∧ ∃ J, m_holds w f.sn = .ok J ∧ RL n J ∧ ∀ r : Int, 0 ≤ r → r < n → (r ∈ J ↔ Sat w n f r) := by
  obtain ⟨a, b⟩ := ask_world_ok h
  obtain ⟨c, d⟩ := ask_sentence_ok hg hd hw
  obtain ⟨e1, e2, e3⟩ := judge_ok h f 30 (by omega)
  refine ⟨⟨a, fun _ _ => ⟨c, fun _ _ => ⟨e1, trivial⟩⟩⟩, _, ?_, e2, e3⟩
  unfold m_holds
  rw [b, d]
  rfl
end
end Law

/-! Worlds of plans; rooms with a mark. -/
namespace Law
open PySem PySem.Spec PyProof.Rows L2 MP
open MP.Enc (enc)
theorem abc_mark {i : Int} (h0 : 0 ≤ i) (h1 : i < 3) : InR (List.length (tx "abc").cs) i ∧ Sz (tx "abc").cs ∧ MarkRow [Tx.ix (tx "abc") i] := by
  have hl : (tx "abc").cs.length = 3 := by decide
  refine ⟨inR h0 (by rw [hl]; exact h1), sz_le (by rw [hl]; decide), ?_⟩
  have : i = 0 ∨ i = 1 ∨ i = 2 := by omega
  have key : ∀ l : List Tx, (decide (m_are_marks l = true) && (decide (l.length ≤ 10000) && l.all fun x => decide (x.cs.length ≤ 10000))) = true → MarkRow l := fun l h => by
    simp only [Bool.and_eq_true, decide_eq_true_eq, List.all_eq_true] at h
    exact h
  rcases this with rfl | rfl | rfl <;> exact key _ (by decide +kernel)
section
variable {w : W} {n : Nat} (h : Wok w n)
include h
theorem marked_ok {m : Tx} (hm : MarkRow [m]) : s_marked w m ∧ ∃ X, m_marked w m = .ok X ∧ RL n X ∧ ∀ r : Int, 0 ≤ r → r < n → (r ∈ X ↔ m ∈ ix w.b r) := by
  obtain ⟨a, b⟩ := ask_world_ok h
  have n24 := h.n24
  have hl := h.len
  have am : m_ask_marks [m] = .ok () := by unfold m_ask_marks; rw [hm.1]; rfl
  refine ⟨⟨a, fun _ _ => ⟨⟨s_are_marks_ok hm.2.1 hm.2.2, trivial⟩, fun _ _ => ⟨by rw [hl]; exact rgOk (by omega) (by omega), fun r hr => ?_, trivial⟩⟩⟩, (rng (n : Int)).filter fun r => decide (m ∈ ix w.b r), ?_, RL.filter _, fun r h0 h1 => ?_⟩
  · rw [hl] at hr
    exact h.ib (mem_rng.mp hr).1 (mem_rng.mp hr).2
  · unfold m_marked
    rw [b, am, hl]
    rfl
  · rw [List.mem_filter, mem_rng]; simp [h0, h1]
/-- the world of a plan -/
structure Fol (w w' : W) (n : Nat) (P : List (Option Int)) : Prop where
  wok : Wok w' n
  own : w'.a = w.a
  mks : w'.b = w.b
  no : ∀ r : Int, 0 ≤ r → r < n → ix P r = none → ix w'.c r = ix w.c r
  go : ∀ r s : Int, 0 ≤ r → r < n → ix P r = some s → ix w'.c r = [s] ∧ s ∈ ix w.c r
theorem follow_ok {p : Int} (hp : Pl p) {P : List (Option Int)} (hl : P.length = n) (hP : planB w n p P = true) : s_follow w p P ∧ ∃ w', m_follow w p P = .ok w' ∧ Fol w w' n P := by
  have n24 := h.n24
  obtain ⟨a, b⟩ := is_plan_ok h hp (P := P) (by omega)
  rw [hP] at b
  have b2 : okv (m_is_plan w p P) = true := by rw [b]; rfl
  have ap : m_ask_plan w p P = .ok () := by unfold m_ask_plan; rw [b2]; rfl
  let g (r : Int) : List Int := if (ix P r).isNone = true then ix w.c r else [uw (ix P r)]
  have ht : ∀ s r, t_follow_1 w P s r = s ++ [g r] := fun s r => by
    unfold t_follow_1
    simp only [lt_eq]
    show _ = s ++ [if _ then _ else _]
    split <;> rfl
  have eb : (w.b.map fun (marks : List Tx) => marks) = w.b := by simp
  have st : ∀ r s : Int, 0 ≤ r → r < n → ix P r = some s → s ∈ ix w.c r := fun r s h0 h1 e => by
    unfold planB at hP
    rw [Bool.and_eq_true, List.all_eq_true] at hP
    have := hP.2 r (mem_rng.mpr ⟨h0, h1⟩)
    unfold stepB at this
    rw [e] at this
    simp only [Bool.and_eq_true, decide_eq_true_eq] at this
    exact this.2
  have gn : ∀ r : Int, ix P r = none → g r = ix w.c r := fun r e => by show (if _ then _ else _) = _; rw [e]; rfl
  have gs : ∀ r s : Int, ix P r = some s → g r = [s] := fun r s e => by show (if _ then _ else _) = _; rw [e]; rfl
  have gc : ∀ r : Int, 0 ≤ r → r < n → g r ≠ [] ∧ (∀ x ∈ g r, 0 ≤ x ∧ x < (n : Int)) ∧ (g r).Pairwise (· < ·) := fun r h0 h1 => by
    cases e : ix P r with
    | none =>
      rw [gn r e]
      exact ⟨h.ne _ (h.row h0 h1), h.st _ (h.row h0 h1), h.asc _ (h.row h0 h1)⟩
    | some s =>
      rw [gs r s e]
      exact ⟨by simp, fun x hx => by rw [List.mem_singleton] at hx; subst hx; exact h.step h0 h1 (st r _ h0 h1 e), by simp⟩
  have gm : ∀ row ∈ (rng (n : Int)).map g, ∃ r, (0 ≤ r ∧ r < (n : Int)) ∧ row = g r := fun row hm => by
    obtain ⟨r, hr, e⟩ := List.mem_map.mp hm
    exact ⟨r, mem_rng.mp hr, e.symm⟩
  refine ⟨⟨⟨a, ⟨_, b⟩, trivial⟩, fun _ _ => ?_⟩, ⟨w.a, w.b, (rng (n : Int)).map g⟩, ?_, ⟨⟨h.la, h.lb, by simp [rng_length], h.n1, h.n24, h.ow, h.mks, fun row hm => ?_, fun row hm => ?_, fun row hm => ?_⟩, rfl, rfl, fun r h0 h1 e => ?_, fun r s h0 h1 e => ?_⟩⟩
  · simp only [lt_eq, h.len]
    refine ⟨rgOk (by omega) (by omega), foldS_rng (fun i s => s.length = i) rfl fun i hi s hs => ⟨?_, by rw [ht]; simp [hs]⟩, sz_le (by rw [h.lb]; omega), trivial⟩
    have i0 : (0 : Int) ≤ i := by omega
    have i1 : (i : Int) < n := by omega
    have hI : InR P.length (i : Int) := inR i0 (by rw [hl]; exact i1)
    exact ⟨hI, fun _ => ⟨h.ic i0 i1, sz1_le (by omega), trivial⟩, fun z => ⟨hI, by cases q : ix P (i : Int) <;> simp_all, sz1_le (by omega), trivial⟩⟩
  · unfold m_follow
    rw [ap]
    simp only [els, lt_eq, h.len]
    rw [fold_app ht, eb]
    simp
  · obtain ⟨r, hr, rfl⟩ := gm row hm
    exact (gc r hr.1 hr.2).1
  · obtain ⟨r, hr, rfl⟩ := gm row hm
    exact (gc r hr.1 hr.2).2.1
  · obtain ⟨r, hr, rfl⟩ := gm row hm
    exact (gc r hr.1 hr.2).2.2
  · show ix ((rng (n : Int)).map g) r = _
    rw [ix_maprng h0 h1, gn r e]
  · refine ⟨?_, st r s h0 h1 e⟩
    show ix ((rng (n : Int)).map g) r = _
    rw [ix_maprng h0 h1, gs r s e]
end
end Law

/-! Worlds of the told plans, judged. -/
namespace Law
open PySem PySem.Spec PyProof.Rows L2 MP
open MP.Enc (enc)
section
variable {w w' : W} {n : Nat} (h : Wok w n) {p : Int} (hp : Pl p) {P : List (Option Int)} (F : Fol w w' n P)
include h hp F
theorem fol_bring {rooms : List Int} {R : List (Option Int)} (B : Brg w n p (· ∈ rooms) R) (D : Dwn w n p R P) {X : Int → Prop} (hX : ∀ r : Int, 0 ≤ r → r < n → (X r ↔ r ∈ rooms)) {r : Int} (h0 : 0 ≤ r) (h1 : r < n) :
    Lf n (FA w' (fun _ => True) X) r ↔ (ix R r).isSome = true := by
  constructor
  · intro z
    refine z (fun r => (ix R r).isSome = true) fun r h0 h1 y => ?_
    rcases y with y | ⟨_, y⟩
    · rw [(B.zero r h0 h1).mpr ((hX r h0 h1).mp y)]; rfl
    · cases e : ix P r with
      | some s =>
        obtain ⟨_, k, ek, _⟩ := dwn_step h B D h0 h1 e
        rw [ek]; rfl
      | none =>
        rw [F.no r h0 h1 e] at y
        cases q : ix R r with
        | some k => rfl
        | none =>
          refine absurd ?_ (B.full r h0 h1 trivial q)
          by_cases ho : ix w.a r = p
          · obtain ⟨s, hs⟩ := List.exists_mem_of_ne_nil _ (h.ne _ (h.row h0 h1))
            exact .inl ⟨ho, s, hs, .inr (y s hs)⟩
          · exact .inr ⟨ho, fun s hs => .inr (y s hs)⟩
  · intro z T hT
    have key : ∀ (m : Nat) (r k : Int), 0 ≤ r → r < n → ix R r = some k → k ≤ m → T r := by
      intro m
      induction m with
      | zero =>
        intro r k h0 h1 e hk
        have := B.nn r k h0 h1 e
        have : k = 0 := by omega
        subst this
        exact hT r h0 h1 (.inl ((hX r h0 h1).mpr ((B.zero r h0 h1).mp e)))
      | succ m ih =>
        intro r k h0 h1 e hk
        by_cases q : k ≤ m
        · exact ih r k h0 h1 e q
        · refine hT r h0 h1 (.inr ⟨trivial, fun s hs => ?_⟩)
          by_cases ho : ix w.a r = p
          · obtain ⟨t, ht, et, j, hj, ej⟩ := D.go r k h0 h1 ho e (by omega)
            rw [(F.go r t h0 h1 et).1, List.mem_singleton] at hs
            subst hs
            exact ih s j (h.step h0 h1 ht).1 (h.step h0 h1 ht).2 ej (by omega)
          · rw [F.no r h0 h1 (D.no r h0 h1 (.inl ho))] at hs
            rcases (B.step r k h0 h1 e (by omega)).2 with ⟨c, _⟩ | ⟨_, c⟩
            · exact absurd c ho
            · obtain y | ⟨j, hj, ej⟩ := c s hs
              · exact y.elim
              · exact ih s j (h.step h0 h1 hs).1 (h.step h0 h1 hs).2 ej (by omega)
    obtain ⟨k, ek⟩ := Option.isSome_iff_exists.mp z
    exact key k.toNat r k h0 h1 ek (by have := B.nn r k h0 h1 ek; omega)
theorem fol_keep {rooms K : List Int} {R Q : List (Option Int)} (D : Kept w n p (· ∈ rooms) K P R Q) {X : Int → Prop} (hX : ∀ r : Int, 0 ≤ r → r < n → (X r ↔ r ∈ rooms)) {r : Int} (h0 : 0 ≤ r) (h1 : r < n) :
    ¬ Lf n (FE w' (fun _ => True) fun s => ¬ X s) r ↔ r ∈ K := by
  have own : ∀ r : Int, 0 ≤ r → r < n → ¬ ix w.a r = p → ix w.a r = 1 - p := fun r h0 h1 z => by
    have := h.own h0 h1
    unfold Pl at hp
    omega
  have key : Lf n (FE w' (fun _ => True) fun s => ¬ X s) r ↔ r ∉ K := by
    constructor
    · intro z
      refine z (fun r => r ∉ K) fun r h0 h1 y hk => ?_
      have hn := (D.mem r h0 h1).mp hk
      rcases y with y | ⟨_, s, hs, y⟩
      · have := (D.ranks.zero r h0 h1).mpr fun z => y ((hX r h0 h1).mpr z)
        rw [hn] at this; cases this
      · by_cases ho : ix w.a r = p
        · obtain ⟨t, ht, et, hk'⟩ := D.go r h0 h1 hk ho
          rw [(F.go r t h0 h1 et).1, List.mem_singleton] at hs
          subst hs
          exact y hk'
        · rw [F.no r h0 h1 (D.no r h0 h1 (.inr ho))] at hs
          rcases kept_can h hp D.ranks h0 h1 hn with ⟨c, _⟩ | ⟨_, c⟩
          · exact absurd c ho
          · exact y ((D.mem s (h.step h0 h1 hs).1 (h.step h0 h1 hs).2).mpr (c s hs))
    · intro z T hT
      have step : ∀ (m : Nat) (r k : Int), 0 ≤ r → r < n → ix R r = some k → k ≤ m → T r := by
        intro m
        induction m with
        | zero =>
          intro r k h0 h1 e hk
          have := D.ranks.nn r k h0 h1 e
          have : k = 0 := by omega
          subst this
          exact hT r h0 h1 (.inl fun y => (D.ranks.zero r h0 h1).mp e ((hX r h0 h1).mp y))
        | succ m ih =>
          intro r k h0 h1 e hk
          by_cases q : k ≤ m
          · exact ih r k h0 h1 e q
          · have hnk : r ∉ K := fun y => by rw [(D.mem r h0 h1).mp y] at e; cases e
            have hs : ix w'.c r = ix w.c r := F.no r h0 h1 (D.no r h0 h1 (.inl hnk))
            refine hT r h0 h1 (.inr ⟨trivial, ?_⟩)
            rw [hs]
            have low : ∀ s ∈ ix w.c r, (False ∨ ∃ j, j < k ∧ ix R s = some j) → T s := fun s hs y => by
              obtain y | ⟨j, hj, ej⟩ := y
              · exact y.elim
              · exact ih s j (h.step h0 h1 hs).1 (h.step h0 h1 hs).2 ej (by omega)
            rcases (D.ranks.step r k h0 h1 e (by omega)).2 with ⟨_, s, hs, y⟩ | ⟨_, c⟩
            · exact ⟨s, hs, low s hs y⟩
            · obtain ⟨s, hs⟩ := List.exists_mem_of_ne_nil _ (h.ne _ (h.row h0 h1))
              exact ⟨s, hs, low s hs (c s hs)⟩
      cases q : ix R r with
      | none => exact absurd ((D.mem r h0 h1).mpr q) z
      | some k => exact step k.toNat r k h0 h1 q (by have := D.ranks.nn r k h0 h1 q; omega)
  rw [key, Classical.not_not]
end
theorem rl_eq {n : Nat} {l m : List Int} (hl : RL n l) (hm : RL n m) (e : ∀ r : Int, 0 ≤ r → r < n → (r ∈ l ↔ r ∈ m)) : l = m :=
  asc_ext hl.asc hm.asc fun x => ⟨fun z => (e x (hl.st x z).1 (hl.st x z).2).mp z, fun z => (e x (hm.st x z).1 (hm.st x z).2).mpr z⟩
end Law

namespace Law
open PySem PySem.Spec PyProof.Rows L2 MP
open MP.Enc (enc)
theorem law_k86_ok (sc : Sc) : s_law_k86 sc ∧ m_law_k86 sc = true := by
  obtain ⟨sw, n, hn, h, _⟩ := world_v2_ok sc (at_ := 0) (most := 6) (by decide) (by decide)
  obtain ⟨w, hw⟩ : ∃ w, w = m_law_world_v2 sc 0 6 := ⟨_, rfl⟩
  rw [← hw] at h
  have n24 := h.n24
  have hp := pl_draw (m_law_cell_at sc 7) 0
  obtain ⟨p, hpe⟩ : ∃ p, p = m_law_draw (m_law_cell_at sc 7) 0 2 := ⟨_, rfl⟩
  rw [← hpe] at hp
  have dr := draw_rng (m_law_cell_at sc 7) 1 (b := 3) (by decide)
  obtain ⟨am1, am2, am3⟩ := abc_mark dr.1 dr.2
  obtain ⟨mk, hmk⟩ : ∃ mk, mk = Tx.ix (tx "abc") (m_law_draw (m_law_cell_at sc 7) 1 3) := ⟨_, rfl⟩
  rw [← hmk] at am3
  obtain ⟨sm, X, eX, hX, mX⟩ := marked_ok h am3
  obtain ⟨sb, R, P, eb, B, D⟩ := bring_ok h hp hX
  have hRl := B.len
  have er : MP.len R = n := by show (R.length : Int) = n; rw [hRl]
  obtain ⟨sf, w1, ef, F1⟩ := follow_ok h hp D.len (dwn_planB h B D)
  obtain ⟨sh1, J1, eh1, rJ1, mJ1⟩ := holds_ok F1.wok (f := .bi .au .yes (.mark mk)) ⟨trivial, am3⟩ (by simp [Fm.dp]) (by simp [Fm.wc])
  obtain ⟨sk, K, KP, KR, KQ, ek, hk⟩ := keep_ok h hp hX
  have pk : planB w n p KP = true := by
    unfold planB
    rw [decide_eq_true hk.len, Bool.true_and, List.all_eq_true]
    intro r hr
    obtain ⟨h0, h1⟩ := mem_rng.mp hr
    unfold stepB
    by_cases q : r ∈ K
    · by_cases ho : ix w.a r = p
      · obtain ⟨s, hs, es, _⟩ := hk.go r h0 h1 q ho
        rw [es]; simp [ho, hs]
      · rw [hk.no r h0 h1 (.inr ho)]
    · rw [hk.no r h0 h1 (.inl q)]
  obtain ⟨sf2, w2, ef2, F2⟩ := follow_ok h hp hk.len pk
  obtain ⟨sh2, J2, eh2, rJ2, mJ2⟩ := holds_ok F2.wok (f := .un .aa (.mark mk)) am3 (by simp [Fm.dp]) (by simp [Fm.wc])
  have bd : Brg w n (1 - p) (· ∈ m_beyond w X) KR := hk.ranks.congr h (fun r h0 h1 => ((beyond_ok h (rooms := X)).2.2 r h0 h1).symm) (fun _ _ _ => Iff.rfl) fun _ _ _ => Iff.rfl
  obtain ⟨sf3, w3, ef3, F3⟩ := follow_ok h hp.other hk.cplan.len (dwn_planB h bd hk.cplan)
  obtain ⟨sh3, J3, eh3, rJ3, mJ3⟩ := holds_ok F3.wok (f := .bi .au .yes (.un .not (.mark mk))) ⟨trivial, am3⟩ (by simp [Fm.dp]) (by simp [Fm.wc])
  have kr : MP.len KR = n := by show (KR.length : Int) = n; rw [hk.ranks.len]
  obtain ⟨come, hcome⟩ : ∃ come, come = (rng (n : Int)).filter fun r => (ix R r).isSome := ⟨_, rfl⟩
  have e1 : J1 = come := by
    rw [hcome]
    refine rl_eq rJ1 (RL.filter _) fun r h0 h1 => ?_
    rw [mJ1 r h0 h1, List.mem_filter, mem_rng]
    show Lf n (FA w1 (fun _ => True) fun r => mk ∈ ix w1.b r) r ↔ _
    rw [fol_bring h hp F1 B D (X := fun r => mk ∈ ix w1.b r) (fun r h0 h1 => by rw [F1.mks, mX r h0 h1]) h0 h1]
    simp [h0, h1]
  have e2 : J2 = K := rl_eq rJ2 hk.rl fun r h0 h1 => by
    rw [mJ2 r h0 h1]
    show ¬ Lf n (FE w2 (fun _ => True) fun s => ¬ mk ∈ ix w2.b s) r ↔ _
    exact fol_keep h hp F2 hk (X := fun s => mk ∈ ix w2.b s) (fun r h0 h1 => by rw [F2.mks, mX r h0 h1]) h0 h1
  have e3 : J3 = (rng (n : Int)).filter fun r => !decide (r ∈ K) := by
    refine rl_eq rJ3 (RL.filter _) fun r h0 h1 => ?_
    rw [mJ3 r h0 h1, List.mem_filter, mem_rng]
    show Lf n (FA w3 (fun _ => True) fun r => ¬ mk ∈ ix w3.b r) r ↔ _
    rw [fol_bring h hp.other F3 bd hk.cplan (X := fun r => ¬ mk ∈ ix w3.b r) (fun r h0 h1 => by rw [(beyond_ok h (rooms := X)).2.2 r h0 h1, F3.mks, mX r h0 h1]) h0 h1]
    have := hk.mem r h0 h1
    cases q : ix KR r <;> simp [h0, h1, this, q]
  have k0 : okv (m_marked w mk) = X := by rw [eX]; rfl
  have k1 : okv (m_bring w p X) = ⟨R, P⟩ := by rw [eb]; rfl
  have k2 : okv (m_follow w p P) = w1 := by rw [ef]; rfl
  have k3 : okv (m_holds w1 (Fm.sn (.bi .au .yes (.mark mk)))) = J1 := by rw [eh1]; rfl
  have k4 : okv (m_keep w p X) = ⟨K, KP, KR, KQ⟩ := by rw [ek]; rfl
  have k5 : okv (m_follow w p KP) = w2 := by rw [ef2]; rfl
  have k6 : okv (m_holds w2 (Fm.sn (.un .aa (.mark mk)))) = J2 := by rw [eh2]; rfl
  have k7 : okv (m_follow w (1 - p) KQ) = w3 := by rw [ef3]; rfl
  have k8 : okv (m_holds w3 (Fm.sn (.bi .au .yes (.un .not (.mark mk))))) = J3 := by rw [eh3]; rfl
  have f1 : Fm.sn (.bi .au .yes (.mark mk)) = Sn.n [Sn.x (tx "all until"), Sn.n [Sn.x (tx "yes")], Sn.n [Sn.x (tx "mark"), Sn.x mk]] := rfl
  have f2 : Fm.sn (.un .aa (.mark mk)) = Sn.n [Sn.x (tx "all always"), Sn.n [Sn.x (tx "mark"), Sn.x mk]] := rfl
  have f3 : Fm.sn (.bi .au .yes (.un .not (.mark mk))) = Sn.n [Sn.x (tx "all until"), Sn.n [Sn.x (tx "yes")], Sn.n [Sn.x (tx "not"), Sn.n [Sn.x (tx "mark"), Sn.x mk]]] := rfl
  rw [f1] at k3 sh1 eh1
  rw [f2] at k6 sh2 eh2
  rw [f3] at k8 sh3 eh3
  constructor
  · unfold s_law_k86
    simp only [lt_eq, ← hw, ← hpe, ← hmk, k0, k1, k2, k3, k4, k5, k6, k7, k8, er, kr]
    refine ⟨sw, s_cell (by decide), s_draw2 (by decide), s_cell (by decide), s_draw (by decide) (by decide), am1, am2, sm, ⟨_, eX⟩, sb, ⟨_, eb⟩, rgOk (by omega) (by omega), fun r hr => ?_, sf, ⟨_, ef⟩, sh1, ⟨_, eh1⟩, fun _ => ⟨sk, ⟨_, ek⟩, sf2, ⟨_, ef2⟩, sh2, ⟨_, eh2⟩, sf3, ⟨_, ef3⟩, sh3, ⟨_, eh3⟩, fun _ => rgOk (by omega) (by omega), trivial⟩⟩
    have := mem_rng.mp hr
    exact inR this.1 (by rw [hRl]; exact this.2)
  · unfold m_law_k86
    simp only [lt_eq, ← hw, ← hpe, ← hmk, k0, k1, k2, k3, k4, k5, k6, k7, k8, er, kr]
    rw [← hcome, e1, if_neg (by simp), e2, e3]
    simp
end Law

namespace Law
open PySem PySem.Spec PyProof.Rows L2 MP
open MP.Enc (enc)
def c_LETTERS : D := (.str "abcdef")
def c_MOST_ROOMS : D := (.int (24))
def c_PARTS : D := .dk ((tab_PARTS.map fun p => p.1.str).map Sum.inr) ((tab_PARTS.map fun p => p.2).map D.int)
def c_MOST_WORDS : D := (.int (200))
def c_MOST_DEEP : D := (.int (24))
def b_rises_0 : List S := [.ife (.cmp .ge (.ix (.var 0) (.bin .sub (.var 1) (.lit (.int (1))))) (.ix (.var 0) (.var 1))) [.ret (.lit (.bool false))] []]
def d_rises : Def := ⟨"rises", ["some"], ["some", "k"], [.for_ (.one 1) (.range2 (.lit (.int (1))) (.bi .len (.cons (.var 0) .nil))) b_rises_0 [1] false, .ret (.lit (.bool true))]⟩
def d_are_marks : Def := ⟨"are_marks", ["marks"], ["marks", "mark"], [.ret (.land (.bi .all (.cons (.comp (.land (.cmp .eq (.bi .len (.cons (.var 1) .nil)) (.lit (.int (1)))) (.cmp .isin (.var 1) (.glob "LETTERS" c_LETTERS))) (.one 1) (.seq (.var 0)) (.lit (.bool true)) [1]) .nil)) (.call 0 (.cons (.var 0) .nil)))]⟩
def d_are_rooms : Def := ⟨"are_rooms", ["rooms", "many"], ["rooms", "many", "room"], [.ret (.land (.bi .all (.cons (.comp (.chain .le .lt (.lit (.int (0))) (.var 2) (.var 1)) (.one 2) (.seq (.var 0)) (.lit (.bool true)) [2]) .nil)) (.call 0 (.cons (.var 0) .nil)))]⟩
def b_is_world_0 : List S := [.ife (.lor (.cmp .notin (.ix (.var 0) (.var 4)) (.tup (.cons (.lit (.int (0))) (.cons (.lit (.int (1))) .nil)))) (.lnot (.call 1 (.cons (.ix (.var 1) (.var 4)) .nil)))) [.ret (.lit (.bool false))] [], .ife (.lor (.cmp .eq (.bi .len (.cons (.ix (.var 2) (.var 4)) .nil)) (.lit (.int (0)))) (.lnot (.call 2 (.cons (.ix (.var 2) (.var 4)) (.cons (.var 3) .nil))))) [.ret (.lit (.bool false))] []]
def d_is_world : Def := ⟨"is_world", ["owners", "marks", "steps"], ["owners", "marks", "steps", "many", "room"], [.set 3 (.bi .len (.cons (.var 0) .nil)), .ife (.lor (.lnot (.chain .le .le (.lit (.int (1))) (.var 3) (.glob "MOST_ROOMS" c_MOST_ROOMS))) (.lor (.cmp .ne (.bi .len (.cons (.var 1) .nil)) (.var 3)) (.cmp .ne (.bi .len (.cons (.var 2) .nil)) (.var 3)))) [.ret (.lit (.bool false))] [], .for_ (.one 4) (.range1 (.var 3)) b_is_world_0 [4] false, .ret (.lit (.bool true))]⟩
def d_ask_world : Def := ⟨"ask_world", ["world"], ["world"], [.ife (.lnot (.call 3 (.cons (.ix (.var 0) (.lit (.int (0)))) (.cons (.ix (.var 0) (.lit (.int (1)))) (.cons (.ix (.var 0) (.lit (.int (2)))) .nil))))) [.raise "NoWorld"] []]⟩
def d_ask_rooms : Def := ⟨"ask_rooms", ["world", "rooms"], ["world", "rooms"], [.ife (.lnot (.call 2 (.cons (.var 1) (.cons (.bi .len (.cons (.ix (.var 0) (.lit (.int (0)))) .nil)) .nil)))) [.raise "NoRoom"] []]⟩
def d_ask_player : Def := ⟨"ask_player", ["player"], ["player"], [.ife (.cmp .notin (.var 0) (.tup (.cons (.lit (.int (0))) (.cons (.lit (.int (1))) .nil)))) [.raise "NoPlayer"] []]⟩
def d_ask_marks : Def := ⟨"ask_marks", ["marks"], ["marks"], [.ife (.lnot (.call 1 (.cons (.var 0) .nil))) [.raise "NoMark"] []]⟩
def d_marked : Def := ⟨"marked", ["world", "mark"], ["world", "mark", "room"], [.expr (.call 4 (.cons (.var 0) .nil)), .expr (.call 7 (.cons (.list (.cons (.var 1) .nil)) .nil)), .ret (.comp (.var 2) (.one 2) (.range1 (.bi .len (.cons (.ix (.var 0) (.lit (.int (0)))) .nil))) (.cmp .isin (.var 1) (.ix (.ix (.var 0) (.lit (.int (1)))) (.var 2))) [2])]⟩
def b_is_plan_0 : List S := [.ife (.land (.cmp .isnot (.ix (.var 2) (.var 3)) (.lit .none)) (.lor (.cmp .ne (.ix (.ix (.var 0) (.lit (.int (0)))) (.var 3)) (.var 1)) (.cmp .notin (.ix (.var 2) (.var 3)) (.ix (.ix (.var 0) (.lit (.int (2)))) (.var 3))))) [.ret (.lit (.bool false))] []]
def d_is_plan : Def := ⟨"is_plan", ["world", "player", "plan"], ["world", "player", "plan", "room"], [.expr (.call 4 (.cons (.var 0) .nil)), .expr (.call 6 (.cons (.var 1) .nil)), .ife (.cmp .ne (.bi .len (.cons (.var 2) .nil)) (.bi .len (.cons (.ix (.var 0) (.lit (.int (0)))) .nil))) [.ret (.lit (.bool false))] [], .for_ (.one 3) (.range1 (.bi .len (.cons (.var 2) .nil))) b_is_plan_0 [3] false, .ret (.lit (.bool true))]⟩
def d_ask_plan : Def := ⟨"ask_plan", ["world", "player", "plan"], ["world", "player", "plan"], [.ife (.lnot (.call 9 (.cons (.var 0) (.cons (.var 1) (.cons (.var 2) .nil))))) [.raise "NoPlan"] []]⟩
def b_follow_0 : List S := [.ife (.cmp .is (.ix (.var 2) (.var 4)) (.lit .none)) [.expr (.mt .append (.var 3) (.cons (.bi .listOf (.cons (.ix (.ix (.var 0) (.lit (.int (2)))) (.var 4)) .nil)) .nil))] [.expr (.mt .append (.var 3) (.cons (.list (.cons (.ix (.var 2) (.var 4)) .nil)) .nil))]]
def d_follow : Def := ⟨"follow", ["world", "player", "plan"], ["world", "player", "plan", "steps", "room", "marks"], [.expr (.call 10 (.cons (.var 0) (.cons (.var 1) (.cons (.var 2) .nil)))), .set 3 (.cell (.list .nil)), .for_ (.one 4) (.range1 (.bi .len (.cons (.ix (.var 0) (.lit (.int (0)))) .nil))) b_follow_0 [4] false, .ret (.tup (.cons (.bi .listOf (.cons (.ix (.var 0) (.lit (.int (0)))) .nil)) (.cons (.comp (.bi .listOf (.cons (.var 5) .nil)) (.one 5) (.seq (.ix (.var 0) (.lit (.int (1))))) (.lit (.bool true)) [5]) (.cons (.var 3) .nil))))]⟩
def d_ask_game : Def := ⟨"ask_game", ["world", "player", "rooms"], ["world", "player", "rooms"], [.expr (.call 4 (.cons (.var 0) .nil)), .expr (.call 6 (.cons (.var 1) .nil)), .expr (.call 5 (.cons (.var 0) (.cons (.var 2) .nil)))]⟩
def d_can_now : Def := ⟨"can_now", ["world", "player", "room", "known"], ["world", "player", "room", "known", "into", "there"], [.set 4 (.comp (.var 5) (.one 5) (.seq (.ix (.ix (.var 0) (.lit (.int (2)))) (.var 2))) (.cmp .isin (.var 5) (.var 3)) [5]), .ife (.cmp .eq (.ix (.ix (.var 0) (.lit (.int (0)))) (.var 2)) (.var 1)) [.ret (.cmp .gt (.bi .len (.cons (.var 4) .nil)) (.lit (.int (0))))] [], .ret (.cmp .eq (.bi .len (.cons (.var 4) .nil)) (.bi .len (.cons (.ix (.ix (.var 0) (.lit (.int (2)))) (.var 2)) .nil)))]⟩
def b_brought_0 : List S := [.put (.var 5) (.var 10) (.var 6)]
def b_brought_1 : List S := [.set 8 (.bin .add (.var 4) (.comp (.var 10) (.one 10) (.range1 (.bi .len (.cons (.var 5) .nil))) (.cmp .isnot (.ix (.var 5) (.var 10)) (.lit .none)) [10])), .set 9 (.comp (.var 10) (.one 10) (.seq (.var 3)) (.land (.cmp .is (.ix (.var 5) (.var 10)) (.lit .none)) (.call 13 (.cons (.var 0) (.cons (.var 1) (.cons (.var 10) (.cons (.var 8) .nil)))))) [10]), .set 6 (.bin .add (.var 6) (.lit (.int (1)))), .for_ (.one 10) (.seq (.var 9)) b_brought_0 [10] false, .set 7 (.cmp .gt (.bi .len (.cons (.var 9) .nil)) (.lit (.int (0))))]
def d_brought : Def := ⟨"brought", ["world", "player", "rooms", "within", "had"], ["world", "player", "rooms", "within", "had", "ranks", "rank", "more", "known", "new", "room"], [.set 5 (.cell (.comp (.ite (.land (.cmp .isin (.var 10) (.var 2)) (.cmp .isin (.var 10) (.var 3))) (.lit (.int (0))) (.lit .none)) (.one 10) (.range1 (.bi .len (.cons (.ix (.var 0) (.lit (.int (0)))) .nil))) (.lit (.bool true)) [10])), .set 6 (.lit (.int (0))), .set 7 (.lit (.bool true)), .while_ (.var 7) b_brought_1 [8, 9, 10] false, .ret (.var 5)]⟩
def b_downwards_0 : List S := [.set 5 (.lit .none), .ife (.land (.cmp .eq (.ix (.ix (.var 0) (.lit (.int (0)))) (.var 4)) (.var 1)) (.land (.cmp .isnot (.ix (.var 2) (.var 4)) (.lit .none)) (.cmp .gt (.ix (.var 2) (.var 4)) (.lit (.int (0)))))) [.set 6 (.comp (.var 7) (.one 7) (.seq (.ix (.ix (.var 0) (.lit (.int (2)))) (.var 4))) (.land (.cmp .isnot (.ix (.var 2) (.var 7)) (.lit .none)) (.cmp .lt (.ix (.var 2) (.var 7)) (.ix (.var 2) (.var 4)))) [7]), .set 5 (.ix (.var 6) (.lit (.int (0))))] [], .expr (.mt .append (.var 3) (.cons (.var 5) .nil))]
def d_downwards : Def := ⟨"downwards", ["world", "player", "ranks"], ["world", "player", "ranks", "plan", "room", "step", "lower", "there"], [.set 3 (.cell (.list .nil)), .for_ (.one 4) (.range1 (.bi .len (.cons (.ix (.var 0) (.lit (.int (0)))) .nil))) b_downwards_0 [4, 5, 6] false, .ret (.var 3)]⟩
def d_bring : Def := ⟨"bring", ["world", "player", "rooms"], ["world", "player", "rooms", "ranks"], [.expr (.call 12 (.cons (.var 0) (.cons (.var 1) (.cons (.var 2) .nil)))), .set 3 (.call 14 (.cons (.var 0) (.cons (.var 1) (.cons (.var 2) (.cons (.bi .range1 (.cons (.bi .len (.cons (.ix (.var 0) (.lit (.int (0)))) .nil)) .nil)) (.cons (.list .nil) .nil)))))), .ret (.tup (.cons (.var 3) (.cons (.call 15 (.cons (.var 0) (.cons (.var 1) (.cons (.var 3) .nil)))) .nil)))]⟩
def d_parts_of : Def := ⟨"parts_of", ["sentence"], ["sentence"], [.ife (.cmp .eq (.ix (.var 0) (.lit (.int (0)))) (.lit (.str "mark"))) [.ret (.list .nil)] [], .ret (.bi .listOf (.cons (.sl (.var 0) (.lit (.int (1))) (.lit .none)) .nil))]⟩
def d_well_made : Def := ⟨"well_made", ["some"], ["some", "piece"], [.ife (.lor (.cmp .eq (.bi .len (.cons (.var 0) .nil)) (.lit (.int (0)))) (.lnot (.bi (.isinst "str") (.cons (.ix (.var 0) (.lit (.int (0)))) .nil)))) [.ret (.lit (.bool false))] [], .ife (.cmp .eq (.ix (.var 0) (.lit (.int (0)))) (.lit (.str "mark"))) [.ret (.land (.cmp .eq (.bi .len (.cons (.var 0) .nil)) (.lit (.int (2)))) (.land (.bi (.isinst "str") (.cons (.ix (.var 0) (.lit (.int (1)))) .nil)) (.call 1 (.cons (.list (.cons (.ix (.var 0) (.lit (.int (1)))) .nil)) .nil))))] [], .ife (.lor (.bi (.tabIn true "PARTS" (tab_PARTS.map fun p => p.1.str) (tab_PARTS.map fun p => p.2)) (.cons (.ix (.var 0) (.lit (.int (0)))) .nil)) (.cmp .ne (.bi .len (.cons (.var 0) .nil)) (.bin .add (.bi (.tabGet "PARTS" (tab_PARTS.map fun p => p.1.str) (tab_PARTS.map fun p => p.2)) (.cons (.ix (.var 0) (.lit (.int (0)))) .nil)) (.lit (.int (1)))))) [.ret (.lit (.bool false))] [], .ret (.bi .all (.cons (.comp (.land (.bi (.isinst "tuple") (.cons (.var 1) .nil)) (.call 18 (.cons (.var 1) .nil))) (.one 1) (.seq (.sl (.var 0) (.lit (.int (1))) (.lit .none))) (.lit (.bool true)) [1]) .nil))]⟩
def d_count : Def := ⟨"count", ["sentence"], ["sentence", "piece"], [.ret (.bin .add (.lit (.int (1))) (.bi .sum (.cons (.comp (.call 19 (.cons (.var 1) .nil)) (.one 1) (.seq (.call 17 (.cons (.var 0) .nil))) (.lit (.bool true)) [1]) .nil)))]⟩
def d_deep : Def := ⟨"deep", ["sentence"], ["sentence", "piece"], [.ret (.bin .add (.lit (.int (1))) (.bi .maxD0 (.cons (.comp (.call 20 (.cons (.var 1) .nil)) (.one 1) (.seq (.call 17 (.cons (.var 0) .nil))) (.lit (.bool true)) [1]) .nil)))]⟩
def d_is_sentence : Def := ⟨"is_sentence", ["some"], ["some"], [.ret (.land (.call 18 (.cons (.var 0) .nil)) (.land (.cmp .le (.call 19 (.cons (.var 0) .nil)) (.glob "MOST_WORDS" c_MOST_WORDS)) (.cmp .le (.call 20 (.cons (.var 0) .nil)) (.glob "MOST_DEEP" c_MOST_DEEP))))]⟩
def d_ask_sentence : Def := ⟨"ask_sentence", ["sentence"], ["sentence"], [.ife (.lnot (.call 21 (.cons (.var 0) .nil))) [.raise "NoSentence"] []]⟩
def b_some_ranks_0 : List S := [.ife (.land (.cmp .is (.ix (.var 4) (.var 8)) (.lit .none)) (.cmp .isin (.var 8) (.var 1))) [.ife (.cmp .gt (.bi .len (.cons (.comp (.var 9) (.one 9) (.seq (.ix (.ix (.var 0) (.lit (.int (2)))) (.var 8))) (.cmp .isnot (.ix (.var 4) (.var 9)) (.lit .none)) [9]) .nil)) (.lit (.int (0)))) [.expr (.mt .append (.var 7) (.cons (.var 8) .nil))] []] []]
def b_some_ranks_1 : List S := [.put (.var 4) (.var 8) (.var 5)]
def b_some_ranks_2 : List S := [.set 7 (.cell (.list .nil)), .for_ (.one 8) (.range1 (.var 3)) b_some_ranks_0 [] false, .set 5 (.bin .add (.var 5) (.lit (.int (1)))), .fz 7, .for_ (.one 8) (.seq (.var 7)) b_some_ranks_1 [] false, .set 6 (.cmp .gt (.bi .len (.cons (.var 7) .nil)) (.lit (.int (0))))]
def d_some_ranks : Def := ⟨"some_ranks", ["world", "stay", "goal"], ["world", "stay", "goal", "many", "ranks", "turn", "more", "new", "room", "there"], [.set 3 (.bi .len (.cons (.ix (.var 0) (.lit (.int (0)))) .nil)), .set 4 (.cell (.comp (.ite (.cmp .isin (.var 8) (.var 2)) (.lit (.int (0))) (.lit .none)) (.one 8) (.range1 (.var 3)) (.lit (.bool true)) [8])), .set 5 (.lit (.int (0))), .set 6 (.cmp .gt (.bi .len (.cons (.var 2) .nil)) (.lit (.int (0)))), .while_ (.var 6) b_some_ranks_2 [7, 8] true, .ret (.var 4)]⟩
def b_all_ranks_0 : List S := [.ife (.land (.cmp .is (.ix (.var 4) (.var 8)) (.lit .none)) (.cmp .isin (.var 8) (.var 1))) [.ife (.cmp .eq (.bi .len (.cons (.comp (.var 9) (.one 9) (.seq (.ix (.ix (.var 0) (.lit (.int (2)))) (.var 8))) (.cmp .is (.ix (.var 4) (.var 9)) (.lit .none)) [9]) .nil)) (.lit (.int (0)))) [.expr (.mt .append (.var 7) (.cons (.var 8) .nil))] []] []]
def b_all_ranks_1 : List S := [.put (.var 4) (.var 8) (.var 5)]
def b_all_ranks_2 : List S := [.set 7 (.cell (.list .nil)), .for_ (.one 8) (.range1 (.var 3)) b_all_ranks_0 [] false, .set 5 (.bin .add (.var 5) (.lit (.int (1)))), .fz 7, .for_ (.one 8) (.seq (.var 7)) b_all_ranks_1 [] false, .set 6 (.cmp .gt (.bi .len (.cons (.var 7) .nil)) (.lit (.int (0))))]
def d_all_ranks : Def := ⟨"all_ranks", ["world", "stay", "goal"], ["world", "stay", "goal", "many", "ranks", "turn", "more", "new", "room", "there"], [.set 3 (.bi .len (.cons (.ix (.var 0) (.lit (.int (0)))) .nil)), .set 4 (.cell (.comp (.ite (.cmp .isin (.var 8) (.var 2)) (.lit (.int (0))) (.lit .none)) (.one 8) (.range1 (.var 3)) (.lit (.bool true)) [8])), .set 5 (.lit (.int (0))), .set 6 (.cmp .gt (.bi .len (.cons (.var 2) .nil)) (.lit (.int (0)))), .while_ (.var 6) b_all_ranks_2 [7, 8] true, .ret (.var 4)]⟩
def d_others : Def := ⟨"others", ["world", "rooms"], ["world", "rooms", "room"], [.ret (.comp (.var 2) (.one 2) (.range1 (.bi .len (.cons (.ix (.var 0) (.lit (.int (0)))) .nil))) (.cmp .notin (.var 2) (.var 1)) [2])]⟩
def d_time_ranks : Def := ⟨"time_ranks", ["world", "word", "one", "other"], ["world", "word", "one", "other", "whole"], [.set 4 (.bi .range1 (.cons (.bi .len (.cons (.ix (.var 0) (.lit (.int (0)))) .nil)) .nil)), .ife (.cmp .eq (.var 1) (.lit (.str "some until"))) [.ret (.call 23 (.cons (.var 0) (.cons (.var 2) (.cons (.var 3) .nil))))] [], .ife (.cmp .eq (.var 1) (.lit (.str "all until"))) [.ret (.call 24 (.cons (.var 0) (.cons (.var 2) (.cons (.var 3) .nil))))] [], .ife (.cmp .eq (.var 1) (.lit (.str "some always"))) [.ret (.call 24 (.cons (.var 0) (.cons (.var 4) (.cons (.call 25 (.cons (.var 0) (.cons (.var 2) .nil))) .nil))))] [], .ret (.call 23 (.cons (.var 0) (.cons (.var 4) (.cons (.call 25 (.cons (.var 0) (.cons (.var 2) .nil))) .nil))))]⟩
def d_rooms_by_ranks : Def := ⟨"rooms_by_ranks", ["word", "ranks"], ["word", "ranks", "wanted", "room"], [.set 2 (.cmp .isin (.var 0) (.tup (.cons (.lit (.str "some until")) (.cons (.lit (.str "all until")) .nil)))), .ret (.comp (.var 3) (.one 3) (.range1 (.bi .len (.cons (.var 1) .nil))) (.cmp .eq (.cmp .isnot (.ix (.var 1) (.var 3)) (.lit .none)) (.var 2)) [3])]⟩
def b_stepping_0 : List S := [.set 5 (.comp (.var 6) (.one 6) (.seq (.ix (.ix (.var 0) (.lit (.int (2)))) (.var 4))) (.cmp .isin (.var 6) (.var 2)) [6]), .ife (.lor (.cmp .eq (.bi .len (.cons (.var 5) .nil)) (.bi .len (.cons (.ix (.ix (.var 0) (.lit (.int (2)))) (.var 4)) .nil))) (.land (.cmp .eq (.var 1) (.lit (.str "some next"))) (.cmp .gt (.bi .len (.cons (.var 5) .nil)) (.lit (.int (0)))))) [.expr (.mt .append (.var 3) (.cons (.var 4) .nil))] []]
def d_stepping : Def := ⟨"stepping", ["world", "word", "rooms"], ["world", "word", "rooms", "found", "room", "into", "there"], [.set 3 (.cell (.list .nil)), .for_ (.one 4) (.range1 (.bi .len (.cons (.ix (.var 0) (.lit (.int (0)))) .nil))) b_stepping_0 [4, 5] false, .ret (.var 3)]⟩
def d_plain_rooms : Def := ⟨"plain_rooms", ["world", "sentence", "parts"], ["world", "sentence", "parts", "word", "whole", "room"], [.set 3 (.ix (.var 1) (.lit (.int (0)))), .set 4 (.bi .range1 (.cons (.bi .len (.cons (.ix (.var 0) (.lit (.int (0)))) .nil)) .nil)), .ife (.cmp .eq (.var 3) (.lit (.str "yes"))) [.ret (.var 4)] [], .ife (.cmp .eq (.var 3) (.lit (.str "mark"))) [.ret (.comp (.var 5) (.one 5) (.seq (.var 4)) (.cmp .isin (.ix (.var 1) (.lit (.int (1)))) (.ix (.ix (.var 0) (.lit (.int (1)))) (.var 5))) [5])] [], .ife (.cmp .eq (.var 3) (.lit (.str "not"))) [.ret (.call 25 (.cons (.var 0) (.cons (.ix (.var 2) (.lit (.int (0)))) .nil)))] [], .ife (.cmp .eq (.var 3) (.lit (.str "and"))) [.ret (.comp (.var 5) (.one 5) (.seq (.ix (.var 2) (.lit (.int (0))))) (.cmp .isin (.var 5) (.ix (.var 2) (.lit (.int (1))))) [5])] [], .ife (.cmp .eq (.var 3) (.lit (.str "or"))) [.ret (.comp (.var 5) (.one 5) (.seq (.var 4)) (.lor (.cmp .isin (.var 5) (.ix (.var 2) (.lit (.int (0))))) (.cmp .isin (.var 5) (.ix (.var 2) (.lit (.int (1)))))) [5])] [], .ret (.call 28 (.cons (.var 0) (.cons (.var 3) (.cons (.ix (.var 2) (.lit (.int (0)))) .nil))))]⟩
def d_judged : Def := ⟨"judged", ["world", "sentence"], ["world", "sentence", "parts", "piece"], [.ife (.lor (.cmp .eq (.ix (.var 1) (.lit (.int (0)))) (.lit (.str "yes"))) (.cmp .eq (.ix (.var 1) (.lit (.int (0)))) (.lit (.str "mark")))) [.ret (.call 29 (.cons (.var 0) (.cons (.var 1) (.cons (.list .nil) .nil))))] [], .set 2 (.comp (.call 30 (.cons (.var 0) (.cons (.var 3) .nil))) (.one 3) (.seq (.sl (.var 1) (.lit (.int (1))) (.lit .none))) (.lit (.bool true)) [3]), .ife (.lor (.cmp .isin (.lit (.str "until")) (.ix (.var 1) (.lit (.int (0))))) (.cmp .isin (.lit (.str "always")) (.ix (.var 1) (.lit (.int (0)))))) [.ret (.call 27 (.cons (.ix (.var 1) (.lit (.int (0)))) (.cons (.call 26 (.cons (.var 0) (.cons (.ix (.var 1) (.lit (.int (0)))) (.cons (.ix (.var 2) (.lit (.int (0)))) (.cons (.ix (.var 2) (.lit (.int (-1)))) .nil))))) .nil)))] [], .ret (.call 29 (.cons (.var 0) (.cons (.var 1) (.cons (.var 2) .nil))))]⟩
def d_holds : Def := ⟨"holds", ["world", "sentence"], ["world", "sentence"], [.expr (.call 4 (.cons (.var 0) .nil)), .expr (.call 22 (.cons (.var 1) .nil)), .ret (.call 30 (.cons (.var 0) (.cons (.var 1) .nil)))]⟩
def d_beyond : Def := ⟨"beyond", ["world", "rooms"], ["world", "rooms", "room"], [.ret (.comp (.var 2) (.one 2) (.range1 (.bi .len (.cons (.ix (.var 0) (.lit (.int (0)))) .nil))) (.cmp .notin (.var 2) (.var 1)) [2])]⟩
def b_keep_0 : List S := [.set 8 (.lit .none), .ife (.land (.cmp .isin (.var 7) (.var 5)) (.cmp .eq (.ix (.ix (.var 0) (.lit (.int (0)))) (.var 7)) (.var 1))) [.set 8 (.ix (.comp (.var 9) (.one 9) (.seq (.ix (.ix (.var 0) (.lit (.int (2)))) (.var 7))) (.cmp .isin (.var 9) (.var 5)) [9]) (.lit (.int (0))))] [], .expr (.mt .append (.var 6) (.cons (.var 8) .nil))]
def d_keep : Def := ⟨"keep", ["world", "player", "rooms"], ["world", "player", "rooms", "ranks", "counter", "kept", "plan", "room", "step", "there"], [.expr (.call 12 (.cons (.var 0) (.cons (.var 1) (.cons (.var 2) .nil)))), .unpack [3, 4] (.call 16 (.cons (.var 0) (.cons (.bin .sub (.lit (.int (1))) (.var 1)) (.cons (.call 32 (.cons (.var 0) (.cons (.var 2) .nil))) .nil)))), .set 5 (.comp (.var 7) (.one 7) (.range1 (.bi .len (.cons (.var 3) .nil))) (.cmp .is (.ix (.var 3) (.var 7)) (.lit .none)) [7]), .set 6 (.cell (.list .nil)), .for_ (.one 7) (.range1 (.bi .len (.cons (.ix (.var 0) (.lit (.int (0)))) .nil))) b_keep_0 [7, 8] false, .ret (.tup (.cons (.var 5) (.cons (.var 6) (.cons (.var 3) (.cons (.var 4) .nil)))))]⟩
def d__law_cell_at : Def := ⟨"_law_cell_at", ["script", "k"], ["script", "k"], [.ife (.cmp .lt (.var 1) (.bi .len (.cons (.var 0) .nil))) [.ret (.ix (.var 0) (.var 1))] [], .ret (.lit (.int (0)))]⟩
def b__law_draw_0 : List S := [.set 4 (.bin .fdiv (.var 4) (.var 2))]
def d__law_draw : Def := ⟨"_law_draw", ["cell", "k", "bound"], ["cell", "k", "bound", "stir", "left", "j"], [.ife (.cmp .ge (.var 0) (.bin .pow (.lit (.int (10))) (.lit (.int (18))))) [.set 4 (.var 0), .for_ (.one 5) (.range1 (.var 1)) b__law_draw_0 [5] false, .ret (.bin .mod (.var 4) (.var 2))] [], .set 3 (.bin .mod (.bin .mul (.bin .add (.bin .add (.bin .mod (.var 0) (.lit (.int (1000000007)))) (.bin .mul (.lit (.int (1009))) (.var 1))) (.lit (.int (17)))) (.lit (.int (69621)))) (.lit (.int (2147483647)))), .set 3 (.bin .mod (.bin .add (.bin .add (.bin .mul (.var 3) (.var 3)) (.bin .mul (.lit (.int (40503))) (.var 1))) (.lit (.int (5)))) (.lit (.int (2147483629)))), .ret (.bin .mod (.bin .fdiv (.bin .mod (.bin .mul (.var 3) (.lit (.int (48271)))) (.lit (.int (2147483647)))) (.lit (.int (32)))) (.var 2))]⟩
def b__law_world_0 : List S := [.set 8 (.call 34 (.cons (.var 0) (.cons (.bin .add (.bin .add (.var 1) (.lit (.int (1)))) (.var 7)) .nil))), .expr (.mt .append (.var 4) (.cons (.call 35 (.cons (.var 8) (.cons (.lit (.int (0))) (.cons (.lit (.int (2))) .nil)))) .nil)), .expr (.mt .append (.var 5) (.cons (.comp (.var 11) (.one 11) (.seq (.lit (.str "abc"))) (.cmp .eq (.call 35 (.cons (.var 8) (.cons (.bin .add (.lit (.int (1))) (.mt .sindex (.lit (.str "abc")) (.cons (.var 11) .nil))) (.cons (.lit (.int (2))) .nil)))) (.lit (.int (1)))) [11]) .nil)), .set 9 (.comp (.var 10) (.one 10) (.range1 (.var 3)) (.cmp .eq (.call 35 (.cons (.var 8) (.cons (.bin .add (.lit (.int (4))) (.var 10)) (.cons (.bin .add (.lit (.int (2))) (.bi .toInt (.cons (.cmp .gt (.var 3) (.lit (.int (3)))) .nil))) .nil)))) (.lit (.int (1)))) [10]), .ife (.cmp .eq (.var 9) (.list .nil)) [.set 9 (.list (.cons (.call 35 (.cons (.var 8) (.cons (.bin .add (.lit (.int (4))) (.var 3)) (.cons (.var 3) .nil)))) .nil))] [], .expr (.mt .append (.var 6) (.cons (.var 9) .nil))]
def d__law_world : Def := ⟨"_law_world", ["script", "at", "most"], ["script", "at", "most", "many", "owners", "marks", "steps", "room", "cell", "row", "there", "mark"], [.set 3 (.bin .add (.lit (.int (1))) (.bin .mod (.call 34 (.cons (.var 0) (.cons (.var 1) .nil))) (.var 2))), .set 4 (.cell (.list .nil)), .set 5 (.cell (.list .nil)), .set 6 (.cell (.list .nil)), .for_ (.one 7) (.range1 (.var 3)) b__law_world_0 [7, 8, 9] false, .ret (.tup (.cons (.var 4) (.cons (.var 5) (.cons (.var 6) .nil))))]⟩
def d_law : Def := ⟨"law", ["script"], ["script", "world", "player", "mark", "rooms", "ranks", "plan", "come", "kept", "counter", "stays", "out", "room"], [.set 1 (.call 36 (.cons (.var 0) (.cons (.lit (.int (0))) (.cons (.lit (.int (6))) .nil)))), .set 2 (.call 35 (.cons (.call 34 (.cons (.var 0) (.cons (.lit (.int (7))) .nil))) (.cons (.lit (.int (0))) (.cons (.lit (.int (2))) .nil)))), .set 3 (.ix (.lit (.str "abc")) (.call 35 (.cons (.call 34 (.cons (.var 0) (.cons (.lit (.int (7))) .nil))) (.cons (.lit (.int (1))) (.cons (.lit (.int (3))) .nil))))), .set 4 (.call 8 (.cons (.var 1) (.cons (.var 3) .nil))), .unpack [5, 6] (.call 16 (.cons (.var 1) (.cons (.var 2) (.cons (.var 4) .nil)))), .set 7 (.comp (.var 12) (.one 12) (.range1 (.bi .len (.cons (.var 5) .nil))) (.cmp .isnot (.ix (.var 5) (.var 12)) (.lit .none)) [12]), .ife (.cmp .ne (.call 31 (.cons (.call 11 (.cons (.var 1) (.cons (.var 2) (.cons (.var 6) .nil)))) (.cons (.tup (.cons (.lit (.str "all until")) (.cons (.tup (.cons (.lit (.str "yes")) .nil)) (.cons (.tup (.cons (.lit (.str "mark")) (.cons (.var 3) .nil))) .nil)))) .nil))) (.var 7)) [.ret (.lit (.bool false))] [], .unpack [8, 6, 5, 9] (.call 33 (.cons (.var 1) (.cons (.var 2) (.cons (.var 4) .nil)))), .set 10 (.call 31 (.cons (.call 11 (.cons (.var 1) (.cons (.var 2) (.cons (.var 6) .nil)))) (.cons (.tup (.cons (.lit (.str "all always")) (.cons (.tup (.cons (.lit (.str "mark")) (.cons (.var 3) .nil))) .nil))) .nil))), .set 11 (.call 31 (.cons (.call 11 (.cons (.var 1) (.cons (.bin .sub (.lit (.int (1))) (.var 2)) (.cons (.var 9) .nil)))) (.cons (.tup (.cons (.lit (.str "all until")) (.cons (.tup (.cons (.lit (.str "yes")) .nil)) (.cons (.tup (.cons (.lit (.str "not")) (.cons (.tup (.cons (.lit (.str "mark")) (.cons (.var 3) .nil))) .nil))) .nil)))) .nil))), .ret (.land (.cmp .eq (.var 10) (.var 8)) (.cmp .eq (.var 11) (.comp (.var 12) (.one 12) (.range1 (.bi .len (.cons (.var 5) .nil))) (.cmp .notin (.var 12) (.var 8)) [12])))]⟩
def ds : List Def := [d_rises, d_are_marks, d_are_rooms, d_is_world, d_ask_world, d_ask_rooms, d_ask_player, d_ask_marks, d_marked, d_is_plan, d_ask_plan, d_follow, d_ask_game, d_can_now, d_brought, d_downwards, d_bring, d_parts_of, d_well_made, d_count, d_deep, d_is_sentence, d_ask_sentence, d_some_ranks, d_all_ranks, d_others, d_time_ranks, d_rooms_by_ranks, d_stepping, d_plain_rooms, d_judged, d_holds, d_beyond, d_keep, d__law_cell_at, d__law_draw, d__law_world, d_law]
abbrev T : Nat → Option Def := fun f => ds[f]?
def G : PySem.Str → Option D := fun x => if x = "LETTERS" then some c_LETTERS else if x = "MOST_ROOMS" then some c_MOST_ROOMS else if x = "PARTS" then some c_PARTS else if x = "MOST_WORDS" then some c_MOST_WORDS else if x = "MOST_DEEP" then some c_MOST_DEEP else Option.none
theorem ok_rises_I {k : Nat} (some_ : (List Int)) (h : s_rises_I some_) : Okp (run T (k + 1)) 0 [enc some_] (m_rises_I some_) := by
  refine okp_of (d := d_rises) rfl rfl ?_
  show Wp _ _ [_, _] [] _
  obtain ⟨c1, c4, h⟩ := h
  refine wp_forO (σ := Unit) RV QR (s := ()) (fun (s1 : Unit) env st => env = [some (enc (some_ : (List Int))), Option.none] ∧ st = []) (u_rises_I_1 some_) (t_rises_I_1 some_) (fun x env => _) (iw_range2 (tv_int).v ((tv_len ((tv_var (x := some_) rfl)).v)).v c1) ⟨rfl, rfl⟩ c4 (fun _ _ => rfl) (fun _ _ hr => rv_s hr) (fun _ _ hr => (rv_q hr).2) ?_ ?_
  · intro k_ hx1 s1 env' st' ⟨hE, hS⟩ h
    subst hE hS
    show Wp _ _ [_, _] [] _
    obtain ⟨c2, c3, h⟩ := h
    refine wp_if (QOT RV _ _ _ _) ((tv_ge ((tv_ix ((tv_var (x := some_) rfl)).v ((tv_sub ((tv_var (x := k_) rfl)).v (tv_int).v)).v c2)).v ((tv_ix ((tv_var (x := some_) rfl)).v ((tv_var (x := k_) rfl)).v c3)).v)).v (fun hb1 => ?_) (fun hb1 => ?_)
    · have h := True.intro
      exact wp_qot (wp_rv ((tv_bool).v).z)
    · have h := True.intro
      exact qot_end ⟨rfl, rfl⟩
  · intro f1 env' st' hfo ⟨hE, hS⟩
    subst hE hS
    have h := True.intro
    exact wp_ret ((tv_bool).v).z

theorem ok_rises_X {k : Nat} (some_ : (List Tx)) (h : s_rises_X some_) : Okp (run T (k + 1)) 0 [enc some_] (m_rises_X some_) := by
  refine okp_of (d := d_rises) rfl rfl ?_
  show Wp _ _ [_, _] [] _
  obtain ⟨c1, c4, h⟩ := h
  refine wp_forO (σ := Unit) RV QR (s := ()) (fun (s1 : Unit) env st => env = [some (enc (some_ : (List Tx))), Option.none] ∧ st = []) (u_rises_X_1 some_) (t_rises_X_1 some_) (fun x env => _) (iw_range2 (tv_int).v ((tv_len ((tv_var (x := some_) rfl)).v)).v c1) ⟨rfl, rfl⟩ c4 (fun _ _ => rfl) (fun _ _ hr => rv_s hr) (fun _ _ hr => (rv_q hr).2) ?_ ?_
  · intro k_ hx1 s1 env' st' ⟨hE, hS⟩ h
    subst hE hS
    show Wp _ _ [_, _] [] _
    obtain ⟨c2, c3, h⟩ := h
    refine wp_if (QOT RV _ _ _ _) ((tv_get ((tv_ix ((tv_var (x := some_) rfl)).v ((tv_sub ((tv_var (x := k_) rfl)).v (tv_int).v)).v c2)).v ((tv_ix ((tv_var (x := some_) rfl)).v ((tv_var (x := k_) rfl)).v c3)).v)).v (fun hb1 => ?_) (fun hb1 => ?_)
    · have h := True.intro
      exact wp_qot (wp_rv ((tv_bool).v).z)
    · have h := True.intro
      exact qot_end ⟨rfl, rfl⟩
  · intro f1 env' st' hfo ⟨hE, hS⟩
    subst hE hS
    have h := True.intro
    exact wp_ret ((tv_bool).v).z

theorem ok_are_marks {k : Nat} (marks : (List Tx)) (h : s_are_marks marks) : Okp (run T (k + 2)) 1 [enc marks] (m_are_marks marks) := by
  refine okp_of (d := d_are_marks) rfl rfl ?_
  show Wp _ _ [_, _] [] _
  obtain ⟨c1, c2, c3, h⟩ := h
  exact wp_ret (((tv_and ((tv_allm ((nv_map (l := marks) (fun (mark : Tx) => ((decide ((Tx.len mark) = (1 : Int))) && (Tx.has (tx "abcdef") mark))) (fun _ => _) (iv_seq ((tv_var (x := marks) rfl)).v) c1 (fun _ => rfl) (fun mark hx1 => (tv_and ((tv_eq ((tv_lent ((tv_var (x := mark) rfl)).v (c2 mark hx1))).v (tv_int).v)).v (fun _ => ((tv_intx ((tv_var (x := mark) rfl)).v ((tv_globs)).v)).v))))).v)).v (fun hx3_ => ((tv_call (as_cons (tv_var (x := marks) rfl) as_nil) (ok_rises_X marks (c3 hx3_)))).v))).v).z

theorem ok_are_rooms {k : Nat} (rooms : (List Int)) (many : Int) (h : s_are_rooms rooms many) : Okp (run T (k + 2)) 2 [enc rooms, enc many] (m_are_rooms rooms many) := by
  refine okp_of (d := d_are_rooms) rfl rfl ?_
  show Wp _ _ [_, _, _] [] _
  obtain ⟨c1, c2, h⟩ := h
  exact wp_ret (((tv_and ((tv_allm ((nv_map (l := rooms) (fun (room : Int) => ((decide ((0 : Int) ≤ room)) && (decide (room < many)))) (fun _ => _) (iv_seq ((tv_var (x := rooms) rfl)).v) c1 (fun _ => rfl) (fun room hx1 => (tv_chain (tv_int).v ((tv_var (x := room) rfl)).v (fun hx2_ => ((tv_var (x := many) rfl)).v) cv_le cv_lt)))).v)).v (fun hx3_ => ((tv_call (as_cons (tv_var (x := rooms) rfl) as_nil) (ok_rises_I rooms (c2 hx3_)))).v))).v).z

theorem ok_is_world {k : Nat} (owners : (List Int)) (marks : (List (List Tx))) (steps : (List (List Int))) (h : s_is_world owners marks steps) : Okp (run T (k + 3)) 3 [enc owners, enc marks, enc steps] (m_is_world owners marks steps) := by
  refine okp_of (d := d_is_world) rfl rfl ?_
  show Wp _ _ [_, _, _, _, _] [] _
  refine wl_set QR (x := ((len owners) : Int)) (tv_len ((tv_var (x := owners) rfl)).v) fun many hmany => ?_
  have h := ltE h hmany
  show Wp _ _ [_, _, _, _, _] [] _
  refine wp_if QR ((tv_or ((tv_not ((tv_chain (tv_int).v ((tv_var (x := many) rfl)).v (fun hx1_ => ((tv_glob rfl)).v) cv_le cv_le)).v)).v (fun _ => ((tv_or ((tv_ne ((tv_len ((tv_var (x := marks) rfl)).v)).v ((tv_var (x := many) rfl)).v)).v (fun _ => ((tv_ne ((tv_len ((tv_var (x := steps) rfl)).v)).v ((tv_var (x := many) rfl)).v)).v))).v))).v (fun hb4 => ?_) (fun hb4 => ?_)
  · have h := True.intro
    exact wp_ret ((tv_bool).v).z
  · have h := h hb4
    show Wp _ _ [_, _, _, _, _] [] _
    obtain ⟨c1, c8, h⟩ := h
    refine wp_forO (σ := Unit) RV QR (s := ()) (fun (s1 : Unit) env st => env = [some (enc (owners : (List Int))), some (enc (marks : (List (List Tx)))), some (enc (steps : (List (List Int)))), some (enc (many : Int)), Option.none] ∧ st = []) (u_is_world_1 owners marks steps many) (t_is_world_1 owners marks steps many) (fun x env => _) (iw_range ((tv_var (x := many) rfl)).v c1) ⟨rfl, rfl⟩ c8 (fun _ _ => rfl) (fun _ _ hr => rv_s hr) (fun _ _ hr => (rv_q hr).2) ?_ ?_
    · intro room hx1 s1 env' st' ⟨hE, hS⟩ h
      subst hE hS
      show Wp _ _ [_, _, _, _, _] [] _
      obtain ⟨c2, c3, c4, h⟩ := h
      refine wp_if (QOT RV _ _ _ _) ((tv_or ((tv_notintup ([(0 : Int), (1 : Int)] : List Int) ((tv_ix ((tv_var (x := owners) rfl)).v ((tv_var (x := room) rfl)).v c2)).v ⟨_, tup_ev (as_cons tv_int (as_cons tv_int as_nil)) (by decide), rfl⟩ rfl)).v (fun hx5_ => ((tv_not ((tv_call (as_cons (tv_ix ((tv_var (x := marks) rfl)).v ((tv_var (x := room) rfl)).v (c3 hx5_)) as_nil) (ok_are_marks (ix marks room) (c4 hx5_)))).v)).v))).v (fun hb6 => ?_) (fun hb6 => ?_)
      · have h := True.intro
        exact wp_qot (wp_rv ((tv_bool).v).z)
      · have h := h hb6
        show Wp _ _ [_, _, _, _, _] [] _
        obtain ⟨c5, c6, c7, h⟩ := h
        refine wp_if (QOT RV _ _ _ _) ((tv_or ((tv_eq ((tv_len ((tv_ix ((tv_var (x := steps) rfl)).v ((tv_var (x := room) rfl)).v c5)).v)).v (tv_int).v)).v (fun hx7_ => ((tv_not ((tv_call (as_cons (tv_ix ((tv_var (x := steps) rfl)).v ((tv_var (x := room) rfl)).v (c6 hx7_)) (as_cons (tv_var (x := many) rfl) as_nil)) (ok_are_rooms (ix steps room) many (c7 hx7_)))).v)).v))).v (fun hb8 => ?_) (fun hb8 => ?_)
        · have h := True.intro
          exact wp_qot (wp_rv ((tv_bool).v).z)
        · have h := True.intro
          exact qot_end ⟨rfl, rfl⟩
    · intro f1 env' st' hfo ⟨hE, hS⟩
      subst hE hS
      have h := True.intro
      exact wp_ret ((tv_bool).v).z

theorem ok_ask_world {k : Nat} (world : W) (h : s_ask_world world) : Oke (run T (k + 4)) 4 [enc world] (m_ask_world world) := by
  refine oke_of (d := d_ask_world) rfl rfl ?_
  show Wp _ _ [_] [] _
  obtain ⟨c1, h⟩ := h
  refine wp_if QE ((tv_not ((tv_call (as_cons (tv_3a ((tv_var (x := world) rfl)).v) (as_cons (tv_3b ((tv_var (x := world) rfl)).v) (as_cons (tv_3c ((tv_var (x := world) rfl)).v) as_nil))) (ok_is_world world.a world.b world.c c1))).v)).v (fun hb1 => ?_) (fun hb1 => ?_)
  · have h := True.intro
    exact wp_raise QE_er
  · have h := True.intro
    exact wp_ende

theorem ok_ask_rooms {k : Nat} (world : W) (rooms : (List Int)) (h : s_ask_rooms world rooms) : Oke (run T (k + 3)) 5 [enc world, enc rooms] (m_ask_rooms world rooms) := by
  refine oke_of (d := d_ask_rooms) rfl rfl ?_
  show Wp _ _ [_, _] [] _
  obtain ⟨c1, h⟩ := h
  refine wp_if QE ((tv_not ((tv_call (as_cons (tv_var (x := rooms) rfl) (as_cons (tv_len ((tv_3a ((tv_var (x := world) rfl)).v)).v) as_nil)) (ok_are_rooms rooms (len world.a) c1))).v)).v (fun hb1 => ?_) (fun hb1 => ?_)
  · have h := True.intro
    exact wp_raise QE_er
  · have h := True.intro
    exact wp_ende

theorem ok_ask_player {k : Nat} (player : Int) (h : s_ask_player player) : Oke (run T (k + 1)) 6 [enc player] (m_ask_player player) := by
  refine oke_of (d := d_ask_player) rfl rfl ?_
  show Wp _ _ [_] [] _
  refine wp_if QE ((tv_notintup ([(0 : Int), (1 : Int)] : List Int) ((tv_var (x := player) rfl)).v ⟨_, tup_ev (as_cons tv_int (as_cons tv_int as_nil)) (by decide), rfl⟩ rfl)).v (fun hb1 => ?_) (fun hb1 => ?_)
  · have h := True.intro
    exact wp_raise QE_er
  · have h := True.intro
    exact wp_ende

theorem ok_ask_marks {k : Nat} (marks : (List Tx)) (h : s_ask_marks marks) : Oke (run T (k + 3)) 7 [enc marks] (m_ask_marks marks) := by
  refine oke_of (d := d_ask_marks) rfl rfl ?_
  show Wp _ _ [_] [] _
  obtain ⟨c1, h⟩ := h
  refine wp_if QE ((tv_not ((tv_call (as_cons (tv_var (x := marks) rfl) as_nil) (ok_are_marks marks c1))).v)).v (fun hb1 => ?_) (fun hb1 => ?_)
  · have h := True.intro
    exact wp_raise QE_er
  · have h := True.intro
    exact wp_ende

theorem ok_marked {k : Nat} (world : W) (mark : Tx) (h : s_marked world mark) : Oke (run T (k + 5)) 8 [enc world, enc mark] (m_marked world mark) := by
  refine oke_of (d := d_marked) rfl rfl ?_
  show Wp _ _ [_, _, _] [] _
  obtain ⟨c1, h⟩ := h
  refine wp_ask QE (fun _ _ _ => QE_er) (as_cons (tv_var (x := world) rfl) as_nil) (ok_ask_world world c1) fun u3 hu3 => ?_
  have h := h u3 hu3
  show Wp _ _ [_, _, _] [] _
  obtain ⟨c2, h⟩ := h
  refine wp_ask QE (fun _ _ _ => QE_er) (as_cons ((nv_list ([mark] : (List Tx)) (as_cons (tv_var (x := mark) rfl) as_nil))).t as_nil) (ok_ask_marks ([mark] : (List Tx)) c2) fun u2 hu2 => ?_
  have h := h u2 hu2
  show Wp _ _ [_, _, _] [] _
  obtain ⟨c3, c4, h⟩ := h
  exact wp_rete (((nv_filter (l := (rng (len world.a))) (fun (room : Int) => (decide (mark ∈ (ix world.b room)))) (fun _ => _) (iv_range ((tv_len ((tv_3a ((tv_var (x := world) rfl)).v)).v)).v c3) (sz_rng c3) (fun _ => rfl) (fun _ => rfl) (fun room hx1 => ((tv_in ((tv_var (x := mark) rfl)).v ((tv_ix ((tv_3b ((tv_var (x := world) rfl)).v)).v ((tv_var (x := room) rfl)).v (c4 room hx1))).v)).v))).v).z

theorem ok_is_plan {k : Nat} (world : W) (player : Int) (plan : (List (Option Int))) (h : s_is_plan world player plan) : Oke (run T (k + 5)) 9 [enc world, enc player, enc plan] (m_is_plan world player plan) := by
  refine oke_of (d := d_is_plan) rfl rfl ?_
  show Wp _ _ [_, _, _, _] [] _
  obtain ⟨c1, h⟩ := h
  refine wp_ask QE (fun _ _ _ => QE_er) (as_cons (tv_var (x := world) rfl) as_nil) (ok_ask_world world c1) fun u6 hu6 => ?_
  have h := h u6 hu6
  show Wp _ _ [_, _, _, _] [] _
  obtain ⟨c2, h⟩ := h
  refine wp_ask QE (fun _ _ _ => QE_er) (as_cons (tv_var (x := player) rfl) as_nil) (ok_ask_player player c2) fun u5 hu5 => ?_
  have h := h u5 hu5
  show Wp _ _ [_, _, _, _] [] _
  refine wp_if QE ((tv_ne ((tv_len ((tv_var (x := plan) rfl)).v)).v ((tv_len ((tv_3a ((tv_var (x := world) rfl)).v)).v)).v)).v (fun hb1 => ?_) (fun hb1 => ?_)
  · have h := True.intro
    exact wp_rete ((tv_bool).v).z
  · have h := h hb1
    show Wp _ _ [_, _, _, _] [] _
    obtain ⟨c3, c10, h⟩ := h
    refine wp_forO (σ := Unit) RE QE (s := ()) (fun (s1 : Unit) env st => env = [some (enc (world : W)), some (enc (player : Int)), some (enc (plan : (List (Option Int)))), Option.none] ∧ st = []) (u_is_plan_1 world player plan) (t_is_plan_1 world player plan) (fun x env => _) (iw_range ((tv_len ((tv_var (x := plan) rfl)).v)).v c3) ⟨rfl, rfl⟩ c10 (fun _ _ => rfl) (fun _ _ hr => re_s hr) (fun _ _ hr => (re_q hr).2) ?_ ?_
    · intro room hx1 s1 env' st' ⟨hE, hS⟩ h
      subst hE hS
      show Wp _ _ [_, _, _, _] [] _
      obtain ⟨c4, c5, c8, c9, c7, h⟩ := h
      refine wp_if (QOT RE _ _ _ _) ((tv_and ((tv_isntnone ((tv_ix ((tv_var (x := plan) rfl)).v ((tv_var (x := room) rfl)).v c4)).v)).v (fun hx3_ => ((tv_or ((tv_ne ((tv_ix ((tv_3a ((tv_var (x := world) rfl)).v)).v ((tv_var (x := room) rfl)).v (c5 hx3_))).v ((tv_var (x := player) rfl)).v)).v (fun hx2_ => ((tv_notin ((((tv_ix ((tv_var (x := plan) rfl)).v ((tv_var (x := room) rfl)).v ((c8 hx3_) hx2_))).uw ((c9 hx3_) hx2_))).v ((tv_ix ((tv_3c ((tv_var (x := world) rfl)).v)).v ((tv_var (x := room) rfl)).v ((c7 hx3_) hx2_))).v)).v))).v))).v (fun hb4 => ?_) (fun hb4 => ?_)
      · have h := True.intro
        exact wp_qot (wp_re ((tv_bool).v).z)
      · have h := True.intro
        exact qot_end ⟨rfl, rfl⟩
    · intro f1 env' st' hfo ⟨hE, hS⟩
      subst hE hS
      have h := True.intro
      exact wp_rete ((tv_bool).v).z

theorem ok_ask_plan {k : Nat} (world : W) (player : Int) (plan : (List (Option Int))) (h : s_ask_plan world player plan) : Oke (run T (k + 6)) 10 [enc world, enc player, enc plan] (m_ask_plan world player plan) := by
  refine oke_of (d := d_ask_plan) rfl rfl ?_
  show Wp _ _ [_, _, _] [] _
  obtain ⟨c1, c2, h⟩ := h
  refine wp_if QE ((tv_not ((tv_call (as_cons (tv_var (x := world) rfl) (as_cons (tv_var (x := player) rfl) (as_cons (tv_var (x := plan) rfl) as_nil))) (oke_ok (ok_is_plan world player plan c1) c2))).v)).v (fun hb1 => ?_) (fun hb1 => ?_)
  · have h := True.intro
    exact wp_raise QE_er
  · have h := True.intro
    exact wp_ende

theorem ok_follow {k : Nat} (world : W) (player : Int) (plan : (List (Option Int))) (h : s_follow world player plan) : Oke (run T (k + 7)) 11 [enc world, enc player, enc plan] (m_follow world player plan) := by
  refine oke_of (d := d_follow) rfl rfl ?_
  show Wp _ _ [_, _, _, _, _, _] [] _
  obtain ⟨c1, h⟩ := h
  refine wp_ask QE (fun _ _ _ => QE_er) (as_cons (tv_var (x := world) rfl) (as_cons (tv_var (x := player) rfl) (as_cons (tv_var (x := plan) rfl) as_nil))) (ok_ask_plan world player plan c1) fun u3 hu3 => ?_
  have h := h u3 hu3
  show Wp _ _ [_, _, _, _, _, _] [] _
  refine wl_cell QE (l := ([] : (List (List Int)))) (nv_list ([] : (List (List Int))) as_nil) fun steps hsteps => ?_
  have h := ltE h hsteps
  show Wp _ _ [_, _, _, _, _, _] [_] _
  obtain ⟨c2, c10, h⟩ := h
  refine wl_for QE (σ := (List (List Int))) (s := steps) (fun (s1 : (List (List Int))) env st => env = [some (enc (world : W)), some (enc (player : Int)), some (enc (plan : (List (Option Int)))), some (.ref 0), Option.none, Option.none] ∧ st = [.lst (List.map enc (s1 : (List (List Int))))]) (u_follow_1 world plan) (t_follow_1 world plan) (fun x env => _) (iw_range ((tv_len ((tv_3a ((tv_var (x := world) rfl)).v)).v)).v c2) ⟨rfl, rfl⟩ c10 (fun _ _ => rfl) ?_ ?_
  · intro room hx1 s1 env' st' ⟨hE, hS⟩ h
    subst hE hS
    show Wp _ _ [_, _, _, _, _, _] [_] _
    obtain ⟨c3, h⟩ := h
    refine wp_if (QT _ _ _ _) ((tv_isnone ((tv_ix ((tv_var (x := plan) rfl)).v ((tv_var (x := room) rfl)).v c3)).v)).v (fun hb1 => ?_) (fun hb1 => ?_)
    · have h := h.1 hb1
      show Wp _ _ [_, _, _, _, _, _] [_] _
      obtain ⟨c4, c5, h⟩ := h
      refine wl_append (QT _ _ _ _) (n := 0) (l := s1) (x := ((ix world.c room) : (List Int))) rfl rfl ((nv_listOf ((tv_ix ((tv_3c ((tv_var (x := world) rfl)).v)).v ((tv_var (x := room) rfl)).v c4)).v)).t c5 fun steps hsteps => ?_
      exact qt_end ⟨rfl, rfl⟩
    · have h := h.2 hb1
      show Wp _ _ [_, _, _, _, _, _] [_] _
      obtain ⟨c6, c7, c8, h⟩ := h
      refine wl_append (QT _ _ _ _) (n := 0) (l := s1) (x := (([(uw (ix plan room))] : (List Int)) : (List Int))) rfl rfl ((nv_list ([(uw (ix plan room))] : (List Int)) (as_cons (((tv_ix ((tv_var (x := plan) rfl)).v ((tv_var (x := room) rfl)).v c6)).uw c7) as_nil))).t c8 fun steps hsteps => ?_
      exact qt_end ⟨rfl, rfl⟩
  · intro f1 hf1 env' st' ⟨hE, hS⟩
    subst hE hS
    have h := ltE h hf1
    show Wp _ _ [_, _, _, _, _, _] [_] _
    obtain ⟨c9, h⟩ := h
    exact wp_rete (zv_tup (x := (⟨world.a, (List.map (fun (marks : (List Tx)) => marks) world.b), f1⟩ : W)) (zs_cons (((nv_listOf ((tv_3a ((tv_var (x := world) rfl)).v)).v)).v).z (zs_cons (((nv_map (l := world.b) (fun (marks : (List Tx)) => marks) (fun _ => _) (iv_seq ((tv_3b ((tv_var (x := world) rfl)).v)).v) c9 (fun _ => rfl) (fun marks hx2 => ((nv_listOf ((tv_var (x := marks) rfl)).v)).t))).v).z (zs_cons ((vv_cell (n := 0) (x := f1) rfl rfl)).z zs_nil))) rfl)

theorem ok_ask_game {k : Nat} (world : W) (player : Int) (rooms : (List Int)) (h : s_ask_game world player rooms) : Oke (run T (k + 5)) 12 [enc world, enc player, enc rooms] (m_ask_game world player rooms) := by
  refine oke_of (d := d_ask_game) rfl rfl ?_
  show Wp _ _ [_, _, _] [] _
  obtain ⟨c1, h⟩ := h
  refine wp_ask QE (fun _ _ _ => QE_er) (as_cons (tv_var (x := world) rfl) as_nil) (ok_ask_world world c1) fun u3 hu3 => ?_
  have h := h u3 hu3
  show Wp _ _ [_, _, _] [] _
  obtain ⟨c2, h⟩ := h
  refine wp_ask QE (fun _ _ _ => QE_er) (as_cons (tv_var (x := player) rfl) as_nil) (ok_ask_player player c2) fun u2 hu2 => ?_
  have h := h u2 hu2
  show Wp _ _ [_, _, _] [] _
  obtain ⟨c3, h⟩ := h
  refine wp_ask QE (fun _ _ _ => QE_er) (as_cons (tv_var (x := world) rfl) (as_cons (tv_var (x := rooms) rfl) as_nil)) (ok_ask_rooms world rooms c3) fun u1 hu1 => ?_
  have h := True.intro
  exact wp_ende

theorem ok_can_now {k : Nat} (world : W) (player : Int) (room : Int) (known : (List Int)) (h : s_can_now world player room known) : Okp (run T (k + 1)) 13 [enc world, enc player, enc room, enc known] (m_can_now world player room known) := by
  refine okp_of (d := d_can_now) rfl rfl ?_
  show Wp _ _ [_, _, _, _, _, _] [] _
  obtain ⟨c1, c2, h⟩ := h
  refine wl_set QR (x := ((List.filter (fun (there : Int) => (decide (there ∈ known))) (ix world.c room)) : (List Int))) ((nv_filter (l := (ix world.c room)) (fun (there : Int) => (decide (there ∈ known))) (fun _ => _) (iv_seq ((tv_ix ((tv_3c ((tv_var (x := world) rfl)).v)).v ((tv_var (x := room) rfl)).v c1)).v) c2 (fun _ => rfl) (fun _ => rfl) (fun there hx1 => ((tv_in ((tv_var (x := there) rfl)).v ((tv_var (x := known) rfl)).v)).v))).t fun into hinto => ?_
  have h := ltE h hinto
  show Wp _ _ [_, _, _, _, _, _] [] _
  obtain ⟨c3, h⟩ := h
  refine wp_if QR ((tv_eq ((tv_ix ((tv_3a ((tv_var (x := world) rfl)).v)).v ((tv_var (x := room) rfl)).v c3)).v ((tv_var (x := player) rfl)).v)).v (fun hb2 => ?_) (fun hb2 => ?_)
  · have h := True.intro
    show Wp _ _ [_, _, _, _, _, _] [] _
    exact wp_ret (((tv_gt ((tv_len ((tv_var (x := into) rfl)).v)).v (tv_int).v)).v).z
  · have h := h hb2
    show Wp _ _ [_, _, _, _, _, _] [] _
    obtain ⟨c4, h⟩ := h
    exact wp_ret (((tv_eq ((tv_len ((tv_var (x := into) rfl)).v)).v ((tv_len ((tv_ix ((tv_3c ((tv_var (x := world) rfl)).v)).v ((tv_var (x := room) rfl)).v c4)).v)).v)).v).z

theorem ok_brought {k : Nat} (world : W) (player : Int) (rooms : (List Int)) (within : (List Int)) (had : (List Int)) (h : s_brought world player rooms within had) : Okp (run T (k + 2)) 14 [enc world, enc player, enc rooms, enc within, enc had] (m_brought world player rooms within had) := by
  refine okp_of (d := d_brought) rfl rfl ?_
  show Wp _ _ [_, _, _, _, _, _, _, _, _, _, _] [] _
  obtain ⟨c1, h⟩ := h
  refine wl_cell QR (l := (List.map (fun (room : Int) => (if ((decide (room ∈ rooms)) && (decide (room ∈ within))) = true then (some (0 : Int)) else (none : (Option Int)))) (rng (len world.a)))) (nv_map (l := (rng (len world.a))) (fun (room : Int) => (if ((decide (room ∈ rooms)) && (decide (room ∈ within))) = true then (some (0 : Int)) else (none : (Option Int)))) (fun _ => _) (iv_range ((tv_len ((tv_3a ((tv_var (x := world) rfl)).v)).v)).v c1) (sz_rng c1) (fun _ => rfl) (fun room hx1 => (tv_ite ((tv_and ((tv_in ((tv_var (x := room) rfl)).v ((tv_var (x := rooms) rfl)).v)).v (fun _ => ((tv_in ((tv_var (x := room) rfl)).v ((tv_var (x := within) rfl)).v)).v))).v (fun hx3_ => (tv_int.some)) (fun hx3_ => tv_none)))) fun ranks hranks => ?_
  have h := ltE h hranks
  show Wp _ _ [_, _, _, _, _, _, _, _, _, _, _] [_] _
  refine wl_set QR (x := ((0 : Int) : Int)) tv_int fun rank hrank => ?_
  have h := ltE h hrank
  show Wp _ _ [_, _, _, _, _, _, _, _, _, _, _] [_] _
  refine wl_set QR (x := (true : Bool)) tv_bool fun more hmore => ?_
  have h := ltE h hmore
  show Wp _ _ [_, _, _, _, _, _, _, _, _, _, _] [_] _
  obtain ⟨c10, h⟩ := h
  refine wl_while QR (σ := Int × (List (Option Int)) × Bool) (s := (rank, ranks, more)) (fun (s1 : Int × (List (Option Int)) × Bool) env st => env = [some (enc (world : W)), some (enc (player : Int)), some (enc (rooms : (List Int))), some (enc (within : (List Int))), some (enc (had : (List Int))), some (.ref 0), some (enc (s1.1 : Int)), some (enc (s1.2.2 : Bool)), Option.none, Option.none, Option.none] ∧ st = [.lst (List.map enc (s1.2.1 : (List (Option Int))))]) (v_brought_1 world player within had) (c_brought_1 world player within had) (u_brought_1 world player within had) (t_brought_1 world player within had) ⟨rfl, rfl⟩ c10 ?_ ?_ ?_
  · intro s1 env' st' ⟨hE, hS⟩ h
    subst hE hS
    exact ((tv_var (x := s1.2.2) rfl)).v
  · intro s1 env' st' ⟨hE, hS⟩ hcb h
    subst hE hS
    show Wp _ _ [_, _, _, _, _, _, _, _, _, _, _] [_] _
    obtain ⟨c2, c3, c4, h⟩ := h
    refine wl_set (QT _ _ _ _) (x := ((had ++ (List.filter (fun (room : Int) => (Option.isSome (ix s1.2.1 room))) (rng (len s1.2.1)))) : (List Int))) ((nv_cat ((tv_var (x := had) rfl)).v ((nv_filter (l := (rng (len s1.2.1))) (fun (room : Int) => (Option.isSome (ix s1.2.1 room))) (fun _ => _) (iv_range ((tv_len (vv_cell (n := 0) (x := s1.2.1) rfl rfl))).v c2) (sz_rng c2) (fun _ => rfl) (fun _ => rfl) (fun room hx4 => ((tv_isntnone ((tv_ix (vv_cell (n := 0) (x := s1.2.1) rfl rfl) ((tv_var (x := room) rfl)).v (c3 room hx4))).v)).v))).v c4)).t fun known hknown => ?_
    have h := ltE h hknown
    show Wp _ _ [_, _, _, _, _, _, _, _, _, _, _] [_] _
    obtain ⟨c5, c6, c7, h⟩ := h
    refine wl_set (QT _ _ _ _) (x := ((List.filter (fun (room : Int) => ((Option.isNone (ix s1.2.1 room)) && (m_can_now world player room known))) within) : (List Int))) ((nv_filter (l := within) (fun (room : Int) => ((Option.isNone (ix s1.2.1 room)) && (m_can_now world player room known))) (fun _ => _) (iv_seq ((tv_var (x := within) rfl)).v) c5 (fun _ => rfl) (fun _ => rfl) (fun room hx5 => ((tv_and ((tv_isnone ((tv_ix (vv_cell (n := 0) (x := s1.2.1) rfl rfl) ((tv_var (x := room) rfl)).v (c6 room hx5))).v)).v (fun hx6_ => ((tv_call (as_cons (tv_var (x := world) rfl) (as_cons (tv_var (x := player) rfl) (as_cons (tv_var (x := room) rfl) (as_cons (tv_var (x := known) rfl) as_nil)))) (ok_can_now world player room known ((c7 room hx5) hx6_)))).v))).v))).t fun new hnew => ?_
    have h := ltE h hnew
    show Wp _ _ [_, _, _, _, _, _, _, _, _, _, _] [_] _
    refine wl_set (QT _ _ _ _) (x := ((s1.1 + (1 : Int)) : Int)) (tv_add ((tv_var (x := s1.1) rfl)).v (tv_int).v) fun rank hrank => ?_
    have h := ltE h hrank
    show Wp _ _ [_, _, _, _, _, _, _, _, _, _, _] [_] _
    obtain ⟨c9, h⟩ := h
    refine wl_for (QT _ _ _ _) (σ := (List (Option Int))) (s := s1.2.1) (fun (s2 : (List (Option Int))) env st => env = [some (enc (world : W)), some (enc (player : Int)), some (enc (rooms : (List Int))), some (enc (within : (List Int))), some (enc (had : (List Int))), some (.ref 0), some (enc (rank : Int)), some (enc (s1.2.2 : Bool)), some (enc (known : (List Int))), some (enc (new : (List Int))), Option.none] ∧ st = [.lst (List.map enc (s2 : (List (Option Int))))]) (u_brought_2 rank) (t_brought_2 rank) (fun x env => _) (iw_seq (tv_var (x := new) rfl)) ⟨rfl, rfl⟩ c9 (fun _ _ => rfl) ?_ ?_
    · intro room hx2 s2 env' st' ⟨hE, hS⟩ h
      subst hE hS
      show Wp _ _ [_, _, _, _, _, _, _, _, _, _, _] [_] _
      obtain ⟨c8, h⟩ := h
      refine wl_put (QT _ _ _ _) (n := 0) (l := s2) rfl rfl ((tv_var (x := room) rfl)).v ((tv_var (x := rank) rfl).some) c8 fun ranks hranks => ?_
      exact qt_end ⟨rfl, rfl⟩
    · intro f1 hf1 env' st' ⟨hE, hS⟩
      subst hE hS
      show Wp _ _ [_, _, _, _, _, _, _, _, _, _, _] [_] _
      refine wl_set (QT _ _ _ _) (x := ((decide ((0 : Int) < (len new))) : Bool)) (tv_gt ((tv_len ((tv_var (x := new) rfl)).v)).v (tv_int).v) fun more hmore => ?_
      exact qt_end ⟨rfl, rfl⟩
  · intro f2 hf2 env' st' ⟨hE, hS⟩
    subst hE hS
    show Wp _ _ [_, _, _, _, _, _, _, _, _, _, _] [_] _
    exact wp_ret ((vv_cell (n := 0) (x := f2.2.1) rfl rfl)).z

theorem ok_downwards {k : Nat} (world : W) (player : Int) (ranks : (List (Option Int))) (h : s_downwards world player ranks) : Okp (run T (k + 1)) 15 [enc world, enc player, enc ranks] (m_downwards world player ranks) := by
  refine okp_of (d := d_downwards) rfl rfl ?_
  show Wp _ _ [_, _, _, _, _, _, _, _] [] _
  refine wl_cell QR (l := ([] : (List (Option Int)))) (nv_list ([] : (List (Option Int))) as_nil) fun plan hplan => ?_
  have h := ltE h hplan
  show Wp _ _ [_, _, _, _, _, _, _, _] [_] _
  obtain ⟨c1, c15, h⟩ := h
  refine wl_for QR (σ := (List (Option Int))) (s := plan) (fun (s1 : (List (Option Int))) env st => env = [some (enc (world : W)), some (enc (player : Int)), some (enc (ranks : (List (Option Int)))), some (.ref 0), Option.none, Option.none, Option.none, Option.none] ∧ st = [.lst (List.map enc (s1 : (List (Option Int))))]) (u_downwards_1 world player ranks) (t_downwards_1 world player ranks) (fun x env => _) (iw_range ((tv_len ((tv_3a ((tv_var (x := world) rfl)).v)).v)).v c1) ⟨rfl, rfl⟩ c15 (fun _ _ => rfl) ?_ ?_
  · intro room hx1 s1 env' st' ⟨hE, hS⟩ h
    subst hE hS
    show Wp _ _ [_, _, _, _, _, _, _, _] [_] _
    refine wl_set (QT _ _ _ _) (x := ((none : (Option Int)) : (Option Int))) tv_none fun step hstep => ?_
    have h := ltE h hstep
    show Wp _ _ [_, _, _, _, _, _, _, _] [_] _
    obtain ⟨c2, c3, c4, c5, h⟩ := h
    refine wl_join (QT _ _ _ _) (σ := (Option Int)) (u :=
        lt ((List.filter (fun (there : Int) => ((Option.isSome (ix ranks there)) && (decide ((uw (ix ranks there)) < (uw (ix ranks room)))))) (ix world.c room)) : (List Int)) fun lower =>
        lt ((some (ix lower (0 : Int))) : (Option Int)) fun step =>
        step)
      (v :=
        step) (fun (s : (Option Int)) env st => ∃ o0, env = [some (enc (world : W)), some (enc (player : Int)), some (enc (ranks : (List (Option Int)))), some (.ref 0), some (enc (room : Int)), some (enc (s : (Option Int))), o0, Option.none] ∧ st = [.lst (List.map enc (s1 : (List (Option Int))))]) ((tv_and ((tv_eq ((tv_ix ((tv_3a ((tv_var (x := world) rfl)).v)).v ((tv_var (x := room) rfl)).v c2)).v ((tv_var (x := player) rfl)).v)).v (fun hx2_ => ((tv_and ((tv_isntnone ((tv_ix ((tv_var (x := ranks) rfl)).v ((tv_var (x := room) rfl)).v (c3 hx2_))).v)).v (fun hx1_ => ((tv_gt ((((tv_ix ((tv_var (x := ranks) rfl)).v ((tv_var (x := room) rfl)).v ((c4 hx2_) hx1_))).uw ((c5 hx2_) hx1_))).v (tv_int).v)).v))).v))).v (fun hb3 => ?_) (fun hb3 => ?_) ?_
    · have h := h.1 hb3
      show Wp _ _ [_, _, _, _, _, _, _, _] [_] _
      obtain ⟨c6, c7, c8, c9, c11, c10, c12, h⟩ := h
      refine wl_set (QB _) (x := ((List.filter (fun (there : Int) => ((Option.isSome (ix ranks there)) && (decide ((uw (ix ranks there)) < (uw (ix ranks room)))))) (ix world.c room)) : (List Int))) ((nv_filter (l := (ix world.c room)) (fun (there : Int) => ((Option.isSome (ix ranks there)) && (decide ((uw (ix ranks there)) < (uw (ix ranks room)))))) (fun _ => _) (iv_seq ((tv_ix ((tv_3c ((tv_var (x := world) rfl)).v)).v ((tv_var (x := room) rfl)).v c6)).v) c7 (fun _ => rfl) (fun _ => rfl) (fun there hx4 => ((tv_and ((tv_isntnone ((tv_ix ((tv_var (x := ranks) rfl)).v ((tv_var (x := there) rfl)).v (c8 there hx4))).v)).v (fun hx5_ => ((tv_lt ((((tv_ix ((tv_var (x := ranks) rfl)).v ((tv_var (x := there) rfl)).v ((c9 there hx4) hx5_))).uw ((c11 there hx4) hx5_))).v ((((tv_ix ((tv_var (x := ranks) rfl)).v ((tv_var (x := room) rfl)).v ((c10 there hx4) hx5_))).uw ((c12 there hx4) hx5_))).v)).v))).v))).t fun lower hlower => ?_
      have h := ltE h hlower
      show Wp _ _ [_, _, _, _, _, _, _, _] [_] _
      obtain ⟨c13, h⟩ := h
      refine wl_set (QB _) (x := ((some (ix lower (0 : Int))) : (Option Int))) ((tv_ix ((tv_var (x := lower) rfl)).v (tv_int).v c13).some) fun step hstep => ?_
      exact qb_end ⟨_, rfl, rfl⟩
    · have h := True.intro
      exact qb_end ⟨_, rfl, rfl⟩
    · have h := h.2
      intro j1 hj1 env' st' ⟨o0, hE, hS⟩
      subst hE hS
      have h := ltE h hj1
      show Wp _ _ [_, _, _, _, _, _, _, _] [_] _
      obtain ⟨c14, h⟩ := h
      refine wl_append (QT _ _ _ _) (n := 0) (l := s1) (x := (j1 : (Option Int))) rfl rfl (tv_var (x := j1) rfl) c14 fun plan hplan => ?_
      exact qt_end ⟨rfl, rfl⟩
  · intro f2 hf2 env' st' ⟨hE, hS⟩
    subst hE hS
    show Wp _ _ [_, _, _, _, _, _, _, _] [_] _
    exact wp_ret ((vv_cell (n := 0) (x := f2) rfl rfl)).z

theorem ok_bring {k : Nat} (world : W) (player : Int) (rooms : (List Int)) (h : s_bring world player rooms) : Oke (run T (k + 6)) 16 [enc world, enc player, enc rooms] (m_bring world player rooms) := by
  refine oke_of (d := d_bring) rfl rfl ?_
  show Wp _ _ [_, _, _, _] [] _
  obtain ⟨c1, h⟩ := h
  refine wp_ask QE (fun _ _ _ => QE_er) (as_cons (tv_var (x := world) rfl) (as_cons (tv_var (x := player) rfl) (as_cons (tv_var (x := rooms) rfl) as_nil))) (ok_ask_game world player rooms c1) fun u1 hu1 => ?_
  have h := h u1 hu1
  show Wp _ _ [_, _, _, _] [] _
  obtain ⟨c2, c3, h⟩ := h
  refine wl_set QE (x := ((m_brought world player rooms (rng (len world.a)) ([] : (List Int))) : (List (Option Int)))) (tv_call (as_cons (tv_var (x := world) rfl) (as_cons (tv_var (x := player) rfl) (as_cons (tv_var (x := rooms) rfl) (as_cons ((nv_range ((tv_len ((tv_3a ((tv_var (x := world) rfl)).v)).v)).v c2)).t (as_cons ((nv_list ([] : (List Int)) as_nil)).t as_nil))))) (ok_brought world player rooms (rng (len world.a)) ([] : (List Int)) c3)) fun ranks hranks => ?_
  have h := ltE h hranks
  show Wp _ _ [_, _, _, _] [] _
  obtain ⟨c4, h⟩ := h
  exact wp_rete (((tv_tup (x := (⟨ranks, (m_downwards world player ranks)⟩ : (T2 (List (Option Int)) (List (Option Int))))) (as_cons (tv_var (x := ranks) rfl) (as_cons (tv_call (as_cons (tv_var (x := world) rfl) (as_cons (tv_var (x := player) rfl) (as_cons (tv_var (x := ranks) rfl) as_nil))) (ok_downwards world player ranks c4)) as_nil)) rfl)).v).z

theorem ok_parts_of {k : Nat} (sentence : Sn) (h : s_parts_of sentence) : Okp (run T (k + 1)) 17 [enc sentence] (m_parts_of sentence) := by
  refine okp_of (d := d_parts_of) rfl rfl ?_
  show Wp _ _ [_] [] _
  obtain ⟨c1, c2, c3, h⟩ := h
  refine wp_if QR ((tv_eq ((tv_rtx (tv_rix (tv_var (x := sentence) rfl) (tv_int).v c1 c2) c3)).v (tv_str).v)).v (fun hb1 => ?_) (fun hb1 => ?_)
  · have h := True.intro
    show Wp _ _ [_] [] _
    exact wp_ret (((nv_list ([] : (List Sn)) as_nil)).v).z
  · have h := h hb1
    show Wp _ _ [_] [] _
    obtain ⟨c4, c5, c6, h⟩ := h
    exact wp_ret (((nv_rlist (tv_rtail (tv_var (x := sentence) rfl) c4 c5) c6)).v).z

theorem ok_well_made {k : Nat} : ∀ (fuel : Nat) (some_ : Sn) (h : s_well_made fuel some_), Okp (run T (k + fuel + 3)) 18 [enc some_] (m_well_made fuel some_)
  | 0, _, h => h.elim
  | fuel + 1, some_, h => by
    refine okp_of (d := d_well_made) rfl rfl ?_
    show Wp _ _ [_, _] [] _
    obtain ⟨c1, c2, c3, h⟩ := h
    refine wp_if QR ((tv_or ((tv_eq ((tv_rlen (tv_var (x := some_) rfl) c1)).v (tv_int).v)).v (fun hx1_ => ((tv_not ((tv_risx (tv_rix (tv_var (x := some_) rfl) (tv_int).v (c2 hx1_) (c3 hx1_)))).v)).v))).v (fun hb2 => ?_) (fun hb2 => ?_)
    · have h := True.intro
      exact wp_ret ((tv_bool).v).z
    · have h := h hb2
      show Wp _ _ [_, _] [] _
      obtain ⟨c4, c5, c6, h⟩ := h
      refine wp_if QR ((tv_eq ((tv_rtx (tv_rix (tv_var (x := some_) rfl) (tv_int).v c4 c5) c6)).v (tv_str).v)).v (fun hb3 => ?_) (fun hb3 => ?_)
      · have h := h.1 hb3
        show Wp _ _ [_, _] [] _
        obtain ⟨c7, c8, c9, c10, c11, c12, c13, h⟩ := h
        exact wp_ret (((tv_and ((tv_eq ((tv_rlen (tv_var (x := some_) rfl) c7)).v (tv_int).v)).v (fun hx5_ => ((tv_and ((tv_risx (tv_rix (tv_var (x := some_) rfl) (tv_int).v (c8 hx5_) (c9 hx5_)))).v (fun hx4_ => ((tv_call (as_cons ((nv_list ([(Sn.tx (ix (Sn.its some_) (1 : Int)))] : (List Tx)) (as_cons (tv_rtx (tv_rix (tv_var (x := some_) rfl) (tv_int).v ((c10 hx5_) hx4_) ((c11 hx5_) hx4_)) ((c12 hx5_) hx4_)) as_nil))).t as_nil) (ok_are_marks ([(Sn.tx (ix (Sn.its some_) (1 : Int)))] : (List Tx)) ((c13 hx5_) hx4_)))).v))).v))).v).z
      · have h := h.2 hb3
        show Wp _ _ [_, _] [] _
        obtain ⟨c14, c15, c16, c17, c18, c19, c20, c21, h⟩ := h
        refine wp_if QR ((tv_or ((tv_tabnotin tab_PARTS ((tv_rtx (tv_rix (tv_var (x := some_) rfl) (tv_int).v c14 c15) c16)).v)).v (fun hx6_ => ((tv_ne ((tv_rlen (tv_var (x := some_) rfl) (c17 hx6_))).v ((tv_add ((tv_tabget tab_PARTS ((tv_rtx (tv_rix (tv_var (x := some_) rfl) (tv_int).v (c18 hx6_) (c19 hx6_)) (c20 hx6_))).v (c21 hx6_))).v (tv_int).v)).v)).v))).v (fun hb7 => ?_) (fun hb7 => ?_)
        · have h := True.intro
          exact wp_ret ((tv_bool).v).z
        · have h := h hb7
          show Wp _ _ [_, _] [] _
          obtain ⟨c22, c23, c24, c25, c26, h⟩ := h
          exact wp_ret (((tv_allm ((nv_map (l := (Sn.its (Sn.n (List.drop 1 (Sn.its some_))))) (fun (piece : Sn) => ((Sn.isN piece) && (m_well_made fuel piece))) (fun _ => _) (iv_rseq (tv_rtail (tv_var (x := some_) rfl) c22 c23) c24) c25 (fun _ => rfl) (fun piece hx8 => (tv_and ((tv_risn (tv_var (x := piece) rfl))).v (fun hx9_ => ((tv_call (as_cons (tv_var (x := piece) rfl) as_nil) (ok_well_made fuel piece ((c26 piece hx8) hx9_)))).v))))).v)).v).z

theorem ok_count {k : Nat} : ∀ (fuel : Nat) (sentence : Sn) (h : s_count fuel sentence), Okp (run T (k + fuel + 2)) 19 [enc sentence] (m_count fuel sentence)
  | 0, _, h => h.elim
  | fuel + 1, sentence, h => by
    refine okp_of (d := d_count) rfl rfl ?_
    show Wp _ _ [_, _] [] _
    obtain ⟨c1, c2, c3, h⟩ := h
    exact wp_ret (((tv_add (tv_int).v ((tv_sum ((nv_map (l := (m_parts_of sentence)) (fun (piece : Sn) => (m_count fuel piece)) (fun _ => _) (iv_seq ((tv_call (as_cons (tv_var (x := sentence) rfl) as_nil) (ok_parts_of sentence c1))).v) c2 (fun _ => rfl) (fun piece hx1 => (tv_call (as_cons (tv_var (x := piece) rfl) as_nil) (ok_count fuel piece (c3 piece hx1)))))).v)).v)).v).z

theorem ok_deep {k : Nat} : ∀ (fuel : Nat) (sentence : Sn) (h : s_deep fuel sentence), Okp (run T (k + fuel + 2)) 20 [enc sentence] (m_deep fuel sentence)
  | 0, _, h => h.elim
  | fuel + 1, sentence, h => by
    refine okp_of (d := d_deep) rfl rfl ?_
    show Wp _ _ [_, _] [] _
    obtain ⟨c1, c2, c3, h⟩ := h
    exact wp_ret (((tv_add (tv_int).v ((tv_maxd0 ((nv_map (l := (m_parts_of sentence)) (fun (piece : Sn) => (m_deep fuel piece)) (fun _ => _) (iv_seq ((tv_call (as_cons (tv_var (x := sentence) rfl) as_nil) (ok_parts_of sentence c1))).v) c2 (fun _ => rfl) (fun piece hx1 => (tv_call (as_cons (tv_var (x := piece) rfl) as_nil) (ok_deep fuel piece (c3 piece hx1)))))).v)).v)).v).z

theorem ok_is_sentence {k : Nat} (some_ : Sn) (h : s_is_sentence some_) : Okp (run T (k + 34)) 21 [enc some_] (m_is_sentence some_) := by
  refine okp_of (d := d_is_sentence) rfl rfl ?_
  show Wp _ _ [_] [] _
  obtain ⟨c1, c2, c3, h⟩ := h
  exact wp_ret (((tv_and ((tv_call (as_cons (tv_var (x := some_) rfl) as_nil) (ok_well_made 30 some_ c1))).v (fun hx2_ => ((tv_and ((tv_le ((tv_call (as_cons (tv_var (x := some_) rfl) as_nil) (ok_count 30 some_ (c2 hx2_)))).v ((tv_glob rfl)).v)).v (fun hx1_ => ((tv_le ((tv_call (as_cons (tv_var (x := some_) rfl) as_nil) (ok_deep 30 some_ ((c3 hx2_) hx1_)))).v ((tv_glob rfl)).v)).v))).v))).v).z

theorem ok_ask_sentence {k : Nat} (sentence : Sn) (h : s_ask_sentence sentence) : Oke (run T (k + 35)) 22 [enc sentence] (m_ask_sentence sentence) := by
  refine oke_of (d := d_ask_sentence) rfl rfl ?_
  show Wp _ _ [_] [] _
  obtain ⟨c1, h⟩ := h
  refine wp_if QE ((tv_not ((tv_call (as_cons (tv_var (x := sentence) rfl) as_nil) (ok_is_sentence sentence c1))).v)).v (fun hb1 => ?_) (fun hb1 => ?_)
  · have h := True.intro
    exact wp_raise QE_er
  · have h := True.intro
    exact wp_ende

theorem ok_some_ranks {k : Nat} (world : W) (stay : (List Int)) (goal : (List Int)) (h : s_some_ranks world stay goal) : Okp (run T (k + 1)) 23 [enc world, enc stay, enc goal] (m_some_ranks world stay goal) := by
  refine okp_of (d := d_some_ranks) rfl rfl ?_
  show Wp _ _ [_, _, _, _, _, _, _, _, _, _] [] _
  refine wl_set QR (x := ((len world.a) : Int)) (tv_len ((tv_3a ((tv_var (x := world) rfl)).v)).v) fun many hmany => ?_
  have h := ltE h hmany
  show Wp _ _ [_, _, _, _, _, _, _, _, _, _] [] _
  obtain ⟨c1, h⟩ := h
  refine wl_cell QR (l := (List.map (fun (room : Int) => (if (decide (room ∈ goal)) = true then (some (0 : Int)) else (none : (Option Int)))) (rng many))) (nv_map (l := (rng many)) (fun (room : Int) => (if (decide (room ∈ goal)) = true then (some (0 : Int)) else (none : (Option Int)))) (fun _ => _) (iv_range ((tv_var (x := many) rfl)).v c1) (sz_rng c1) (fun _ => rfl) (fun room hx1 => (tv_ite ((tv_in ((tv_var (x := room) rfl)).v ((tv_var (x := goal) rfl)).v)).v (fun hx2_ => (tv_int.some)) (fun hx2_ => tv_none)))) fun ranks hranks => ?_
  have h := ltE h hranks
  show Wp _ _ [_, _, _, _, _, _, _, _, _, _] [_] _
  refine wl_set QR (x := ((0 : Int) : Int)) tv_int fun turn hturn => ?_
  have h := ltE h hturn
  show Wp _ _ [_, _, _, _, _, _, _, _, _, _] [_] _
  refine wl_set QR (x := ((decide ((0 : Int) < (len goal))) : Bool)) (tv_gt ((tv_len ((tv_var (x := goal) rfl)).v)).v (tv_int).v) fun more hmore => ?_
  have h := ltE h hmore
  show Wp _ _ [_, _, _, _, _, _, _, _, _, _] [_] _
  obtain ⟨c11, h⟩ := h
  refine wl_while QR (σ := Int × (List (Option Int)) × Bool) (s := (turn, ranks, more)) (fun (s1 : Int × (List (Option Int)) × Bool) env st => env = [some (enc (world : W)), some (enc (stay : (List Int))), some (enc (goal : (List Int))), some (enc (many : Int)), some (.ref 0), some (enc (s1.1 : Int)), some (enc (s1.2.2 : Bool)), Option.none, Option.none, Option.none] ∧ st = [.lst (List.map enc (s1.2.1 : (List (Option Int))))]) (v_some_ranks_1 world stay many) (c_some_ranks_1 world stay many) (u_some_ranks_1 world stay many) (t_some_ranks_1 world stay many) ⟨rfl, rfl⟩ c11 ?_ ?_ ?_
  · intro s1 env' st' ⟨hE, hS⟩ h
    subst hE hS
    exact ((tv_var (x := s1.2.2) rfl)).v
  · intro s1 env' st' ⟨hE, hS⟩ hcb h
    subst hE hS
    show Wp _ _ [_, _, _, _, _, _, _, _, _, _] [_] _
    refine wl_cell (QT _ _ _ _) (l := ([] : (List Int))) (nv_list ([] : (List Int)) as_nil) fun new hnew => ?_
    have h := ltE h hnew
    show Wp _ _ [_, _, _, _, _, _, _, _, _, _] [_, _] _
    obtain ⟨c2, c10, h⟩ := h
    refine wl_for (QT _ _ _ _) (σ := (List Int)) (s := new) (fun (s2 : (List Int)) env st => ∃ o0, env = [some (enc (world : W)), some (enc (stay : (List Int))), some (enc (goal : (List Int))), some (enc (many : Int)), some (.ref 0), some (enc (s1.1 : Int)), some (enc (s1.2.2 : Bool)), some (.ref 1), o0, Option.none] ∧ st = [.lst (List.map enc (s1.2.1 : (List (Option Int)))), .lst (List.map enc (s2 : (List Int)))]) (u_some_ranks_2 world stay s1) (t_some_ranks_2 world stay s1) (fun x env => _) (iw_range ((tv_var (x := many) rfl)).v c2) ⟨_, rfl, rfl⟩ c10 (fun _ _ => rfl) ?_ ?_
    · intro room hx2 s2 env' st' ⟨o0, hE, hS⟩ h
      subst hE hS
      show Wp _ _ [_, _, _, _, _, _, _, _, _, _] [_, _] _
      obtain ⟨c3, h⟩ := h
      refine wp_if (QT _ _ _ _) ((tv_and ((tv_isnone ((tv_ix (vv_cell (n := 0) (x := s1.2.1) rfl rfl) ((tv_var (x := room) rfl)).v c3)).v)).v (fun _ => ((tv_in ((tv_var (x := room) rfl)).v ((tv_var (x := stay) rfl)).v)).v))).v (fun hb4 => ?_) (fun hb4 => ?_)
      · have h := h hb4
        show Wp _ _ [_, _, _, _, _, _, _, _, _, _] [_, _] _
        obtain ⟨c4, c5, c6, h⟩ := h
        refine wp_if (QT _ _ _ _) ((tv_gt ((tv_len ((nv_filter (l := (ix world.c room)) (fun (there : Int) => (Option.isSome (ix s1.2.1 there))) (fun _ => _) (iv_seq ((tv_ix ((tv_3c ((tv_var (x := world) rfl)).v)).v ((tv_var (x := room) rfl)).v c4)).v) c5 (fun _ => rfl) (fun _ => rfl) (fun there hx5 => ((tv_isntnone ((tv_ix (vv_cell (n := 0) (x := s1.2.1) rfl rfl) ((tv_var (x := there) rfl)).v (c6 there hx5))).v)).v))).v)).v (tv_int).v)).v (fun hb6 => ?_) (fun hb6 => ?_)
        · have h := h hb6
          show Wp _ _ [_, _, _, _, _, _, _, _, _, _] [_, _] _
          obtain ⟨c7, h⟩ := h
          refine wl_append (QT _ _ _ _) (n := 1) (l := s2) (x := (room : Int)) rfl rfl (tv_var (x := room) rfl) c7 fun new hnew => ?_
          exact qt_end ⟨_, rfl, rfl⟩
        · have h := True.intro
          exact qt_end ⟨_, rfl, rfl⟩
      · have h := True.intro
        exact qt_end ⟨_, rfl, rfl⟩
    · intro f1 hf1 env' st' ⟨o0, hE, hS⟩
      subst hE hS
      have h := ltE h hf1
      show Wp _ _ [_, _, _, _, _, _, _, _, _, _] [_, _] _
      refine wl_set (QT _ _ _ _) (x := ((s1.1 + (1 : Int)) : Int)) (tv_add ((tv_var (x := s1.1) rfl)).v (tv_int).v) fun turn hturn => ?_
      have h := ltE h hturn
      refine wp_fz (n := 1) (l := f1) rfl rfl ?_
      show Wp _ _ [_, _, _, _, _, _, _, _, _, _] [_, _] _
      obtain ⟨c9, h⟩ := h
      refine wl_for (QT _ _ _ _) (σ := (List (Option Int))) (s := s1.2.1) (fun (s3 : (List (Option Int))) env st => ∃ o0, env = [some (enc (world : W)), some (enc (stay : (List Int))), some (enc (goal : (List Int))), some (enc (many : Int)), some (.ref 0), some (enc (turn : Int)), some (enc (s1.2.2 : Bool)), some (enc (f1 : (List Int))), o0, Option.none] ∧ st = [.lst (List.map enc (s3 : (List (Option Int)))), .dead]) (u_some_ranks_3 turn) (t_some_ranks_3 turn) (fun x env => _) (iw_seq (tv_var (x := f1) rfl)) ⟨_, rfl, rfl⟩ c9 (fun _ _ => rfl) ?_ ?_
      · intro room hx3 s3 env' st' ⟨o0, hE, hS⟩ h
        subst hE hS
        show Wp _ _ [_, _, _, _, _, _, _, _, _, _] [_, _] _
        obtain ⟨c8, h⟩ := h
        refine wl_put (QT _ _ _ _) (n := 0) (l := s3) rfl rfl ((tv_var (x := room) rfl)).v ((tv_var (x := turn) rfl).some) c8 fun ranks hranks => ?_
        exact qt_end ⟨_, rfl, rfl⟩
      · intro f2 hf2 env' st' ⟨o0, hE, hS⟩
        subst hE hS
        show Wp _ _ [_, _, _, _, _, _, _, _, _, _] [_, _] _
        refine wl_set (QT _ _ _ _) (x := ((decide ((0 : Int) < (len f1))) : Bool)) (tv_gt ((tv_len ((tv_var (x := f1) rfl)).v)).v (tv_int).v) fun more hmore => ?_
        exact qt_trim (by simp [wipeE]) (by simp) ⟨rfl, rfl⟩
  · intro f3 hf3 env' st' ⟨hE, hS⟩
    subst hE hS
    show Wp _ _ [_, _, _, _, _, _, _, _, _, _] [_] _
    exact wp_ret ((vv_cell (n := 0) (x := f3.2.1) rfl rfl)).z

theorem ok_all_ranks {k : Nat} (world : W) (stay : (List Int)) (goal : (List Int)) (h : s_all_ranks world stay goal) : Okp (run T (k + 1)) 24 [enc world, enc stay, enc goal] (m_all_ranks world stay goal) := by
  refine okp_of (d := d_all_ranks) rfl rfl ?_
  show Wp _ _ [_, _, _, _, _, _, _, _, _, _] [] _
  refine wl_set QR (x := ((len world.a) : Int)) (tv_len ((tv_3a ((tv_var (x := world) rfl)).v)).v) fun many hmany => ?_
  have h := ltE h hmany
  show Wp _ _ [_, _, _, _, _, _, _, _, _, _] [] _
  obtain ⟨c1, h⟩ := h
  refine wl_cell QR (l := (List.map (fun (room : Int) => (if (decide (room ∈ goal)) = true then (some (0 : Int)) else (none : (Option Int)))) (rng many))) (nv_map (l := (rng many)) (fun (room : Int) => (if (decide (room ∈ goal)) = true then (some (0 : Int)) else (none : (Option Int)))) (fun _ => _) (iv_range ((tv_var (x := many) rfl)).v c1) (sz_rng c1) (fun _ => rfl) (fun room hx1 => (tv_ite ((tv_in ((tv_var (x := room) rfl)).v ((tv_var (x := goal) rfl)).v)).v (fun hx2_ => (tv_int.some)) (fun hx2_ => tv_none)))) fun ranks hranks => ?_
  have h := ltE h hranks
  show Wp _ _ [_, _, _, _, _, _, _, _, _, _] [_] _
  refine wl_set QR (x := ((0 : Int) : Int)) tv_int fun turn hturn => ?_
  have h := ltE h hturn
  show Wp _ _ [_, _, _, _, _, _, _, _, _, _] [_] _
  refine wl_set QR (x := ((decide ((0 : Int) < (len goal))) : Bool)) (tv_gt ((tv_len ((tv_var (x := goal) rfl)).v)).v (tv_int).v) fun more hmore => ?_
  have h := ltE h hmore
  show Wp _ _ [_, _, _, _, _, _, _, _, _, _] [_] _
  obtain ⟨c11, h⟩ := h
  refine wl_while QR (σ := Int × (List (Option Int)) × Bool) (s := (turn, ranks, more)) (fun (s1 : Int × (List (Option Int)) × Bool) env st => env = [some (enc (world : W)), some (enc (stay : (List Int))), some (enc (goal : (List Int))), some (enc (many : Int)), some (.ref 0), some (enc (s1.1 : Int)), some (enc (s1.2.2 : Bool)), Option.none, Option.none, Option.none] ∧ st = [.lst (List.map enc (s1.2.1 : (List (Option Int))))]) (v_all_ranks_1 world stay many) (c_all_ranks_1 world stay many) (u_all_ranks_1 world stay many) (t_all_ranks_1 world stay many) ⟨rfl, rfl⟩ c11 ?_ ?_ ?_
  · intro s1 env' st' ⟨hE, hS⟩ h
    subst hE hS
    exact ((tv_var (x := s1.2.2) rfl)).v
  · intro s1 env' st' ⟨hE, hS⟩ hcb h
    subst hE hS
    show Wp _ _ [_, _, _, _, _, _, _, _, _, _] [_] _
    refine wl_cell (QT _ _ _ _) (l := ([] : (List Int))) (nv_list ([] : (List Int)) as_nil) fun new hnew => ?_
    have h := ltE h hnew
    show Wp _ _ [_, _, _, _, _, _, _, _, _, _] [_, _] _
    obtain ⟨c2, c10, h⟩ := h
    refine wl_for (QT _ _ _ _) (σ := (List Int)) (s := new) (fun (s2 : (List Int)) env st => ∃ o0, env = [some (enc (world : W)), some (enc (stay : (List Int))), some (enc (goal : (List Int))), some (enc (many : Int)), some (.ref 0), some (enc (s1.1 : Int)), some (enc (s1.2.2 : Bool)), some (.ref 1), o0, Option.none] ∧ st = [.lst (List.map enc (s1.2.1 : (List (Option Int)))), .lst (List.map enc (s2 : (List Int)))]) (u_all_ranks_2 world stay s1) (t_all_ranks_2 world stay s1) (fun x env => _) (iw_range ((tv_var (x := many) rfl)).v c2) ⟨_, rfl, rfl⟩ c10 (fun _ _ => rfl) ?_ ?_
    · intro room hx2 s2 env' st' ⟨o0, hE, hS⟩ h
      subst hE hS
      show Wp _ _ [_, _, _, _, _, _, _, _, _, _] [_, _] _
      obtain ⟨c3, h⟩ := h
      refine wp_if (QT _ _ _ _) ((tv_and ((tv_isnone ((tv_ix (vv_cell (n := 0) (x := s1.2.1) rfl rfl) ((tv_var (x := room) rfl)).v c3)).v)).v (fun _ => ((tv_in ((tv_var (x := room) rfl)).v ((tv_var (x := stay) rfl)).v)).v))).v (fun hb4 => ?_) (fun hb4 => ?_)
      · have h := h hb4
        show Wp _ _ [_, _, _, _, _, _, _, _, _, _] [_, _] _
        obtain ⟨c4, c5, c6, h⟩ := h
        refine wp_if (QT _ _ _ _) ((tv_eq ((tv_len ((nv_filter (l := (ix world.c room)) (fun (there : Int) => (Option.isNone (ix s1.2.1 there))) (fun _ => _) (iv_seq ((tv_ix ((tv_3c ((tv_var (x := world) rfl)).v)).v ((tv_var (x := room) rfl)).v c4)).v) c5 (fun _ => rfl) (fun _ => rfl) (fun there hx5 => ((tv_isnone ((tv_ix (vv_cell (n := 0) (x := s1.2.1) rfl rfl) ((tv_var (x := there) rfl)).v (c6 there hx5))).v)).v))).v)).v (tv_int).v)).v (fun hb6 => ?_) (fun hb6 => ?_)
        · have h := h hb6
          show Wp _ _ [_, _, _, _, _, _, _, _, _, _] [_, _] _
          obtain ⟨c7, h⟩ := h
          refine wl_append (QT _ _ _ _) (n := 1) (l := s2) (x := (room : Int)) rfl rfl (tv_var (x := room) rfl) c7 fun new hnew => ?_
          exact qt_end ⟨_, rfl, rfl⟩
        · have h := True.intro
          exact qt_end ⟨_, rfl, rfl⟩
      · have h := True.intro
        exact qt_end ⟨_, rfl, rfl⟩
    · intro f1 hf1 env' st' ⟨o0, hE, hS⟩
      subst hE hS
      have h := ltE h hf1
      show Wp _ _ [_, _, _, _, _, _, _, _, _, _] [_, _] _
      refine wl_set (QT _ _ _ _) (x := ((s1.1 + (1 : Int)) : Int)) (tv_add ((tv_var (x := s1.1) rfl)).v (tv_int).v) fun turn hturn => ?_
      have h := ltE h hturn
      refine wp_fz (n := 1) (l := f1) rfl rfl ?_
      show Wp _ _ [_, _, _, _, _, _, _, _, _, _] [_, _] _
      obtain ⟨c9, h⟩ := h
      refine wl_for (QT _ _ _ _) (σ := (List (Option Int))) (s := s1.2.1) (fun (s3 : (List (Option Int))) env st => ∃ o0, env = [some (enc (world : W)), some (enc (stay : (List Int))), some (enc (goal : (List Int))), some (enc (many : Int)), some (.ref 0), some (enc (turn : Int)), some (enc (s1.2.2 : Bool)), some (enc (f1 : (List Int))), o0, Option.none] ∧ st = [.lst (List.map enc (s3 : (List (Option Int)))), .dead]) (u_all_ranks_3 turn) (t_all_ranks_3 turn) (fun x env => _) (iw_seq (tv_var (x := f1) rfl)) ⟨_, rfl, rfl⟩ c9 (fun _ _ => rfl) ?_ ?_
      · intro room hx3 s3 env' st' ⟨o0, hE, hS⟩ h
        subst hE hS
        show Wp _ _ [_, _, _, _, _, _, _, _, _, _] [_, _] _
        obtain ⟨c8, h⟩ := h
        refine wl_put (QT _ _ _ _) (n := 0) (l := s3) rfl rfl ((tv_var (x := room) rfl)).v ((tv_var (x := turn) rfl).some) c8 fun ranks hranks => ?_
        exact qt_end ⟨_, rfl, rfl⟩
      · intro f2 hf2 env' st' ⟨o0, hE, hS⟩
        subst hE hS
        show Wp _ _ [_, _, _, _, _, _, _, _, _, _] [_, _] _
        refine wl_set (QT _ _ _ _) (x := ((decide ((0 : Int) < (len f1))) : Bool)) (tv_gt ((tv_len ((tv_var (x := f1) rfl)).v)).v (tv_int).v) fun more hmore => ?_
        exact qt_trim (by simp [wipeE]) (by simp) ⟨rfl, rfl⟩
  · intro f3 hf3 env' st' ⟨hE, hS⟩
    subst hE hS
    show Wp _ _ [_, _, _, _, _, _, _, _, _, _] [_] _
    exact wp_ret ((vv_cell (n := 0) (x := f3.2.1) rfl rfl)).z

theorem ok_others {k : Nat} (world : W) (rooms : (List Int)) (h : s_others world rooms) : Okp (run T (k + 1)) 25 [enc world, enc rooms] (m_others world rooms) := by
  refine okp_of (d := d_others) rfl rfl ?_
  show Wp _ _ [_, _, _] [] _
  obtain ⟨c1, h⟩ := h
  exact wp_ret (((nv_filter (l := (rng (len world.a))) (fun (room : Int) => (!(decide (room ∈ rooms)))) (fun _ => _) (iv_range ((tv_len ((tv_3a ((tv_var (x := world) rfl)).v)).v)).v c1) (sz_rng c1) (fun _ => rfl) (fun _ => rfl) (fun room hx1 => ((tv_notin ((tv_var (x := room) rfl)).v ((tv_var (x := rooms) rfl)).v)).v))).v).z

theorem ok_time_ranks {k : Nat} (world : W) (word : Tx) (one_ : (List Int)) (other : (List Int)) (h : s_time_ranks world word one_ other) : Okp (run T (k + 2)) 26 [enc world, enc word, enc one_, enc other] (m_time_ranks world word one_ other) := by
  refine okp_of (d := d_time_ranks) rfl rfl ?_
  show Wp _ _ [_, _, _, _, _] [] _
  obtain ⟨c1, h⟩ := h
  refine wl_set QR (x := ((rng (len world.a)) : (List Int))) ((nv_range ((tv_len ((tv_3a ((tv_var (x := world) rfl)).v)).v)).v c1)).t fun whole hwhole => ?_
  have h := ltE h hwhole
  show Wp _ _ [_, _, _, _, _] [] _
  refine wp_if QR ((tv_eq ((tv_var (x := word) rfl)).v (tv_str).v)).v (fun hb1 => ?_) (fun hb1 => ?_)
  · have h := h.1 hb1
    show Wp _ _ [_, _, _, _, _] [] _
    obtain ⟨c2, h⟩ := h
    exact wp_ret (((tv_call (as_cons (tv_var (x := world) rfl) (as_cons (tv_var (x := one_) rfl) (as_cons (tv_var (x := other) rfl) as_nil))) (ok_some_ranks world one_ other c2))).v).z
  · have h := h.2 hb1
    show Wp _ _ [_, _, _, _, _] [] _
    refine wp_if QR ((tv_eq ((tv_var (x := word) rfl)).v (tv_str).v)).v (fun hb2 => ?_) (fun hb2 => ?_)
    · have h := h.1 hb2
      show Wp _ _ [_, _, _, _, _] [] _
      obtain ⟨c3, h⟩ := h
      exact wp_ret (((tv_call (as_cons (tv_var (x := world) rfl) (as_cons (tv_var (x := one_) rfl) (as_cons (tv_var (x := other) rfl) as_nil))) (ok_all_ranks world one_ other c3))).v).z
    · have h := h.2 hb2
      show Wp _ _ [_, _, _, _, _] [] _
      refine wp_if QR ((tv_eq ((tv_var (x := word) rfl)).v (tv_str).v)).v (fun hb3 => ?_) (fun hb3 => ?_)
      · have h := h.1 hb3
        show Wp _ _ [_, _, _, _, _] [] _
        obtain ⟨c4, c5, h⟩ := h
        exact wp_ret (((tv_call (as_cons (tv_var (x := world) rfl) (as_cons (tv_var (x := whole) rfl) (as_cons (tv_call (as_cons (tv_var (x := world) rfl) (as_cons (tv_var (x := one_) rfl) as_nil)) (ok_others world one_ c4)) as_nil))) (ok_all_ranks world whole (m_others world one_) c5))).v).z
      · have h := h.2 hb3
        show Wp _ _ [_, _, _, _, _] [] _
        obtain ⟨c6, c7, h⟩ := h
        exact wp_ret (((tv_call (as_cons (tv_var (x := world) rfl) (as_cons (tv_var (x := whole) rfl) (as_cons (tv_call (as_cons (tv_var (x := world) rfl) (as_cons (tv_var (x := one_) rfl) as_nil)) (ok_others world one_ c6)) as_nil))) (ok_some_ranks world whole (m_others world one_) c7))).v).z

theorem ok_rooms_by_ranks {k : Nat} (word : Tx) (ranks : (List (Option Int))) (h : s_rooms_by_ranks word ranks) : Okp (run T (k + 1)) 27 [enc word, enc ranks] (m_rooms_by_ranks word ranks) := by
  refine okp_of (d := d_rooms_by_ranks) rfl rfl ?_
  show Wp _ _ [_, _, _, _] [] _
  refine wl_set QR (x := ((decide (word ∈ ([(tx "some until"), (tx "all until")] : List Tx))) : Bool)) (tv_intup ([(tx "some until"), (tx "all until")] : List Tx) ((tv_var (x := word) rfl)).v ⟨_, tup_ev (as_cons tv_str (as_cons tv_str as_nil)) (by decide), rfl⟩ rfl) fun wanted hwanted => ?_
  have h := ltE h hwanted
  show Wp _ _ [_, _, _, _] [] _
  obtain ⟨c1, c2, h⟩ := h
  exact wp_ret (((nv_filter (l := (rng (len ranks))) (fun (room : Int) => (decide ((Option.isSome (ix ranks room)) = wanted))) (fun _ => _) (iv_range ((tv_len ((tv_var (x := ranks) rfl)).v)).v c1) (sz_rng c1) (fun _ => rfl) (fun _ => rfl) (fun room hx1 => ((tv_eq ((tv_isntnone ((tv_ix ((tv_var (x := ranks) rfl)).v ((tv_var (x := room) rfl)).v (c2 room hx1))).v)).v ((tv_var (x := wanted) rfl)).v)).v))).v).z

theorem ok_stepping {k : Nat} (world : W) (word : Tx) (rooms : (List Int)) (h : s_stepping world word rooms) : Okp (run T (k + 1)) 28 [enc world, enc word, enc rooms] (m_stepping world word rooms) := by
  refine okp_of (d := d_stepping) rfl rfl ?_
  show Wp _ _ [_, _, _, _, _, _, _] [] _
  refine wl_cell QR (l := ([] : (List Int))) (nv_list ([] : (List Int)) as_nil) fun found hfound => ?_
  have h := ltE h hfound
  show Wp _ _ [_, _, _, _, _, _, _] [_] _
  obtain ⟨c1, c6, h⟩ := h
  refine wl_for QR (σ := (List Int)) (s := found) (fun (s1 : (List Int)) env st => env = [some (enc (world : W)), some (enc (word : Tx)), some (enc (rooms : (List Int))), some (.ref 0), Option.none, Option.none, Option.none] ∧ st = [.lst (List.map enc (s1 : (List Int)))]) (u_stepping_1 world word rooms) (t_stepping_1 world word rooms) (fun x env => _) (iw_range ((tv_len ((tv_3a ((tv_var (x := world) rfl)).v)).v)).v c1) ⟨rfl, rfl⟩ c6 (fun _ _ => rfl) ?_ ?_
  · intro room hx1 s1 env' st' ⟨hE, hS⟩ h
    subst hE hS
    show Wp _ _ [_, _, _, _, _, _, _] [_] _
    obtain ⟨c2, c3, h⟩ := h
    refine wl_set (QT _ _ _ _) (x := ((List.filter (fun (there : Int) => (decide (there ∈ rooms))) (ix world.c room)) : (List Int))) ((nv_filter (l := (ix world.c room)) (fun (there : Int) => (decide (there ∈ rooms))) (fun _ => _) (iv_seq ((tv_ix ((tv_3c ((tv_var (x := world) rfl)).v)).v ((tv_var (x := room) rfl)).v c2)).v) c3 (fun _ => rfl) (fun _ => rfl) (fun there hx1 => ((tv_in ((tv_var (x := there) rfl)).v ((tv_var (x := rooms) rfl)).v)).v))).t fun into hinto => ?_
    have h := ltE h hinto
    show Wp _ _ [_, _, _, _, _, _, _] [_] _
    obtain ⟨c4, h⟩ := h
    refine wp_if (QT _ _ _ _) ((tv_or ((tv_eq ((tv_len ((tv_var (x := into) rfl)).v)).v ((tv_len ((tv_ix ((tv_3c ((tv_var (x := world) rfl)).v)).v ((tv_var (x := room) rfl)).v c4)).v)).v)).v (fun _ => ((tv_and ((tv_eq ((tv_var (x := word) rfl)).v (tv_str).v)).v (fun _ => ((tv_gt ((tv_len ((tv_var (x := into) rfl)).v)).v (tv_int).v)).v))).v))).v (fun hb4 => ?_) (fun hb4 => ?_)
    · have h := h hb4
      show Wp _ _ [_, _, _, _, _, _, _] [_] _
      obtain ⟨c5, h⟩ := h
      refine wl_append (QT _ _ _ _) (n := 0) (l := s1) (x := (room : Int)) rfl rfl (tv_var (x := room) rfl) c5 fun found hfound => ?_
      exact qt_end ⟨rfl, rfl⟩
    · have h := True.intro
      exact qt_end ⟨rfl, rfl⟩
  · intro f1 hf1 env' st' ⟨hE, hS⟩
    subst hE hS
    show Wp _ _ [_, _, _, _, _, _, _] [_] _
    exact wp_ret ((vv_cell (n := 0) (x := f1) rfl rfl)).z

theorem ok_plain_rooms {k : Nat} (world : W) (sentence : Sn) (parts : (List (List Int))) (h : s_plain_rooms world sentence parts) : Okp (run T (k + 2)) 29 [enc world, enc sentence, enc parts] (m_plain_rooms world sentence parts) := by
  refine okp_of (d := d_plain_rooms) rfl rfl ?_
  show Wp _ _ [_, _, _, _, _, _] [] _
  obtain ⟨c1, c2, c3, h⟩ := h
  refine wl_set QR (x := ((Sn.tx (ix (Sn.its sentence) (0 : Int))) : Tx)) (tv_rtx (tv_rix (tv_var (x := sentence) rfl) (tv_int).v c1 c2) c3) fun word hword => ?_
  have h := ltE h hword
  show Wp _ _ [_, _, _, _, _, _] [] _
  obtain ⟨c4, h⟩ := h
  refine wl_set QR (x := ((rng (len world.a)) : (List Int))) ((nv_range ((tv_len ((tv_3a ((tv_var (x := world) rfl)).v)).v)).v c4)).t fun whole hwhole => ?_
  have h := ltE h hwhole
  show Wp _ _ [_, _, _, _, _, _] [] _
  refine wp_if QR ((tv_eq ((tv_var (x := word) rfl)).v (tv_str).v)).v (fun hb1 => ?_) (fun hb1 => ?_)
  · have h := True.intro
    show Wp _ _ [_, _, _, _, _, _] [] _
    exact wp_ret (((tv_var (x := whole) rfl)).v).z
  · have h := h hb1
    show Wp _ _ [_, _, _, _, _, _] [] _
    refine wp_if QR ((tv_eq ((tv_var (x := word) rfl)).v (tv_str).v)).v (fun hb2 => ?_) (fun hb2 => ?_)
    · have h := h.1 hb2
      show Wp _ _ [_, _, _, _, _, _] [] _
      obtain ⟨c5, c10, c11, c12, c9, h⟩ := h
      exact wp_ret (((nv_filter (l := whole) (fun (room : Int) => (decide ((Sn.tx (ix (Sn.its sentence) (1 : Int))) ∈ (ix world.b room)))) (fun _ => _) (iv_seq ((tv_var (x := whole) rfl)).v) c5 (fun _ => rfl) (fun _ => rfl) (fun room hx3 => ((tv_in ((tv_rtx (tv_rix (tv_var (x := sentence) rfl) (tv_int).v (c10 room hx3) (c11 room hx3)) (c12 room hx3))).v ((tv_ix ((tv_3b ((tv_var (x := world) rfl)).v)).v ((tv_var (x := room) rfl)).v (c9 room hx3))).v)).v))).v).z
    · have h := h.2 hb2
      show Wp _ _ [_, _, _, _, _, _] [] _
      refine wp_if QR ((tv_eq ((tv_var (x := word) rfl)).v (tv_str).v)).v (fun hb4 => ?_) (fun hb4 => ?_)
      · have h := h.1 hb4
        show Wp _ _ [_, _, _, _, _, _] [] _
        obtain ⟨c13, c14, h⟩ := h
        exact wp_ret (((tv_call (as_cons (tv_var (x := world) rfl) (as_cons (tv_ix ((tv_var (x := parts) rfl)).v (tv_int).v c13) as_nil)) (ok_others world (ix parts (0 : Int)) c14))).v).z
      · have h := h.2 hb4
        show Wp _ _ [_, _, _, _, _, _] [] _
        refine wp_if QR ((tv_eq ((tv_var (x := word) rfl)).v (tv_str).v)).v (fun hb5 => ?_) (fun hb5 => ?_)
        · have h := h.1 hb5
          show Wp _ _ [_, _, _, _, _, _] [] _
          obtain ⟨c15, c16, c17, h⟩ := h
          exact wp_ret (((nv_filter (l := (ix parts (0 : Int))) (fun (room : Int) => (decide (room ∈ (ix parts (1 : Int))))) (fun _ => _) (iv_seq ((tv_ix ((tv_var (x := parts) rfl)).v (tv_int).v c15)).v) c16 (fun _ => rfl) (fun _ => rfl) (fun room hx6 => ((tv_in ((tv_var (x := room) rfl)).v ((tv_ix ((tv_var (x := parts) rfl)).v (tv_int).v (c17 room hx6))).v)).v))).v).z
        · have h := h.2 hb5
          show Wp _ _ [_, _, _, _, _, _] [] _
          refine wp_if QR ((tv_eq ((tv_var (x := word) rfl)).v (tv_str).v)).v (fun hb7 => ?_) (fun hb7 => ?_)
          · have h := h.1 hb7
            show Wp _ _ [_, _, _, _, _, _] [] _
            obtain ⟨c18, c19, c20, h⟩ := h
            exact wp_ret (((nv_filter (l := whole) (fun (room : Int) => ((decide (room ∈ (ix parts (0 : Int)))) || (decide (room ∈ (ix parts (1 : Int)))))) (fun _ => _) (iv_seq ((tv_var (x := whole) rfl)).v) c18 (fun _ => rfl) (fun _ => rfl) (fun room hx8 => ((tv_or ((tv_in ((tv_var (x := room) rfl)).v ((tv_ix ((tv_var (x := parts) rfl)).v (tv_int).v (c19 room hx8))).v)).v (fun hx9_ => ((tv_in ((tv_var (x := room) rfl)).v ((tv_ix ((tv_var (x := parts) rfl)).v (tv_int).v ((c20 room hx8) hx9_))).v)).v))).v))).v).z
          · have h := h.2 hb7
            show Wp _ _ [_, _, _, _, _, _] [] _
            obtain ⟨c21, c22, h⟩ := h
            exact wp_ret (((tv_call (as_cons (tv_var (x := world) rfl) (as_cons (tv_var (x := word) rfl) (as_cons (tv_ix ((tv_var (x := parts) rfl)).v (tv_int).v c21) as_nil))) (ok_stepping world word (ix parts (0 : Int)) c22))).v).z

theorem ok_judged {k : Nat} : ∀ (fuel : Nat) (world : W) (sentence : Sn) (h : s_judged fuel world sentence), Okp (run T (k + fuel + 3)) 30 [enc world, enc sentence] (m_judged fuel world sentence)
  | 0, _, _, h => h.elim
  | fuel + 1, world, sentence, h => by
    refine okp_of (d := d_judged) rfl rfl ?_
    show Wp _ _ [_, _, _, _] [] _
    obtain ⟨c1, c2, c3, c4, c5, c6, h⟩ := h
    refine wp_if QR ((tv_or ((tv_eq ((tv_rtx (tv_rix (tv_var (x := sentence) rfl) (tv_int).v c1 c2) c3)).v (tv_str).v)).v (fun hx1_ => ((tv_eq ((tv_rtx (tv_rix (tv_var (x := sentence) rfl) (tv_int).v (c4 hx1_) (c5 hx1_)) (c6 hx1_))).v (tv_str).v)).v))).v (fun hb2 => ?_) (fun hb2 => ?_)
    · have h := h.1 hb2
      show Wp _ _ [_, _, _, _] [] _
      obtain ⟨c7, h⟩ := h
      exact wp_ret (((tv_call (as_cons (tv_var (x := world) rfl) (as_cons (tv_var (x := sentence) rfl) (as_cons ((nv_list ([] : (List (List Int))) as_nil)).t as_nil))) (ok_plain_rooms world sentence ([] : (List (List Int))) c7))).v).z
    · have h := h.2 hb2
      show Wp _ _ [_, _, _, _] [] _
      obtain ⟨c8, c9, c10, c11, c12, h⟩ := h
      refine wl_set QR (x := ((List.map (fun (piece : Sn) => (m_judged fuel world piece)) (Sn.its (Sn.n (List.drop 1 (Sn.its sentence))))) : (List (List Int)))) ((nv_map (l := (Sn.its (Sn.n (List.drop 1 (Sn.its sentence))))) (fun (piece : Sn) => (m_judged fuel world piece)) (fun _ => _) (iv_rseq (tv_rtail (tv_var (x := sentence) rfl) c8 c9) c10) c11 (fun _ => rfl) (fun piece hx3 => (tv_call (as_cons (tv_var (x := world) rfl) (as_cons (tv_var (x := piece) rfl) as_nil)) (ok_judged fuel world piece (c12 piece hx3)))))).t fun parts hparts => ?_
      have h := ltE h hparts
      show Wp _ _ [_, _, _, _] [] _
      obtain ⟨c13, c14, c15, c16, c17, c18, h⟩ := h
      refine wp_if QR ((tv_or ((tv_intx (tv_str).v ((tv_rtx (tv_rix (tv_var (x := sentence) rfl) (tv_int).v c13 c14) c15)).v)).v (fun hx4_ => ((tv_intx (tv_str).v ((tv_rtx (tv_rix (tv_var (x := sentence) rfl) (tv_int).v (c16 hx4_) (c17 hx4_)) (c18 hx4_))).v)).v))).v (fun hb5 => ?_) (fun hb5 => ?_)
      · have h := h.1 hb5
        show Wp _ _ [_, _, _, _] [] _
        obtain ⟨c19, c20, c21, c22, c23, c24, c25, c26, c27, c28, h⟩ := h
        exact wp_ret (((tv_call (as_cons (tv_rtx (tv_rix (tv_var (x := sentence) rfl) (tv_int).v c19 c20) c21) (as_cons (tv_call (as_cons (tv_var (x := world) rfl) (as_cons (tv_rtx (tv_rix (tv_var (x := sentence) rfl) (tv_int).v c22 c23) c24) (as_cons (tv_ix ((tv_var (x := parts) rfl)).v (tv_int).v c25) (as_cons (tv_ix ((tv_var (x := parts) rfl)).v (tv_int).v c26) as_nil)))) (ok_time_ranks world (Sn.tx (ix (Sn.its sentence) (0 : Int))) (ix parts (0 : Int)) (ix parts (-1 : Int)) c27)) as_nil)) (ok_rooms_by_ranks (Sn.tx (ix (Sn.its sentence) (0 : Int))) (m_time_ranks world (Sn.tx (ix (Sn.its sentence) (0 : Int))) (ix parts (0 : Int)) (ix parts (-1 : Int))) c28))).v).z
      · have h := h.2 hb5
        show Wp _ _ [_, _, _, _] [] _
        obtain ⟨c29, h⟩ := h
        exact wp_ret (((tv_call (as_cons (tv_var (x := world) rfl) (as_cons (tv_var (x := sentence) rfl) (as_cons (tv_var (x := parts) rfl) as_nil))) (ok_plain_rooms world sentence parts c29))).v).z

theorem ok_holds {k : Nat} (world : W) (sentence : Sn) (h : s_holds world sentence) : Oke (run T (k + 36)) 31 [enc world, enc sentence] (m_holds world sentence) := by
  refine oke_of (d := d_holds) rfl rfl ?_
  show Wp _ _ [_, _] [] _
  obtain ⟨c1, h⟩ := h
  refine wp_ask QE (fun _ _ _ => QE_er) (as_cons (tv_var (x := world) rfl) as_nil) (ok_ask_world world c1) fun u2 hu2 => ?_
  have h := h u2 hu2
  show Wp _ _ [_, _] [] _
  obtain ⟨c2, h⟩ := h
  refine wp_ask QE (fun _ _ _ => QE_er) (as_cons (tv_var (x := sentence) rfl) as_nil) (ok_ask_sentence sentence c2) fun u1 hu1 => ?_
  have h := h u1 hu1
  show Wp _ _ [_, _] [] _
  obtain ⟨c3, h⟩ := h
  exact wp_rete (((tv_call (as_cons (tv_var (x := world) rfl) (as_cons (tv_var (x := sentence) rfl) as_nil)) (ok_judged 30 world sentence c3))).v).z

theorem ok_beyond {k : Nat} (world : W) (rooms : (List Int)) (h : s_beyond world rooms) : Okp (run T (k + 1)) 32 [enc world, enc rooms] (m_beyond world rooms) := by
  refine okp_of (d := d_beyond) rfl rfl ?_
  show Wp _ _ [_, _, _] [] _
  obtain ⟨c1, h⟩ := h
  exact wp_ret (((nv_filter (l := (rng (len world.a))) (fun (room : Int) => (!(decide (room ∈ rooms)))) (fun _ => _) (iv_range ((tv_len ((tv_3a ((tv_var (x := world) rfl)).v)).v)).v c1) (sz_rng c1) (fun _ => rfl) (fun _ => rfl) (fun room hx1 => ((tv_notin ((tv_var (x := room) rfl)).v ((tv_var (x := rooms) rfl)).v)).v))).v).z

theorem ok_keep {k : Nat} (world : W) (player : Int) (rooms : (List Int)) (h : s_keep world player rooms) : Oke (run T (k + 7)) 33 [enc world, enc player, enc rooms] (m_keep world player rooms) := by
  refine oke_of (d := d_keep) rfl rfl ?_
  show Wp _ _ [_, _, _, _, _, _, _, _, _, _] [] _
  obtain ⟨c1, h⟩ := h
  refine wp_ask QE (fun _ _ _ => QE_er) (as_cons (tv_var (x := world) rfl) (as_cons (tv_var (x := player) rfl) (as_cons (tv_var (x := rooms) rfl) as_nil))) (ok_ask_game world player rooms c1) fun u6 hu6 => ?_
  have h := h u6 hu6
  show Wp _ _ [_, _, _, _, _, _, _, _, _, _] [] _
  obtain ⟨c2, c3, c4, h⟩ := h
  refine wl_un2 QE (x := (okv (m_bring world ((1 : Int) - player) (m_beyond world rooms)))) (tv_call (as_cons (tv_var (x := world) rfl) (as_cons (tv_sub (tv_int).v ((tv_var (x := player) rfl)).v) (as_cons (tv_call (as_cons (tv_var (x := world) rfl) (as_cons (tv_var (x := rooms) rfl) as_nil)) (ok_beyond world rooms c2)) as_nil))) (oke_ok (ok_bring world ((1 : Int) - player) (m_beyond world rooms) c3) c4)) fun u1 hu1 => ?_
  have h := ltE h hu1
  show Wp _ _ [_, _, _, _, _, _, _, _, _, _] [] _
  obtain ⟨c5, c6, h⟩ := h
  refine wl_set QE (x := ((List.filter (fun (room : Int) => (Option.isNone (ix u1.a room))) (rng (len u1.a))) : (List Int))) ((nv_filter (l := (rng (len u1.a))) (fun (room : Int) => (Option.isNone (ix u1.a room))) (fun _ => _) (iv_range ((tv_len ((tv_var (x := u1.a) rfl)).v)).v c5) (sz_rng c5) (fun _ => rfl) (fun _ => rfl) (fun room hx2 => ((tv_isnone ((tv_ix ((tv_var (x := u1.a) rfl)).v ((tv_var (x := room) rfl)).v (c6 room hx2))).v)).v))).t fun kept hkept => ?_
  have h := ltE h hkept
  show Wp _ _ [_, _, _, _, _, _, _, _, _, _] [] _
  refine wl_cell QE (l := ([] : (List (Option Int)))) (nv_list ([] : (List (Option Int))) as_nil) fun plan hplan => ?_
  have h := ltE h hplan
  show Wp _ _ [_, _, _, _, _, _, _, _, _, _] [_] _
  obtain ⟨c7, c13, h⟩ := h
  refine wl_for QE (σ := (List (Option Int))) (s := plan) (fun (s1 : (List (Option Int))) env st => env = [some (enc (world : W)), some (enc (player : Int)), some (enc (rooms : (List Int))), some (enc (u1.a : (List (Option Int)))), some (enc (u1.b : (List (Option Int)))), some (enc (kept : (List Int))), some (.ref 0), Option.none, Option.none, Option.none] ∧ st = [.lst (List.map enc (s1 : (List (Option Int))))]) (u_keep_1 world player kept) (t_keep_1 world player kept) (fun x env => _) (iw_range ((tv_len ((tv_3a ((tv_var (x := world) rfl)).v)).v)).v c7) ⟨rfl, rfl⟩ c13 (fun _ _ => rfl) ?_ ?_
  · intro room hx1 s1 env' st' ⟨hE, hS⟩ h
    subst hE hS
    show Wp _ _ [_, _, _, _, _, _, _, _, _, _] [_] _
    refine wl_set (QT _ _ _ _) (x := ((none : (Option Int)) : (Option Int))) tv_none fun step hstep => ?_
    have h := ltE h hstep
    show Wp _ _ [_, _, _, _, _, _, _, _, _, _] [_] _
    obtain ⟨c8, h⟩ := h
    refine wl_join (QT _ _ _ _) (σ := (Option Int)) (u :=
        lt ((some (ix (List.filter (fun (there : Int) => (decide (there ∈ kept))) (ix world.c room)) (0 : Int))) : (Option Int)) fun step =>
        step)
      (v :=
        step) (fun (s : (Option Int)) env st => env = [some (enc (world : W)), some (enc (player : Int)), some (enc (rooms : (List Int))), some (enc (u1.a : (List (Option Int)))), some (enc (u1.b : (List (Option Int)))), some (enc (kept : (List Int))), some (.ref 0), some (enc (room : Int)), some (enc (s : (Option Int))), Option.none] ∧ st = [.lst (List.map enc (s1 : (List (Option Int))))]) ((tv_and ((tv_in ((tv_var (x := room) rfl)).v ((tv_var (x := kept) rfl)).v)).v (fun hx3_ => ((tv_eq ((tv_ix ((tv_3a ((tv_var (x := world) rfl)).v)).v ((tv_var (x := room) rfl)).v (c8 hx3_))).v ((tv_var (x := player) rfl)).v)).v))).v (fun hb4 => ?_) (fun hb4 => ?_) ?_
    · have h := h.1 hb4
      show Wp _ _ [_, _, _, _, _, _, _, _, _, _] [_] _
      obtain ⟨c9, c10, c11, h⟩ := h
      refine wl_set (QB _) (x := ((some (ix (List.filter (fun (there : Int) => (decide (there ∈ kept))) (ix world.c room)) (0 : Int))) : (Option Int))) ((tv_ix ((nv_filter (l := (ix world.c room)) (fun (there : Int) => (decide (there ∈ kept))) (fun _ => _) (iv_seq ((tv_ix ((tv_3c ((tv_var (x := world) rfl)).v)).v ((tv_var (x := room) rfl)).v c9)).v) c10 (fun _ => rfl) (fun _ => rfl) (fun there hx5 => ((tv_in ((tv_var (x := there) rfl)).v ((tv_var (x := kept) rfl)).v)).v))).v (tv_int).v c11).some) fun step hstep => ?_
      exact qb_end ⟨rfl, rfl⟩
    · have h := True.intro
      exact qb_end ⟨rfl, rfl⟩
    · have h := h.2
      intro j1 hj1 env' st' ⟨hE, hS⟩
      subst hE hS
      have h := ltE h hj1
      show Wp _ _ [_, _, _, _, _, _, _, _, _, _] [_] _
      obtain ⟨c12, h⟩ := h
      refine wl_append (QT _ _ _ _) (n := 0) (l := s1) (x := (j1 : (Option Int))) rfl rfl (tv_var (x := j1) rfl) c12 fun plan hplan => ?_
      exact qt_end ⟨rfl, rfl⟩
  · intro f2 hf2 env' st' ⟨hE, hS⟩
    subst hE hS
    show Wp _ _ [_, _, _, _, _, _, _, _, _, _] [_] _
    exact wp_rete (zv_tup (x := (⟨kept, f2, u1.a, u1.b⟩ : (T4 (List Int) (List (Option Int)) (List (Option Int)) (List (Option Int))))) (zs_cons (((tv_var (x := kept) rfl)).v).z (zs_cons ((vv_cell (n := 0) (x := f2) rfl rfl)).z (zs_cons (((tv_var (x := u1.a) rfl)).v).z (zs_cons (((tv_var (x := u1.b) rfl)).v).z zs_nil)))) rfl)

theorem ok_law_cell_at {k : Nat} (script : Sc) (k_ : Int) (h : s_law_cell_at script k_) : Okp (run T (k + 1)) 34 [enc script, enc k_] (m_law_cell_at script k_) := by
  refine okp_of (d := d__law_cell_at) rfl rfl ?_
  show Wp _ _ [_, _] [] _
  refine wp_if QR ((tv_lt ((tv_var (x := k_) rfl)).v ((tv_lens ((tv_var (x := script) rfl)).v)).v)).v (fun hb1 => ?_) (fun hb1 => ?_)
  · have h := h hb1
    show Wp _ _ [_, _] [] _
    obtain ⟨c1, h⟩ := h
    exact wp_ret (((tv_ixs ((tv_var (x := script) rfl)).v ((tv_var (x := k_) rfl)).v c1)).v).z
  · have h := True.intro
    exact wp_ret ((tv_int).v).z

theorem ok_law_draw {k : Nat} (cell : Int) (k_ : Int) (bound : Int) (h : s_law_draw cell k_ bound) : Okp (run T (k + 1)) 35 [enc cell, enc k_, enc bound] (m_law_draw cell k_ bound) := by
  refine okp_of (d := d__law_draw) rfl rfl ?_
  show Wp _ _ [_, _, _, _, _, _] [] _
  refine wp_if QR ((tv_ge ((tv_var (x := cell) rfl)).v ((tv_powl (tv_int).v (tv_int).v (by decide) (by decide +kernel))).v)).v (fun hb1 => ?_) (fun hb1 => ?_)
  · have h := h.1 hb1
    show Wp _ _ [_, _, _, _, _, _] [] _
    refine wl_set QR (x := (cell : Int)) (tv_var (x := cell) rfl) fun left_ hleft_ => ?_
    have h := ltE h hleft_
    show Wp _ _ [_, _, _, _, _, _] [] _
    obtain ⟨c1, c4, h⟩ := h
    refine wl_for QR (σ := Int) (s := left_) (fun (s1 : Int) env st => env = [some (enc (cell : Int)), some (enc (k_ : Int)), some (enc (bound : Int)), Option.none, some (enc (s1 : Int)), Option.none] ∧ st = []) (u_law_draw_1 bound) (t_law_draw_1 bound) (fun x env => _) (iw_range ((tv_var (x := k_) rfl)).v c1) ⟨rfl, rfl⟩ c4 (fun _ _ => rfl) ?_ ?_
    · intro j hx1 s1 env' st' ⟨hE, hS⟩ h
      subst hE hS
      show Wp _ _ [_, _, _, _, _, _] [] _
      obtain ⟨c2, h⟩ := h
      refine wl_set (QT _ _ _ _) (x := ((Int.fdiv s1 bound) : Int)) (tv_fdiv ((tv_var (x := s1) rfl)).v ((tv_var (x := bound) rfl)).v c2) fun left_ hleft_ => ?_
      exact qt_end ⟨rfl, rfl⟩
    · intro f1 hf1 env' st' ⟨hE, hS⟩
      subst hE hS
      have h := ltE h hf1
      show Wp _ _ [_, _, _, _, _, _] [] _
      obtain ⟨c3, h⟩ := h
      exact wp_ret (((tv_mod ((tv_var (x := f1) rfl)).v ((tv_var (x := bound) rfl)).v c3)).v).z
  · have h := h.2 hb1
    show Wp _ _ [_, _, _, _, _, _] [] _
    refine wl_set QR (x := ((Int.fmod ((((Int.fmod cell (1000000007 : Int)) + ((1009 : Int) * k_)) + (17 : Int)) * (69621 : Int)) (2147483647 : Int)) : Int)) (tv_mod ((tv_mul ((tv_add ((tv_add ((tv_mod ((tv_var (x := cell) rfl)).v (tv_int).v (by decide))).v ((tv_mul (tv_int).v ((tv_var (x := k_) rfl)).v (.inl (by decide)))).v)).v (tv_int).v)).v (tv_int).v (.inr (by decide)))).v (tv_int).v (by decide)) fun stir hstir => ?_
    have h := ltE h hstir
    show Wp _ _ [_, _, _, _, _, _] [] _
    obtain ⟨c5, h⟩ := h
    refine wl_set QR (x := ((Int.fmod (((stir * stir) + ((40503 : Int) * k_)) + (5 : Int)) (2147483629 : Int)) : Int)) (tv_mod ((tv_add ((tv_add ((tv_mul ((tv_var (x := stir) rfl)).v ((tv_var (x := stir) rfl)).v c5)).v ((tv_mul (tv_int).v ((tv_var (x := k_) rfl)).v (.inl (by decide)))).v)).v (tv_int).v)).v (tv_int).v (by decide)) fun stir hstir => ?_
    have h := ltE h hstir
    show Wp _ _ [_, _, _, _, _, _] [] _
    obtain ⟨c6, h⟩ := h
    exact wp_ret (((tv_mod ((tv_fdiv ((tv_mod ((tv_mul ((tv_var (x := stir) rfl)).v (tv_int).v (.inr (by decide)))).v (tv_int).v (by decide))).v (tv_int).v (by unfold DivOk CDivN; decide))).v ((tv_var (x := bound) rfl)).v c6)).v).z

theorem ok_law_world_v2 {k : Nat} (script : Sc) (at_ : Int) (most : Int) (h : s_law_world_v2 script at_ most) : Okp (run T (k + 2)) 36 [enc script, enc at_, enc most] (m_law_world_v2 script at_ most) := by
  refine okp_of (d := d__law_world) rfl rfl ?_
  show Wp _ _ [_, _, _, _, _, _, _, _, _, _, _, _] [] _
  obtain ⟨c1, c2, h⟩ := h
  refine wl_set QR (x := (((1 : Int) + (Int.fmod (m_law_cell_at script at_) most)) : Int)) (tv_add (tv_int).v ((tv_mod ((tv_call (as_cons (tv_var (x := script) rfl) (as_cons (tv_var (x := at_) rfl) as_nil)) (ok_law_cell_at script at_ c1))).v ((tv_var (x := most) rfl)).v c2)).v) fun many hmany => ?_
  have h := ltE h hmany
  show Wp _ _ [_, _, _, _, _, _, _, _, _, _, _, _] [] _
  refine wl_cell QR (l := ([] : (List Int))) (nv_list ([] : (List Int)) as_nil) fun owners howners => ?_
  have h := ltE h howners
  show Wp _ _ [_, _, _, _, _, _, _, _, _, _, _, _] [_] _
  refine wl_cell QR (l := ([] : (List (List Tx)))) (nv_list ([] : (List (List Tx))) as_nil) fun marks hmarks => ?_
  have h := ltE h hmarks
  show Wp _ _ [_, _, _, _, _, _, _, _, _, _, _, _] [_, _] _
  refine wl_cell QR (l := ([] : (List (List Int)))) (nv_list ([] : (List (List Int))) as_nil) fun steps hsteps => ?_
  have h := ltE h hsteps
  show Wp _ _ [_, _, _, _, _, _, _, _, _, _, _, _] [_, _, _] _
  obtain ⟨c3, c15, h⟩ := h
  refine wl_for QR (σ := (List Int) × (List (List Tx)) × (List (List Int))) (s := (owners, marks, steps)) (fun (s1 : (List Int) × (List (List Tx)) × (List (List Int))) env st => env = [some (enc (script : Sc)), some (enc (at_ : Int)), some (enc (most : Int)), some (enc (many : Int)), some (.ref 0), some (.ref 1), some (.ref 2), Option.none, Option.none, Option.none, Option.none, Option.none] ∧ st = [.lst (List.map enc (s1.1 : (List Int))), .lst (List.map enc (s1.2.1 : (List (List Tx)))), .lst (List.map enc (s1.2.2 : (List (List Int))))]) (u_law_world_v2_1 script at_ many) (t_law_world_v2_1 script at_ many) (fun x env => _) (iw_range ((tv_var (x := many) rfl)).v c3) ⟨rfl, rfl⟩ c15 (fun _ _ => rfl) ?_ ?_
  · intro room hx1 s1 env' st' ⟨hE, hS⟩ h
    subst hE hS
    show Wp _ _ [_, _, _, _, _, _, _, _, _, _, _, _] [_, _, _] _
    obtain ⟨c4, h⟩ := h
    refine wl_set (QT _ _ _ _) (x := ((m_law_cell_at script ((at_ + (1 : Int)) + room)) : Int)) (tv_call (as_cons (tv_var (x := script) rfl) (as_cons (tv_add ((tv_add ((tv_var (x := at_) rfl)).v (tv_int).v)).v ((tv_var (x := room) rfl)).v) as_nil)) (ok_law_cell_at script ((at_ + (1 : Int)) + room) c4)) fun cell hcell => ?_
    have h := ltE h hcell
    show Wp _ _ [_, _, _, _, _, _, _, _, _, _, _, _] [_, _, _] _
    obtain ⟨c5, c6, h⟩ := h
    refine wl_append (QT _ _ _ _) (n := 0) (l := s1.1) (x := ((m_law_draw cell (0 : Int) (2 : Int)) : Int)) rfl rfl (tv_call (as_cons (tv_var (x := cell) rfl) (as_cons tv_int (as_cons tv_int as_nil))) (ok_law_draw cell (0 : Int) (2 : Int) c5)) c6 fun owners howners => ?_
    have h := ltE h howners
    show Wp _ _ [_, _, _, _, _, _, _, _, _, _, _, _] [_, _, _] _
    obtain ⟨c7, c8, c9, c10, h⟩ := h
    refine wl_append (QT _ _ _ _) (n := 1) (l := s1.2.1) (x := ((List.filter (fun (mark : Tx) => (decide ((m_law_draw cell ((1 : Int) + (Tx.idx (tx "abc") mark)) (2 : Int)) = (1 : Int)))) (chars (tx "abc"))) : (List Tx))) rfl rfl ((nv_filter (l := (chars (tx "abc"))) (fun (mark : Tx) => (decide ((m_law_draw cell ((1 : Int) + (Tx.idx (tx "abc") mark)) (2 : Int)) = (1 : Int)))) (fun _ => _) (iv_chars (tv_str).v) c7 (fun _ => rfl) (fun _ => rfl) (fun mark hx1 => ((tv_eq ((tv_call (as_cons (tv_var (x := cell) rfl) (as_cons (tv_add (tv_int).v ((tv_indext (tv_str).v ((tv_var (x := mark) rfl)).v (c8 mark hx1))).v) (as_cons tv_int as_nil))) (ok_law_draw cell ((1 : Int) + (Tx.idx (tx "abc") mark)) (2 : Int) (c9 mark hx1)))).v (tv_int).v)).v))).t c10 fun marks hmarks => ?_
    have h := ltE h hmarks
    show Wp _ _ [_, _, _, _, _, _, _, _, _, _, _, _] [_, _, _] _
    obtain ⟨c11, c12, h⟩ := h
    refine wl_set (QT _ _ _ _) (x := ((List.filter (fun (there : Int) => (decide ((m_law_draw cell ((4 : Int) + there) ((2 : Int) + (boolI (decide ((3 : Int) < many))))) = (1 : Int)))) (rng many)) : (List Int))) ((nv_filter (l := (rng many)) (fun (there : Int) => (decide ((m_law_draw cell ((4 : Int) + there) ((2 : Int) + (boolI (decide ((3 : Int) < many))))) = (1 : Int)))) (fun _ => _) (iv_range ((tv_var (x := many) rfl)).v c11) (sz_rng c11) (fun _ => rfl) (fun _ => rfl) (fun there hx2 => ((tv_eq ((tv_call (as_cons (tv_var (x := cell) rfl) (as_cons (tv_add (tv_int).v ((tv_var (x := there) rfl)).v) (as_cons (tv_add (tv_int).v ((tv_intb ((tv_gt ((tv_var (x := many) rfl)).v (tv_int).v)).v)).v) as_nil))) (ok_law_draw cell ((4 : Int) + there) ((2 : Int) + (boolI (decide ((3 : Int) < many)))) (c12 there hx2)))).v (tv_int).v)).v))).t fun row hrow => ?_
    have h := ltE h hrow
    show Wp _ _ [_, _, _, _, _, _, _, _, _, _, _, _] [_, _, _] _
    refine wl_join (QT _ _ _ _) (σ := (List Int)) (u :=
        lt (([(m_law_draw cell ((4 : Int) + many) many)] : (List Int)) : (List Int)) fun row =>
        row)
      (v :=
        row) (fun (s : (List Int)) env st => env = [some (enc (script : Sc)), some (enc (at_ : Int)), some (enc (most : Int)), some (enc (many : Int)), some (.ref 0), some (.ref 1), some (.ref 2), some (enc (room : Int)), some (enc (cell : Int)), some (enc (s : (List Int))), Option.none, Option.none] ∧ st = [.lst (List.map enc (owners : (List Int))), .lst (List.map enc (marks : (List (List Tx)))), .lst (List.map enc (s1.2.2 : (List (List Int))))]) ((tv_eq ((tv_var (x := row) rfl)).v ((nv_list ([] : (List Int)) as_nil)).v)).v (fun hb3 => ?_) (fun hb3 => ?_) ?_
    · have h := h.1 hb3
      show Wp _ _ [_, _, _, _, _, _, _, _, _, _, _, _] [_, _, _] _
      obtain ⟨c13, h⟩ := h
      refine wl_set (QB _) (x := (([(m_law_draw cell ((4 : Int) + many) many)] : (List Int)) : (List Int))) ((nv_list ([(m_law_draw cell ((4 : Int) + many) many)] : (List Int)) (as_cons (tv_call (as_cons (tv_var (x := cell) rfl) (as_cons (tv_add (tv_int).v ((tv_var (x := many) rfl)).v) (as_cons (tv_var (x := many) rfl) as_nil))) (ok_law_draw cell ((4 : Int) + many) many c13)) as_nil))).t fun row hrow => ?_
      exact qb_end ⟨rfl, rfl⟩
    · have h := True.intro
      exact qb_end ⟨rfl, rfl⟩
    · have h := h.2
      intro j1 hj1 env' st' ⟨hE, hS⟩
      subst hE hS
      have h := ltE h hj1
      show Wp _ _ [_, _, _, _, _, _, _, _, _, _, _, _] [_, _, _] _
      obtain ⟨c14, h⟩ := h
      refine wl_append (QT _ _ _ _) (n := 2) (l := s1.2.2) (x := (j1 : (List Int))) rfl rfl (tv_var (x := j1) rfl) c14 fun steps hsteps => ?_
      exact qt_end ⟨rfl, rfl⟩
  · intro f2 hf2 env' st' ⟨hE, hS⟩
    subst hE hS
    show Wp _ _ [_, _, _, _, _, _, _, _, _, _, _, _] [_, _, _] _
    exact wp_ret (zv_tup (x := (⟨f2.1, f2.2.1, f2.2.2⟩ : W)) (zs_cons ((vv_cell (n := 0) (x := f2.1) rfl rfl)).z (zs_cons ((vv_cell (n := 1) (x := f2.2.1) rfl rfl)).z (zs_cons ((vv_cell (n := 2) (x := f2.2.2) rfl rfl)).z zs_nil))) rfl)

theorem ok_law_k86 {k : Nat} (script : Sc) (h : s_law_k86 script) : Okp (run T (k + 37)) 37 [enc script] (m_law_k86 script) := by
  refine okp_of (d := d_law) rfl rfl ?_
  show Wp _ _ [_, _, _, _, _, _, _, _, _, _, _, _, _] [] _
  obtain ⟨c1, h⟩ := h
  refine wl_set QR (x := ((m_law_world_v2 script (0 : Int) (6 : Int)) : W)) (tv_call (as_cons (tv_var (x := script) rfl) (as_cons tv_int (as_cons tv_int as_nil))) (ok_law_world_v2 script (0 : Int) (6 : Int) c1)) fun world hworld => ?_
  have h := ltE h hworld
  show Wp _ _ [_, _, _, _, _, _, _, _, _, _, _, _, _] [] _
  obtain ⟨c2, c3, h⟩ := h
  refine wl_set QR (x := ((m_law_draw (m_law_cell_at script (7 : Int)) (0 : Int) (2 : Int)) : Int)) (tv_call (as_cons (tv_call (as_cons (tv_var (x := script) rfl) (as_cons tv_int as_nil)) (ok_law_cell_at script (7 : Int) c2)) (as_cons tv_int (as_cons tv_int as_nil))) (ok_law_draw (m_law_cell_at script (7 : Int)) (0 : Int) (2 : Int) c3)) fun player hplayer => ?_
  have h := ltE h hplayer
  show Wp _ _ [_, _, _, _, _, _, _, _, _, _, _, _, _] [] _
  obtain ⟨c4, c5, c6, c7, h⟩ := h
  refine wl_set QR (x := ((Tx.ix (tx "abc") (m_law_draw (m_law_cell_at script (7 : Int)) (1 : Int) (3 : Int))) : Tx)) (tv_ixt (tv_str).v ((tv_call (as_cons (tv_call (as_cons (tv_var (x := script) rfl) (as_cons tv_int as_nil)) (ok_law_cell_at script (7 : Int) c4)) (as_cons tv_int (as_cons tv_int as_nil))) (ok_law_draw (m_law_cell_at script (7 : Int)) (1 : Int) (3 : Int) c5))).v c6 c7) fun mark hmark => ?_
  have h := ltE h hmark
  show Wp _ _ [_, _, _, _, _, _, _, _, _, _, _, _, _] [] _
  obtain ⟨c8, c9, h⟩ := h
  refine wl_set QR (x := ((okv (m_marked world mark)) : (List Int))) (tv_call (as_cons (tv_var (x := world) rfl) (as_cons (tv_var (x := mark) rfl) as_nil)) (oke_ok (ok_marked world mark c8) c9)) fun rooms hrooms => ?_
  have h := ltE h hrooms
  show Wp _ _ [_, _, _, _, _, _, _, _, _, _, _, _, _] [] _
  obtain ⟨c10, c11, h⟩ := h
  refine wl_un2 QR (x := (okv (m_bring world player rooms))) (tv_call (as_cons (tv_var (x := world) rfl) (as_cons (tv_var (x := player) rfl) (as_cons (tv_var (x := rooms) rfl) as_nil))) (oke_ok (ok_bring world player rooms c10) c11)) fun u1 hu1 => ?_
  have h := ltE h hu1
  show Wp _ _ [_, _, _, _, _, _, _, _, _, _, _, _, _] [] _
  obtain ⟨c12, c13, h⟩ := h
  refine wl_set QR (x := ((List.filter (fun (room : Int) => (Option.isSome (ix u1.a room))) (rng (len u1.a))) : (List Int))) ((nv_filter (l := (rng (len u1.a))) (fun (room : Int) => (Option.isSome (ix u1.a room))) (fun _ => _) (iv_range ((tv_len ((tv_var (x := u1.a) rfl)).v)).v c12) (sz_rng c12) (fun _ => rfl) (fun _ => rfl) (fun room hx2 => ((tv_isntnone ((tv_ix ((tv_var (x := u1.a) rfl)).v ((tv_var (x := room) rfl)).v (c13 room hx2))).v)).v))).t fun come hcome => ?_
  have h := ltE h hcome
  show Wp _ _ [_, _, _, _, _, _, _, _, _, _, _, _, _] [] _
  obtain ⟨c14, c15, c16, c17, h⟩ := h
  refine wp_if QR ((tv_ne ((tv_call (as_cons (tv_call (as_cons (tv_var (x := world) rfl) (as_cons (tv_var (x := player) rfl) (as_cons (tv_var (x := u1.b) rfl) as_nil))) (oke_ok (ok_follow world player u1.b c14) c15)) (as_cons (tv_tup (x := (Sn.n [(Sn.x (tx "all until")), (Sn.n [(Sn.x (tx "yes"))]), (Sn.n [(Sn.x (tx "mark")), (Sn.x mark)])])) (as_cons (tv_xr tv_str) (as_cons (tv_tup (x := (Sn.n [(Sn.x (tx "yes"))])) (as_cons (tv_xr tv_str) as_nil) (sn_n [(Sn.x (tx "yes"))])) (as_cons (tv_tup (x := (Sn.n [(Sn.x (tx "mark")), (Sn.x mark)])) (as_cons (tv_xr tv_str) (as_cons (tv_xr (tv_var (x := mark) rfl)) as_nil)) (sn_n [(Sn.x (tx "mark")), (Sn.x mark)])) as_nil))) (sn_n [(Sn.x (tx "all until")), (Sn.n [(Sn.x (tx "yes"))]), (Sn.n [(Sn.x (tx "mark")), (Sn.x mark)])])) as_nil)) (oke_ok (ok_holds (okv (m_follow world player u1.b)) (Sn.n [(Sn.x (tx "all until")), (Sn.n [(Sn.x (tx "yes"))]), (Sn.n [(Sn.x (tx "mark")), (Sn.x mark)])]) c16) c17))).v ((tv_var (x := come) rfl)).v)).v (fun hb3 => ?_) (fun hb3 => ?_)
  · have h := True.intro
    exact wp_ret ((tv_bool).v).z
  · have h := h hb3
    show Wp _ _ [_, _, _, _, _, _, _, _, _, _, _, _, _] [] _
    obtain ⟨c18, c19, h⟩ := h
    refine wl_un4 QR (x := (okv (m_keep world player rooms))) (tv_call (as_cons (tv_var (x := world) rfl) (as_cons (tv_var (x := player) rfl) (as_cons (tv_var (x := rooms) rfl) as_nil))) (oke_ok (ok_keep world player rooms c18) c19)) fun u4 hu4 => ?_
    have h := ltE h hu4
    show Wp _ _ [_, _, _, _, _, _, _, _, _, _, _, _, _] [] _
    obtain ⟨c20, c21, c22, c23, h⟩ := h
    refine wl_set QR (x := ((okv (m_holds (okv (m_follow world player u4.b)) (Sn.n [(Sn.x (tx "all always")), (Sn.n [(Sn.x (tx "mark")), (Sn.x mark)])]))) : (List Int))) (tv_call (as_cons (tv_call (as_cons (tv_var (x := world) rfl) (as_cons (tv_var (x := player) rfl) (as_cons (tv_var (x := u4.b) rfl) as_nil))) (oke_ok (ok_follow world player u4.b c20) c21)) (as_cons (tv_tup (x := (Sn.n [(Sn.x (tx "all always")), (Sn.n [(Sn.x (tx "mark")), (Sn.x mark)])])) (as_cons (tv_xr tv_str) (as_cons (tv_tup (x := (Sn.n [(Sn.x (tx "mark")), (Sn.x mark)])) (as_cons (tv_xr tv_str) (as_cons (tv_xr (tv_var (x := mark) rfl)) as_nil)) (sn_n [(Sn.x (tx "mark")), (Sn.x mark)])) as_nil)) (sn_n [(Sn.x (tx "all always")), (Sn.n [(Sn.x (tx "mark")), (Sn.x mark)])])) as_nil)) (oke_ok (ok_holds (okv (m_follow world player u4.b)) (Sn.n [(Sn.x (tx "all always")), (Sn.n [(Sn.x (tx "mark")), (Sn.x mark)])]) c22) c23)) fun stays hstays => ?_
    have h := ltE h hstays
    show Wp _ _ [_, _, _, _, _, _, _, _, _, _, _, _, _] [] _
    obtain ⟨c24, c25, c26, c27, h⟩ := h
    refine wl_set QR (x := ((okv (m_holds (okv (m_follow world ((1 : Int) - player) u4.d)) (Sn.n [(Sn.x (tx "all until")), (Sn.n [(Sn.x (tx "yes"))]), (Sn.n [(Sn.x (tx "not")), (Sn.n [(Sn.x (tx "mark")), (Sn.x mark)])])]))) : (List Int))) (tv_call (as_cons (tv_call (as_cons (tv_var (x := world) rfl) (as_cons (tv_sub (tv_int).v ((tv_var (x := player) rfl)).v) (as_cons (tv_var (x := u4.d) rfl) as_nil))) (oke_ok (ok_follow world ((1 : Int) - player) u4.d c24) c25)) (as_cons (tv_tup (x := (Sn.n [(Sn.x (tx "all until")), (Sn.n [(Sn.x (tx "yes"))]), (Sn.n [(Sn.x (tx "not")), (Sn.n [(Sn.x (tx "mark")), (Sn.x mark)])])])) (as_cons (tv_xr tv_str) (as_cons (tv_tup (x := (Sn.n [(Sn.x (tx "yes"))])) (as_cons (tv_xr tv_str) as_nil) (sn_n [(Sn.x (tx "yes"))])) (as_cons (tv_tup (x := (Sn.n [(Sn.x (tx "not")), (Sn.n [(Sn.x (tx "mark")), (Sn.x mark)])])) (as_cons (tv_xr tv_str) (as_cons (tv_tup (x := (Sn.n [(Sn.x (tx "mark")), (Sn.x mark)])) (as_cons (tv_xr tv_str) (as_cons (tv_xr (tv_var (x := mark) rfl)) as_nil)) (sn_n [(Sn.x (tx "mark")), (Sn.x mark)])) as_nil)) (sn_n [(Sn.x (tx "not")), (Sn.n [(Sn.x (tx "mark")), (Sn.x mark)])])) as_nil))) (sn_n [(Sn.x (tx "all until")), (Sn.n [(Sn.x (tx "yes"))]), (Sn.n [(Sn.x (tx "not")), (Sn.n [(Sn.x (tx "mark")), (Sn.x mark)])])])) as_nil)) (oke_ok (ok_holds (okv (m_follow world ((1 : Int) - player) u4.d)) (Sn.n [(Sn.x (tx "all until")), (Sn.n [(Sn.x (tx "yes"))]), (Sn.n [(Sn.x (tx "not")), (Sn.n [(Sn.x (tx "mark")), (Sn.x mark)])])]) c26) c27)) fun out hout => ?_
    have h := ltE h hout
    show Wp _ _ [_, _, _, _, _, _, _, _, _, _, _, _, _] [] _
    obtain ⟨c28, h⟩ := h
    exact wp_ret (((tv_and ((tv_eq ((tv_var (x := stays) rfl)).v ((tv_var (x := u4.a) rfl)).v)).v (fun hx6_ => ((tv_eq ((tv_var (x := out) rfl)).v ((nv_filter (l := (rng (len u4.c))) (fun (room : Int) => (!(decide (room ∈ u4.a)))) (fun _ => _) (iv_range ((tv_len ((tv_var (x := u4.c) rfl)).v)).v (c28 hx6_)) (sz_rng (c28 hx6_)) (fun _ => rfl) (fun _ => rfl) (fun room hx5 => ((tv_notin ((tv_var (x := room) rfl)).v ((tv_var (x := u4.a) rfl)).v)).v))).v)).v))).v).z

theorem law_true : ∀ ns : List Int, ns.length ≤ 63 → ∃ st, run T 40 37 [.scr ns] [] = .ok (.bool true) st := fun ns _ =>
  law_of (sc := ⟨ns⟩) (ok_law_k86 (k := 3) ⟨ns⟩ (law_k86_ok ⟨ns⟩).1) (law_k86_ok ⟨ns⟩).2
def top (i : Nat) : Stmt := PySem.Challenge.pw_foreseehall_k86_whole_worlds_of_plans_ju.main.body.getD i (.Pass ⟨0, 0, 0, 0⟩)
def mkD (x : PySem.Str) (i : Nat) : He.DefD := ⟨(x, none), x, x, defArgs (top i), defBody (top i), defScope (top i), [], []⟩
def exc : List PySem.Str := ["NoMark", "NoPlan", "NoPlayer", "NoRoom", "NoSentence", "NoWorld"]
def clsK (K : PySem.W.Frag) : PySem.Str → Option Addr := fun c => if c = "NoMark" then some (He.ga K "NoMark") else if c = "NoPlan" then some (He.ga K "NoPlan") else if c = "NoPlayer" then some (He.ga K "NoPlayer") else if c = "NoRoom" then some (He.ga K "NoRoom") else if c = "NoSentence" then some (He.ga K "NoSentence") else if c = "NoWorld" then some (He.ga K "NoWorld") else Option.none
theorem p_rises : DefP T G exc d_rises (mkD "rises" 11) := ⟨rfl, rfl, rfl, C8.fnScope_by (by decide +kernel), chkB_cls (by decide +kernel), fun _ _ _ _ _ _ us hl => match us, hl with | [_], _ => rfl⟩
theorem p_are_marks : DefP T G exc d_are_marks (mkD "are_marks" 12) := ⟨rfl, rfl, rfl, C8.fnScope_by (by decide +kernel), chkB_cls (by decide +kernel), fun _ _ _ _ _ _ us hl => match us, hl with | [_], _ => rfl⟩
theorem p_are_rooms : DefP T G exc d_are_rooms (mkD "are_rooms" 13) := ⟨rfl, rfl, rfl, C8.fnScope_by (by decide +kernel), chkB_cls (by decide +kernel), fun _ _ _ _ _ _ us hl => match us, hl with | [_, _], _ => rfl⟩
theorem p_is_world : DefP T G exc d_is_world (mkD "is_world" 14) := ⟨rfl, rfl, rfl, C8.fnScope_by (by decide +kernel), chkB_cls (by decide +kernel), fun _ _ _ _ _ _ us hl => match us, hl with | [_, _, _], _ => rfl⟩
theorem p_ask_world : DefP T G exc d_ask_world (mkD "ask_world" 15) := ⟨rfl, rfl, rfl, C8.fnScope_by (by decide +kernel), chkB_cls (by decide +kernel), fun _ _ _ _ _ _ us hl => match us, hl with | [_], _ => rfl⟩
theorem p_ask_rooms : DefP T G exc d_ask_rooms (mkD "ask_rooms" 16) := ⟨rfl, rfl, rfl, C8.fnScope_by (by decide +kernel), chkB_cls (by decide +kernel), fun _ _ _ _ _ _ us hl => match us, hl with | [_, _], _ => rfl⟩
theorem p_ask_player : DefP T G exc d_ask_player (mkD "ask_player" 17) := ⟨rfl, rfl, rfl, C8.fnScope_by (by decide +kernel), chkB_cls (by decide +kernel), fun _ _ _ _ _ _ us hl => match us, hl with | [_], _ => rfl⟩
theorem p_ask_marks : DefP T G exc d_ask_marks (mkD "ask_marks" 18) := ⟨rfl, rfl, rfl, C8.fnScope_by (by decide +kernel), chkB_cls (by decide +kernel), fun _ _ _ _ _ _ us hl => match us, hl with | [_], _ => rfl⟩
theorem p_marked : DefP T G exc d_marked (mkD "marked" 19) := ⟨rfl, rfl, rfl, C8.fnScope_by (by decide +kernel), chkB_cls (by decide +kernel), fun _ _ _ _ _ _ us hl => match us, hl with | [_, _], _ => rfl⟩
theorem p_is_plan : DefP T G exc d_is_plan (mkD "is_plan" 21) := ⟨rfl, rfl, rfl, C8.fnScope_by (by decide +kernel), chkB_cls (by decide +kernel), fun _ _ _ _ _ _ us hl => match us, hl with | [_, _, _], _ => rfl⟩
theorem p_ask_plan : DefP T G exc d_ask_plan (mkD "ask_plan" 22) := ⟨rfl, rfl, rfl, C8.fnScope_by (by decide +kernel), chkB_cls (by decide +kernel), fun _ _ _ _ _ _ us hl => match us, hl with | [_, _, _], _ => rfl⟩
theorem p_follow : DefP T G exc d_follow (mkD "follow" 23) := ⟨rfl, rfl, rfl, C8.fnScope_by (by decide +kernel), chkB_cls (by decide +kernel), fun _ _ _ _ _ _ us hl => match us, hl with | [_, _, _], _ => rfl⟩
theorem p_ask_game : DefP T G exc d_ask_game (mkD "ask_game" 25) := ⟨rfl, rfl, rfl, C8.fnScope_by (by decide +kernel), chkB_cls (by decide +kernel), fun _ _ _ _ _ _ us hl => match us, hl with | [_, _, _], _ => rfl⟩
theorem p_can_now : DefP T G exc d_can_now (mkD "can_now" 26) := ⟨rfl, rfl, rfl, C8.fnScope_by (by decide +kernel), chkB_cls (by decide +kernel), fun _ _ _ _ _ _ us hl => match us, hl with | [_, _, _, _], _ => rfl⟩
theorem p_brought : DefP T G exc d_brought (mkD "brought" 27) := ⟨rfl, rfl, rfl, C8.fnScope_by (by decide +kernel), chkB_cls (by decide +kernel), fun _ _ _ _ _ _ us hl => match us, hl with | [_, _, _, _, _], _ => rfl⟩
theorem p_downwards : DefP T G exc d_downwards (mkD "downwards" 28) := ⟨rfl, rfl, rfl, C8.fnScope_by (by decide +kernel), chkB_cls (by decide +kernel), fun _ _ _ _ _ _ us hl => match us, hl with | [_, _, _], _ => rfl⟩
theorem p_bring : DefP T G exc d_bring (mkD "bring" 29) := ⟨rfl, rfl, rfl, C8.fnScope_by (by decide +kernel), chkB_cls (by decide +kernel), fun _ _ _ _ _ _ us hl => match us, hl with | [_, _, _], _ => rfl⟩
theorem p_parts_of : DefP T G exc d_parts_of (mkD "parts_of" 34) := ⟨rfl, rfl, rfl, C8.fnScope_by (by decide +kernel), chkB_cls (by decide +kernel), fun _ _ _ _ _ _ us hl => match us, hl with | [_], _ => rfl⟩
theorem p_well_made : DefP T G exc d_well_made (mkD "well_made" 35) := ⟨rfl, rfl, rfl, C8.fnScope_by (by decide +kernel), chkB_cls (by decide +kernel), fun _ _ _ _ _ _ us hl => match us, hl with | [_], _ => rfl⟩
theorem p_count : DefP T G exc d_count (mkD "count" 36) := ⟨rfl, rfl, rfl, C8.fnScope_by (by decide +kernel), chkB_cls (by decide +kernel), fun _ _ _ _ _ _ us hl => match us, hl with | [_], _ => rfl⟩
theorem p_deep : DefP T G exc d_deep (mkD "deep" 37) := ⟨rfl, rfl, rfl, C8.fnScope_by (by decide +kernel), chkB_cls (by decide +kernel), fun _ _ _ _ _ _ us hl => match us, hl with | [_], _ => rfl⟩
theorem p_is_sentence : DefP T G exc d_is_sentence (mkD "is_sentence" 38) := ⟨rfl, rfl, rfl, C8.fnScope_by (by decide +kernel), chkB_cls (by decide +kernel), fun _ _ _ _ _ _ us hl => match us, hl with | [_], _ => rfl⟩
theorem p_ask_sentence : DefP T G exc d_ask_sentence (mkD "ask_sentence" 39) := ⟨rfl, rfl, rfl, C8.fnScope_by (by decide +kernel), chkB_cls (by decide +kernel), fun _ _ _ _ _ _ us hl => match us, hl with | [_], _ => rfl⟩
theorem p_some_ranks : DefP T G exc d_some_ranks (mkD "some_ranks" 41) := ⟨rfl, rfl, rfl, C8.fnScope_by (by decide +kernel), chkB_cls (by decide +kernel), fun _ _ _ _ _ _ us hl => match us, hl with | [_, _, _], _ => rfl⟩
theorem p_all_ranks : DefP T G exc d_all_ranks (mkD "all_ranks" 42) := ⟨rfl, rfl, rfl, C8.fnScope_by (by decide +kernel), chkB_cls (by decide +kernel), fun _ _ _ _ _ _ us hl => match us, hl with | [_, _, _], _ => rfl⟩
theorem p_others : DefP T G exc d_others (mkD "others" 43) := ⟨rfl, rfl, rfl, C8.fnScope_by (by decide +kernel), chkB_cls (by decide +kernel), fun _ _ _ _ _ _ us hl => match us, hl with | [_, _], _ => rfl⟩
theorem p_time_ranks : DefP T G exc d_time_ranks (mkD "time_ranks" 44) := ⟨rfl, rfl, rfl, C8.fnScope_by (by decide +kernel), chkB_cls (by decide +kernel), fun _ _ _ _ _ _ us hl => match us, hl with | [_, _, _, _], _ => rfl⟩
theorem p_rooms_by_ranks : DefP T G exc d_rooms_by_ranks (mkD "rooms_by_ranks" 45) := ⟨rfl, rfl, rfl, C8.fnScope_by (by decide +kernel), chkB_cls (by decide +kernel), fun _ _ _ _ _ _ us hl => match us, hl with | [_, _], _ => rfl⟩
theorem p_stepping : DefP T G exc d_stepping (mkD "stepping" 46) := ⟨rfl, rfl, rfl, C8.fnScope_by (by decide +kernel), chkB_cls (by decide +kernel), fun _ _ _ _ _ _ us hl => match us, hl with | [_, _, _], _ => rfl⟩
theorem p_plain_rooms : DefP T G exc d_plain_rooms (mkD "plain_rooms" 47) := ⟨rfl, rfl, rfl, C8.fnScope_by (by decide +kernel), chkB_cls (by decide +kernel), fun _ _ _ _ _ _ us hl => match us, hl with | [_, _, _], _ => rfl⟩
theorem p_judged : DefP T G exc d_judged (mkD "judged" 48) := ⟨rfl, rfl, rfl, C8.fnScope_by (by decide +kernel), chkB_cls (by decide +kernel), fun _ _ _ _ _ _ us hl => match us, hl with | [_, _], _ => rfl⟩
theorem p_holds : DefP T G exc d_holds (mkD "holds" 49) := ⟨rfl, rfl, rfl, C8.fnScope_by (by decide +kernel), chkB_cls (by decide +kernel), fun _ _ _ _ _ _ us hl => match us, hl with | [_, _], _ => rfl⟩
theorem p_beyond : DefP T G exc d_beyond (mkD "beyond" 51) := ⟨rfl, rfl, rfl, C8.fnScope_by (by decide +kernel), chkB_cls (by decide +kernel), fun _ _ _ _ _ _ us hl => match us, hl with | [_, _], _ => rfl⟩
theorem p_keep : DefP T G exc d_keep (mkD "keep" 52) := ⟨rfl, rfl, rfl, C8.fnScope_by (by decide +kernel), chkB_cls (by decide +kernel), fun _ _ _ _ _ _ us hl => match us, hl with | [_, _, _], _ => rfl⟩
theorem p__law_cell_at : DefP T G exc d__law_cell_at (mkD "_law_cell_at" 54) := ⟨rfl, rfl, rfl, C8.fnScope_by (by decide +kernel), chkB_cls (by decide +kernel), fun _ _ _ _ _ _ us hl => match us, hl with | [_, _], _ => rfl⟩
theorem p__law_draw : DefP T G exc d__law_draw (mkD "_law_draw" 55) := ⟨rfl, rfl, rfl, C8.fnScope_by (by decide +kernel), chkB_cls (by decide +kernel), fun _ _ _ _ _ _ us hl => match us, hl with | [_, _, _], _ => rfl⟩
theorem p__law_world : DefP T G exc d__law_world (mkD "_law_world" 56) := ⟨rfl, rfl, rfl, C8.fnScope_by (by decide +kernel), chkB_cls (by decide +kernel), fun _ _ _ _ _ _ us hl => match us, hl with | [_, _, _], _ => rfl⟩
theorem p_law : DefP T G exc d_law (mkD "law" 57) := ⟨rfl, rfl, rfl, C8.fnScope_by (by decide +kernel), chkB_cls (by decide +kernel), fun _ _ _ _ _ _ us hl => match us, hl with | [_], _ => rfl⟩
def fn : List He.DefD := [mkD "rises" 11, mkD "are_marks" 12, mkD "are_rooms" 13, mkD "is_world" 14, mkD "ask_world" 15, mkD "ask_rooms" 16, mkD "ask_player" 17, mkD "ask_marks" 18, mkD "marked" 19, mkD "is_plan" 21, mkD "ask_plan" 22, mkD "follow" 23, mkD "ask_game" 25, mkD "can_now" 26, mkD "brought" 27, mkD "downwards" 28, mkD "bring" 29, mkD "parts_of" 34, mkD "well_made" 35, mkD "count" 36, mkD "deep" 37, mkD "is_sentence" 38, mkD "ask_sentence" 39, mkD "some_ranks" 41, mkD "all_ranks" 42, mkD "others" 43, mkD "time_ranks" 44, mkD "rooms_by_ranks" 45, mkD "stepping" 46, mkD "plain_rooms" 47, mkD "judged" 48, mkD "holds" 49, mkD "beyond" 51, mkD "keep" 52, mkD "_law_cell_at" 54, mkD "_law_draw" 55, mkD "_law_world" 56, mkD "law" 57]
def fa : List He.Fa := [.glo "rises", .glo "are_marks", .glo "are_rooms", .glo "is_world", .glo "ask_world", .glo "ask_rooms", .glo "ask_player", .glo "ask_marks", .glo "marked", .glo "is_plan", .glo "ask_plan", .glo "follow", .glo "ask_game", .glo "can_now", .glo "brought", .glo "downwards", .glo "bring", .glo "parts_of", .glo "well_made", .glo "count", .glo "deep", .glo "is_sentence", .glo "ask_sentence", .glo "some_ranks", .glo "all_ranks", .glo "others", .glo "time_ranks", .glo "rooms_by_ranks", .glo "stepping", .glo "plain_rooms", .glo "judged", .glo "holds", .glo "beyond", .glo "keep", .glo "_law_cell_at", .glo "_law_draw", .glo "_law_world", .glo "law", .free "len", .free "range", .free "list", .free "tuple", .free "sorted", .free "sum", .free "any", .free "all", .free "max", .free "min", .free "int", .free "isinstance", .free "zip", .free "str", .free "bool", .free "repr", .free "dict", .free "set", .str "LETTERS" "abcdef", .int "MOST_ROOMS" 24, .glo "PARTS", .int "MOST_WORDS" 200, .int "MOST_DEEP" 24, .glo "NoMark", .exc "NoMark", .glo "NoPlan", .exc "NoPlan", .glo "NoPlayer", .exc "NoPlayer", .glo "NoRoom", .exc "NoRoom", .glo "NoSentence", .exc "NoSentence", .glo "NoWorld", .exc "NoWorld"]
def tabs : List He.Tab := [(fun K => He.ga K "PARTS", ["yes", "not", "and", "or", "some next", "all next", "some until", "all until", "some always", "all always"])]
def exK (K : PySem.W.Frag) : Bool := tabB K (He.ga K "PARTS") (tab_PARTS.map fun p => p.1.str) (tab_PARTS.map fun p => p.2)
abbrev R : PySem.W.OpenRow := PySem.W.OpenLaw.row PySem.Challenge.rw_foreseehall_k86_whole_worlds_of_plans_ju
abbrev hk : PySem.W.Hook := He.hookX 4 fa fn tabs [] exK
def ob (s : PySem.W.SharedT) : He.AlX := He.obsX 4 fa fn tabs [] exK (HandSHeadRun.getT s)
theorem ob_eq (s : PySem.W.SharedT) : ob s = hk.obs s.abs := He.obsX_eq (HandSHeadRun.getT_eq s)
theorem head_run (w : World) : HandSHeadRun.RunEq R (PySem.W.view R.prog [57]) hk ob 6000 ((["HallError", "NoWorld", "NoPlayer", "NoMark", "NoSentence", "NoRoom", "NoPlan", "MOST_ROOMS", "LETTERS", "rises", "are_marks", "are_rooms", "is_world", "ask_world", "ask_rooms", "ask_player", "ask_marks", "marked", "is_plan", "ask_plan", "follow", "ask_game", "can_now", "brought", "downwards", "bring", "MOST_WORDS", "MOST_DEEP", "PARTS", "parts_of"] : List PySem.Str) ++ (["well_made", "count", "deep", "is_sentence", "ask_sentence", "some_ranks", "all_ranks", "others", "time_ranks", "rooms_by_ranks", "stepping", "plain_rooms", "judged", "holds", "beyond", "keep", "_law_cell_at", "_law_draw", "_law_world"] : List PySem.Str)) w := by
  refine PySem.W.byRow2 "special-get-raises" (P := fun w => HandSHeadRun.RunEq R (PySem.W.view R.prog [57]) hk ob 6000 ((["HallError", "NoWorld", "NoPlayer", "NoMark", "NoSentence", "NoRoom", "NoPlan", "MOST_ROOMS", "LETTERS", "rises", "are_marks", "are_rooms", "is_world", "ask_world", "ask_rooms", "ask_player", "ask_marks", "marked", "is_plan", "ask_plan", "follow", "ask_game", "can_now", "brought", "downwards", "bring", "MOST_WORDS", "MOST_DEEP", "PARTS", "parts_of"] : List PySem.Str) ++ (["well_made", "count", "deep", "is_sentence", "ask_sentence", "some_ranks", "all_ranks", "others", "time_ranks", "rooms_by_ranks", "stepping", "plain_rooms", "judged", "holds", "beyond", "keep", "_law_cell_at", "_law_draw", "_law_world"] : List PySem.Str)) w) (fun w => ?_) (fun w => ?_) w
  · intro os
    kernel_rfl
  · intro os
    kernel_rfl
theorem tells {w : World} {K : PySem.W.Frag} {h : Heap} {mg : PySem.Str → Option Value} (X : K.In h) (Gm : h.Ns mainGlobals mg) (cx : He.SaysX fa fn tabs [] exK w h K) : Told K w mg T G exc (clsK K) where
  defs := fun f d h => by
    have c := cx.t.d
    match f, h with
    | 0, h =>
      obtain ⟨fd, F⟩ := c.def_ 0 (d := mkD "rises" 11) rfl
      cases h
      exact ⟨_, _, fd, p_rises, F, He.glo_ok X Gm (c.fact 0 (f := .glo "rises") rfl)⟩
    | 1, h =>
      obtain ⟨fd, F⟩ := c.def_ 1 (d := mkD "are_marks" 12) rfl
      cases h
      exact ⟨_, _, fd, p_are_marks, F, He.glo_ok X Gm (c.fact 1 (f := .glo "are_marks") rfl)⟩
    | 2, h =>
      obtain ⟨fd, F⟩ := c.def_ 2 (d := mkD "are_rooms" 13) rfl
      cases h
      exact ⟨_, _, fd, p_are_rooms, F, He.glo_ok X Gm (c.fact 2 (f := .glo "are_rooms") rfl)⟩
    | 3, h =>
      obtain ⟨fd, F⟩ := c.def_ 3 (d := mkD "is_world" 14) rfl
      cases h
      exact ⟨_, _, fd, p_is_world, F, He.glo_ok X Gm (c.fact 3 (f := .glo "is_world") rfl)⟩
    | 4, h =>
      obtain ⟨fd, F⟩ := c.def_ 4 (d := mkD "ask_world" 15) rfl
      cases h
      exact ⟨_, _, fd, p_ask_world, F, He.glo_ok X Gm (c.fact 4 (f := .glo "ask_world") rfl)⟩
    | 5, h =>
      obtain ⟨fd, F⟩ := c.def_ 5 (d := mkD "ask_rooms" 16) rfl
      cases h
      exact ⟨_, _, fd, p_ask_rooms, F, He.glo_ok X Gm (c.fact 5 (f := .glo "ask_rooms") rfl)⟩
    | 6, h =>
      obtain ⟨fd, F⟩ := c.def_ 6 (d := mkD "ask_player" 17) rfl
      cases h
      exact ⟨_, _, fd, p_ask_player, F, He.glo_ok X Gm (c.fact 6 (f := .glo "ask_player") rfl)⟩
    | 7, h =>
      obtain ⟨fd, F⟩ := c.def_ 7 (d := mkD "ask_marks" 18) rfl
      cases h
      exact ⟨_, _, fd, p_ask_marks, F, He.glo_ok X Gm (c.fact 7 (f := .glo "ask_marks") rfl)⟩
    | 8, h =>
      obtain ⟨fd, F⟩ := c.def_ 8 (d := mkD "marked" 19) rfl
      cases h
      exact ⟨_, _, fd, p_marked, F, He.glo_ok X Gm (c.fact 8 (f := .glo "marked") rfl)⟩
    | 9, h =>
      obtain ⟨fd, F⟩ := c.def_ 9 (d := mkD "is_plan" 21) rfl
      cases h
      exact ⟨_, _, fd, p_is_plan, F, He.glo_ok X Gm (c.fact 9 (f := .glo "is_plan") rfl)⟩
    | 10, h =>
      obtain ⟨fd, F⟩ := c.def_ 10 (d := mkD "ask_plan" 22) rfl
      cases h
      exact ⟨_, _, fd, p_ask_plan, F, He.glo_ok X Gm (c.fact 10 (f := .glo "ask_plan") rfl)⟩
    | 11, h =>
      obtain ⟨fd, F⟩ := c.def_ 11 (d := mkD "follow" 23) rfl
      cases h
      exact ⟨_, _, fd, p_follow, F, He.glo_ok X Gm (c.fact 11 (f := .glo "follow") rfl)⟩
    | 12, h =>
      obtain ⟨fd, F⟩ := c.def_ 12 (d := mkD "ask_game" 25) rfl
      cases h
      exact ⟨_, _, fd, p_ask_game, F, He.glo_ok X Gm (c.fact 12 (f := .glo "ask_game") rfl)⟩
    | 13, h =>
      obtain ⟨fd, F⟩ := c.def_ 13 (d := mkD "can_now" 26) rfl
      cases h
      exact ⟨_, _, fd, p_can_now, F, He.glo_ok X Gm (c.fact 13 (f := .glo "can_now") rfl)⟩
    | 14, h =>
      obtain ⟨fd, F⟩ := c.def_ 14 (d := mkD "brought" 27) rfl
      cases h
      exact ⟨_, _, fd, p_brought, F, He.glo_ok X Gm (c.fact 14 (f := .glo "brought") rfl)⟩
    | 15, h =>
      obtain ⟨fd, F⟩ := c.def_ 15 (d := mkD "downwards" 28) rfl
      cases h
      exact ⟨_, _, fd, p_downwards, F, He.glo_ok X Gm (c.fact 15 (f := .glo "downwards") rfl)⟩
    | 16, h =>
      obtain ⟨fd, F⟩ := c.def_ 16 (d := mkD "bring" 29) rfl
      cases h
      exact ⟨_, _, fd, p_bring, F, He.glo_ok X Gm (c.fact 16 (f := .glo "bring") rfl)⟩
    | 17, h =>
      obtain ⟨fd, F⟩ := c.def_ 17 (d := mkD "parts_of" 34) rfl
      cases h
      exact ⟨_, _, fd, p_parts_of, F, He.glo_ok X Gm (c.fact 17 (f := .glo "parts_of") rfl)⟩
    | 18, h =>
      obtain ⟨fd, F⟩ := c.def_ 18 (d := mkD "well_made" 35) rfl
      cases h
      exact ⟨_, _, fd, p_well_made, F, He.glo_ok X Gm (c.fact 18 (f := .glo "well_made") rfl)⟩
    | 19, h =>
      obtain ⟨fd, F⟩ := c.def_ 19 (d := mkD "count" 36) rfl
      cases h
      exact ⟨_, _, fd, p_count, F, He.glo_ok X Gm (c.fact 19 (f := .glo "count") rfl)⟩
    | 20, h =>
      obtain ⟨fd, F⟩ := c.def_ 20 (d := mkD "deep" 37) rfl
      cases h
      exact ⟨_, _, fd, p_deep, F, He.glo_ok X Gm (c.fact 20 (f := .glo "deep") rfl)⟩
    | 21, h =>
      obtain ⟨fd, F⟩ := c.def_ 21 (d := mkD "is_sentence" 38) rfl
      cases h
      exact ⟨_, _, fd, p_is_sentence, F, He.glo_ok X Gm (c.fact 21 (f := .glo "is_sentence") rfl)⟩
    | 22, h =>
      obtain ⟨fd, F⟩ := c.def_ 22 (d := mkD "ask_sentence" 39) rfl
      cases h
      exact ⟨_, _, fd, p_ask_sentence, F, He.glo_ok X Gm (c.fact 22 (f := .glo "ask_sentence") rfl)⟩
    | 23, h =>
      obtain ⟨fd, F⟩ := c.def_ 23 (d := mkD "some_ranks" 41) rfl
      cases h
      exact ⟨_, _, fd, p_some_ranks, F, He.glo_ok X Gm (c.fact 23 (f := .glo "some_ranks") rfl)⟩
    | 24, h =>
      obtain ⟨fd, F⟩ := c.def_ 24 (d := mkD "all_ranks" 42) rfl
      cases h
      exact ⟨_, _, fd, p_all_ranks, F, He.glo_ok X Gm (c.fact 24 (f := .glo "all_ranks") rfl)⟩
    | 25, h =>
      obtain ⟨fd, F⟩ := c.def_ 25 (d := mkD "others" 43) rfl
      cases h
      exact ⟨_, _, fd, p_others, F, He.glo_ok X Gm (c.fact 25 (f := .glo "others") rfl)⟩
    | 26, h =>
      obtain ⟨fd, F⟩ := c.def_ 26 (d := mkD "time_ranks" 44) rfl
      cases h
      exact ⟨_, _, fd, p_time_ranks, F, He.glo_ok X Gm (c.fact 26 (f := .glo "time_ranks") rfl)⟩
    | 27, h =>
      obtain ⟨fd, F⟩ := c.def_ 27 (d := mkD "rooms_by_ranks" 45) rfl
      cases h
      exact ⟨_, _, fd, p_rooms_by_ranks, F, He.glo_ok X Gm (c.fact 27 (f := .glo "rooms_by_ranks") rfl)⟩
    | 28, h =>
      obtain ⟨fd, F⟩ := c.def_ 28 (d := mkD "stepping" 46) rfl
      cases h
      exact ⟨_, _, fd, p_stepping, F, He.glo_ok X Gm (c.fact 28 (f := .glo "stepping") rfl)⟩
    | 29, h =>
      obtain ⟨fd, F⟩ := c.def_ 29 (d := mkD "plain_rooms" 47) rfl
      cases h
      exact ⟨_, _, fd, p_plain_rooms, F, He.glo_ok X Gm (c.fact 29 (f := .glo "plain_rooms") rfl)⟩
    | 30, h =>
      obtain ⟨fd, F⟩ := c.def_ 30 (d := mkD "judged" 48) rfl
      cases h
      exact ⟨_, _, fd, p_judged, F, He.glo_ok X Gm (c.fact 30 (f := .glo "judged") rfl)⟩
    | 31, h =>
      obtain ⟨fd, F⟩ := c.def_ 31 (d := mkD "holds" 49) rfl
      cases h
      exact ⟨_, _, fd, p_holds, F, He.glo_ok X Gm (c.fact 31 (f := .glo "holds") rfl)⟩
    | 32, h =>
      obtain ⟨fd, F⟩ := c.def_ 32 (d := mkD "beyond" 51) rfl
      cases h
      exact ⟨_, _, fd, p_beyond, F, He.glo_ok X Gm (c.fact 32 (f := .glo "beyond") rfl)⟩
    | 33, h =>
      obtain ⟨fd, F⟩ := c.def_ 33 (d := mkD "keep" 52) rfl
      cases h
      exact ⟨_, _, fd, p_keep, F, He.glo_ok X Gm (c.fact 33 (f := .glo "keep") rfl)⟩
    | 34, h =>
      obtain ⟨fd, F⟩ := c.def_ 34 (d := mkD "_law_cell_at" 54) rfl
      cases h
      exact ⟨_, _, fd, p__law_cell_at, F, He.glo_ok X Gm (c.fact 34 (f := .glo "_law_cell_at") rfl)⟩
    | 35, h =>
      obtain ⟨fd, F⟩ := c.def_ 35 (d := mkD "_law_draw" 55) rfl
      cases h
      exact ⟨_, _, fd, p__law_draw, F, He.glo_ok X Gm (c.fact 35 (f := .glo "_law_draw") rfl)⟩
    | 36, h =>
      obtain ⟨fd, F⟩ := c.def_ 36 (d := mkD "_law_world" 56) rfl
      cases h
      exact ⟨_, _, fd, p__law_world, F, He.glo_ok X Gm (c.fact 36 (f := .glo "_law_world") rfl)⟩
    | 37, h =>
      obtain ⟨fd, F⟩ := c.def_ 37 (d := mkD "law" 57) rfl
      cases h
      exact ⟨_, _, fd, p_law, F, He.glo_ok X Gm (c.fact 37 (f := .glo "law") rfl)⟩
    | f + 38, h => exact absurd h (by simp [T, ds])
  glo := fun x d h hdk => by
    have c := cx.t.d
    unfold G at h
    split at h
    · rename_i e
      subst e
      cases h
      obtain ⟨t, e⟩ := He.str_ok X Gm (c.fact 56 (f := .str "LETTERS" "abcdef") rfl)
      exact ⟨_, .str _, e, ⟨t, rfl⟩, fun _ _ => .str _⟩
    split at h
    · rename_i e
      subst e
      cases h
      obtain ⟨t, e⟩ := He.int_ok X Gm (c.fact 57 (f := .int "MOST_ROOMS" 24) rfl)
      exact ⟨_, .int _, e, ⟨t, rfl⟩, fun _ _ => .int _⟩
    split at h
    · cases h
      cases hdk
    split at h
    · rename_i e
      subst e
      cases h
      obtain ⟨t, e⟩ := He.int_ok X Gm (c.fact 59 (f := .int "MOST_WORDS" 200) rfl)
      exact ⟨_, .int _, e, ⟨t, rfl⟩, fun _ _ => .int _⟩
    split at h
    · rename_i e
      subst e
      cases h
      obtain ⟨t, e⟩ := He.int_ok X Gm (c.fact 60 (f := .int "MOST_DEEP" 24) rfl)
      exact ⟨_, .int _, e, ⟨t, rfl⟩, fun _ _ => .int _⟩
    cases h
  tab := fun x ks vs h => by
    have c := cx.t.d
    unfold G at h
    split at h
    · cases h
    split at h
    · cases h
    split at h
    · rename_i e
      subst e
      obtain ⟨rfl, rfl⟩ := dk_inj h
      obtain ⟨es, n, kd⟩ := cx.t.tab 0 (t := (fun K => He.ga K "PARTS", ["yes", "not", "and", "or", "some next", "all next", "some until", "all until", "some always", "all always"])) rfl
      have ex := cx.more
      unfold exK at ex
      try simp only [Bool.and_eq_true] at ex
      exact ⟨_, He.glo_ok X Gm (c.fact 58 (f := .glo "PARTS") rfl), tabK_of kd ex⟩
    split at h
    · cases h
    split at h
    · cases h
    cases h
  blt := fun x hx => by
    have c := cx.t.d
    simp only [bnames, List.mem_cons, List.not_mem_nil, or_false] at hx
    rcases hx with rfl | rfl | rfl | rfl | rfl | rfl | rfl | rfl | rfl | rfl | rfl | rfl | rfl | rfl | rfl | rfl | rfl | rfl
    · exact He.free_ok X Gm (c.fact 38 (f := .free "len") rfl)
    · exact He.free_ok X Gm (c.fact 39 (f := .free "range") rfl)
    · exact He.free_ok X Gm (c.fact 40 (f := .free "list") rfl)
    · exact He.free_ok X Gm (c.fact 41 (f := .free "tuple") rfl)
    · exact He.free_ok X Gm (c.fact 42 (f := .free "sorted") rfl)
    · exact He.free_ok X Gm (c.fact 43 (f := .free "sum") rfl)
    · exact He.free_ok X Gm (c.fact 44 (f := .free "any") rfl)
    · exact He.free_ok X Gm (c.fact 45 (f := .free "all") rfl)
    · exact He.free_ok X Gm (c.fact 46 (f := .free "max") rfl)
    · exact He.free_ok X Gm (c.fact 47 (f := .free "min") rfl)
    · exact He.free_ok X Gm (c.fact 48 (f := .free "int") rfl)
    · exact He.free_ok X Gm (c.fact 49 (f := .free "isinstance") rfl)
    · exact He.free_ok X Gm (c.fact 50 (f := .free "zip") rfl)
    · exact He.free_ok X Gm (c.fact 51 (f := .free "str") rfl)
    · exact He.free_ok X Gm (c.fact 52 (f := .free "bool") rfl)
    · exact He.free_ok X Gm (c.fact 53 (f := .free "repr") rfl)
    · exact He.free_ok X Gm (c.fact 54 (f := .free "dict") rfl)
    · exact He.free_ok X Gm (c.fact 55 (f := .free "set") rfl)
  exo := fun c0 a h => by
    have c := cx.t.d
    unfold clsK at h
    split at h
    · rename_i e
      subst e
      cases h
      obtain ⟨q1, q2, q3, q4⟩ := He.exc_ok (c.fact 62 (f := .exc "NoMark") rfl)
      exact ⟨⟨_, _, _, _, PySem.F.excBase_ValueError, q1⟩, He.glo_ok X Gm (c.fact 61 (f := .glo "NoMark") rfl), q2, q3, q4⟩
    split at h
    · rename_i e
      subst e
      cases h
      obtain ⟨q1, q2, q3, q4⟩ := He.exc_ok (c.fact 64 (f := .exc "NoPlan") rfl)
      exact ⟨⟨_, _, _, _, PySem.F.excBase_ValueError, q1⟩, He.glo_ok X Gm (c.fact 63 (f := .glo "NoPlan") rfl), q2, q3, q4⟩
    split at h
    · rename_i e
      subst e
      cases h
      obtain ⟨q1, q2, q3, q4⟩ := He.exc_ok (c.fact 66 (f := .exc "NoPlayer") rfl)
      exact ⟨⟨_, _, _, _, PySem.F.excBase_ValueError, q1⟩, He.glo_ok X Gm (c.fact 65 (f := .glo "NoPlayer") rfl), q2, q3, q4⟩
    split at h
    · rename_i e
      subst e
      cases h
      obtain ⟨q1, q2, q3, q4⟩ := He.exc_ok (c.fact 68 (f := .exc "NoRoom") rfl)
      exact ⟨⟨_, _, _, _, PySem.F.excBase_ValueError, q1⟩, He.glo_ok X Gm (c.fact 67 (f := .glo "NoRoom") rfl), q2, q3, q4⟩
    split at h
    · rename_i e
      subst e
      cases h
      obtain ⟨q1, q2, q3, q4⟩ := He.exc_ok (c.fact 70 (f := .exc "NoSentence") rfl)
      exact ⟨⟨_, _, _, _, PySem.F.excBase_ValueError, q1⟩, He.glo_ok X Gm (c.fact 69 (f := .glo "NoSentence") rfl), q2, q3, q4⟩
    split at h
    · rename_i e
      subst e
      cases h
      obtain ⟨q1, q2, q3, q4⟩ := He.exc_ok (c.fact 72 (f := .exc "NoWorld") rfl)
      exact ⟨⟨_, _, _, _, PySem.F.excBase_ValueError, q1⟩, He.glo_ok X Gm (c.fact 71 (f := .glo "NoWorld") rfl), q2, q3, q4⟩
    cases h
  all := fun c h => by
    simp only [exc, List.mem_cons, List.not_mem_nil, or_false] at h
    rcases h with rfl | rfl | rfl | rfl | rfl | rfl <;> (unfold clsK; repeat (first | rfl | split))
theorem facts {P : Program} {w : World} {K : PySem.W.Frag} {h : Heap} {mg : PySem.Str → Option Value} {f : Addr} (X : K.In h) (Gm : h.Ns mainGlobals mg) (hfa : mg ("law" : PySem.Str) = some (.ref f)) (c : He.SaysX fa fn tabs [] exK w h K) :
    ∃ fd : FuncData, (∀ (s : Shared) (v : Value), BindsTo s fd ⟨[v], []⟩ [("script", v)]) ∧ ∀ base : Heap, K.In base → base.Ns mainGlobals mg → FnOk P w K mg base (CXa P) 40 f fd ["script"] (spF ⟨T, clsK K, G, 40⟩ K 40 37) := by
  obtain ⟨a, fd, h1, h2, h3, h4, h5⟩ := fns_all (w := w) (tells X Gm c) 40 37 d_law rfl
  have e := hfa.symm.trans h2
  cases e
  exact ⟨fd, fun s v => h5 s [v] rfl, fun base _ _ => FnOk_any (h1 P base)⟩
end Law
open PySem PySem.W PySem.Calls PyProof.Rows
theorem PySem.Challenge.cw_foreseehall_k86_whole_worlds_of_plans_ju_holds : PySem.Challenge.rw_foreseehall_k86_whole_worlds_of_plans_ju.Holds := by
  w_on; o_law
  refine HandSHeadRun.head_any (r := OpenLaw.row PySem.Challenge.rw_foreseehall_k86_whole_worlds_of_plans_ju) (q := view (OpenLaw.row PySem.Challenge.rw_foreseehall_k86_whole_worlds_of_plans_ju).prog [57]) (H := Law.hk) (ob := Law.ob) (M := 6000) (loose := (["HallError", "NoWorld", "NoPlayer", "NoMark", "NoSentence", "NoRoom", "NoPlan", "MOST_ROOMS", "LETTERS", "rises", "are_marks", "are_rooms", "is_world", "ask_world", "ask_rooms", "ask_player", "ask_marks", "marked", "is_plan", "ask_plan", "follow", "ask_game", "can_now", "brought", "downwards", "bring", "MOST_WORDS", "MOST_DEEP", "PARTS", "parts_of"] : List PySem.Str) ++ (["well_made", "count", "deep", "is_sentence", "ask_sentence", "some_ranks", "all_ranks", "others", "time_ranks", "rooms_by_ranks", "stepping", "plain_rooms", "judged", "holds", "beyond", "keep", "_law_cell_at", "_law_draw", "_law_world"] : List PySem.Str)) (d := HandSHeadRun.topDef (OpenLaw.row PySem.Challenge.rw_foreseehall_k86_whole_worlds_of_plans_ju).prog 57) (kwd := []) Law.ob_eq
    (by kernel_rfl) (fun s => by kernel_rfl) Law.head_run (by kernel_rfl) (by kernel_rfl) (by kernel_rfl) (by rfl) (by first | assumption | decide +kernel) (by decide +kernel) ⟨rfl, rfl, rfl, rfl, rfl, by decide +kernel⟩ ?hw ?hc
  case hw => w_witness2
  case hc =>
    refine L2.walk_ofE (l := PySem.Challenge.rw_foreseehall_k86_whole_worlds_of_plans_ju) (n := 63) (k := 40) (x := "script") (CX := MP.CXa (PySem.Challenge.rw_foreseehall_k86_whole_worlds_of_plans_ju).prog) rfl (by decide) (by kernel_rfl) ⟨rfl, by decide, by decide⟩ ?F (fun _ _ _ _ z => MP.cxa_no z)
    intro w mg fa h Y G hmg0
    obtain ⟨K, KX, c⟩ := Y
    have hmg : mg ("law" : PySem.Str) = some (.ref fa) := by
      have e : (HandSHeadRun.topDef (OpenLaw.row PySem.Challenge.rw_foreseehall_k86_whole_worlds_of_plans_ju).prog 57).name = ("law" : PySem.Str) := by kernel_rfl
      rw [← e]
      exact hmg0
    obtain ⟨fd, hb, hF⟩ := Law.facts (P := (PySem.Challenge.rw_foreseehall_k86_whole_worlds_of_plans_ju).prog) (w := w) KX G hmg c
    exact ⟨K, fd, _, KX, hb, fun H a ns hl _ hS => MP.law_sp (n := 63) Law.law_true H a ns hl hS, hF⟩
