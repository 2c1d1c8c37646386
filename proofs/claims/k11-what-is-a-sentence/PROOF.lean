import PyProof.Rows.All
import Wide.All
import OpenK.AllK
import Wide.FinOn
import KE.KStateDown
import HandS.More
import HandS.Words
import HandS.WordsExc
import HandS.Defaults
import HandS.List
import HandS.SortKw
import HandS.ForMost
import HandS.Conv
import HandS.SetFor
import HandS.SetTxt0
import HandS.Strs
import HandS.Text
import HandS.StrMore
import HandS.Exc
import HandS.ExcOwn
import HandS.Deep
import HandS.HeadHook3
import HandS.HeadHook4
import HandS.Remove
import HandS.IsInst
import HandS.Sort
import HandS.ExcIs
import KE.DatumOrd
import KE.SortData
import PyProof.ReprRoads
import HandS.Zip
import HandS.HotCalls
import HandS.Flow
import HandS.Style
import HandS.Replace
import HandS.ExcValue
import HandS.Codes
import HandS.Head0
import HandS.Head1
import HandS.Head2
import HandS.HeadEnd
import HandS.HeadHook1
import HandS.HeadHook2
import PyProof.StrLawsIn
import PySem.Challenge.RW_foreseehall_k11_what_is_a_sentence
set_option linter.all false
set_option Elab.async false
set_option maxRecDepth 100000
set_option maxHeartbeats 0
/-! max(xs, default = d). -/
namespace MP
open PySem PySem.Spec PyProof.Rows L2
theorem maxd_loop {prog : Program} {w : World} {A : Around} {R : Result → Shared → Prop} {I : Addr} {fp wr : List Addr} {n : Nat} {P : Nat → Value → Prop} {St : Nat → Heap → Prop}
    (W : Walks prog w A.in1 I fp wr n P St) (bt : Nat → Nat → Bool) (hcmp : CmpOf prog w A.in1 CmpOp.Gt P bt) (S : Addr) (hSf : ¬S ∈ fp) (d : Value) :
    ∀ (k j : Nat) (s : Shared) (vb : Value) (c : Nat), n - (j + 1) = k → j + 1 ≤ n → St (j + 1) s.heap → P (argBest bt j) vb →
      s.heap.get? S = some { cls := Value.type "list", data := Data.seq #[vb, vb] c } →
      (∀ (v : Value) (h' : Heap) (tk : Nat), P (argBest bt (n - 1)) v → (∀ (b : Addr) (o : Obj), ¬b ∈ wr → b ≠ S → s.heap.get? b = some o → h'.get? b = some o) →
        R (Except.ok (Flow.ret v)) { heap := h', gens := s.gens, drawn := s.drawn, toks := tk, os := s.os }) →
      codeAny (model prog w) A (Code.builtin "max.loop" { pos := [Value.ref I, Value.none, Value.ref S], kw := [("default", d)] }) R s := by
  have hSw : ¬ S ∈ wr := fun h => hSf (W.sub S h)
  intro k
  induction k with
  | zero =>
    intro j s vb c hk hj hst hPb hS hR
    refine codeAny_builtin F.entry_max_loop ?_
    rw [Around.under_plainId F.plain_max_loop]
    refine wpAny_bind (wpAny_seqItems hS rfl ?_)
    have hn : n = j + 1 := by omega
    refine wpAny_bind (wpAny_tryCatch (W.done s _ _ (by rw [hn]; exact hst) fun h' tk hk' => ?_))
    have hS' := hk' S _ hSw hS
    refine wpAny_bind (wpAny_updateSeq hS' rfl ?_ (by simp [sizeLine_eq]) (by simp [sizeLine_eq]))
    refine wpAny_bind (wpAny_letGo ?_)
    refine wpAny_pure ?_
    refine hR vb _ _ (by rw [hn]; exact hPb) fun b o hb hbS e => ?_
    rw [Heap.get?_update_other _ _ (Ne.symm hbS)]
    exact hk' b o hb e
  | succ k ih =>
    intro j s vb c hk hj hst hPb hS hR
    refine codeAny_builtin F.entry_max_loop ?_
    rw [Around.under_plainId F.plain_max_loop]
    refine wpAny_bind (wpAny_seqItems hS rfl ?_)
    refine wpAny_bind (wpAny_tryCatch (W.item (j + 1) s _ _ (by omega) hst fun v h' tk hPv hst' hk' => ?_))
    have hS' := hk' S _ hSw hS
    refine wpAny_bind (wpAny_pure ?_)
    refine wpAny_bind (wpAny_tryCatch (wpAny_holding ?_))
    refine wpAny_bind (hcmp (j + 1) (argBest bt j) _ _ _ _ _ hPv hPb ?_)
    refine wpAny_bind (wpAny_holding (wpAny_truthy_bool ?_))
    refine wpAny_bind (wpAny_letGo ?_)
    refine wpAny_pure ?_
    have fr : ∀ (b : Addr), b ∈ fp → b ≠ S := fun b hb e => hSf (e ▸ hb)
    by_cases hbw : bt (j + 1) (argBest bt j) = true
    · have e1 : argBest bt (j + 1) = j + 1 := by show (if _ then _ else _) = _; rw [if_pos hbw]
      rw [if_pos hbw]
      refine wpAny_bind (wpAny_updateSeq hS' rfl ?_ (by simp [sizeLine_eq]) (by simp [sizeLine_eq]))
      refine wpAny_bind (wpAny_letGo ?_)
      refine wpAny_pure ⟨plainId_quiet F.plain_max_loop _, ?_⟩
      refine ih (j + 1) _ v _ (by omega) (by omega) (W.frame _ _ _ hst' fun b hb o e => ?_) (by rw [e1]; exact hPv) (Heap.get?_update_self _ hS' rfl) fun v' h'' tk' hP' hk'' => ?_
      · exact (Heap.get?_update_other _ _ (Ne.symm (fr b hb))).trans e
      · refine hR v' h'' tk' hP' fun b o hb hbS e => hk'' b o hb hbS ?_
        exact (Heap.get?_update_other _ _ (Ne.symm hbS)).trans (hk' b o hb e)
    · have e1 : argBest bt (j + 1) = argBest bt j := by show (if _ then _ else _) = _; rw [if_neg hbw]
      rw [if_neg hbw]
      refine wpAny_bind (wpAny_letGo ?_)
      refine wpAny_pure ⟨plainId_quiet F.plain_max_loop _, ?_⟩
      refine ih (j + 1) _ vb c (by omega) (by omega) hst' (by rw [e1]; exact hPb) hS' fun v' h'' tk' hP' hk'' => ?_
      exact hR v' h'' tk' hP' fun b o hb hbS e => hk'' b o hb hbS (hk' b o hb e)
theorem maxd_first {prog : Program} {w : World} {A : Around} {R : Result → Shared → Prop} {I : Addr} {fp wr : List Addr} {n : Nat} {P : Nat → Value → Prop} {St : Nat → Heap → Prop}
    (W : Walks prog w A.in1 I fp wr n P St) (bt : Nat → Nat → Bool) (hcmp : CmpOf prog w A.in1 CmpOp.Gt P bt) (S : Addr) (hSf : ¬S ∈ fp) (d : Value) {s : Shared} {c : Nat} (hst : St 0 s.heap)
    (hS : s.heap.get? S = some { cls := Value.type "list", data := Data.seq #[] c })
    (hR : ∀ (v : Value) (h' : Heap) (tk : Nat), (if n = 0 then v = d else P (argBest bt (n - 1)) v) → (∀ (b : Addr) (o : Obj), ¬b ∈ wr → b ≠ S → s.heap.get? b = some o → h'.get? b = some o) →
        R (Except.ok (Flow.ret v)) { heap := h', gens := s.gens, drawn := s.drawn, toks := tk, os := s.os }) :
      codeAny (model prog w) A (Code.builtin "max.loop" { pos := [Value.ref I, Value.none, Value.ref S], kw := [("default", d)] }) R s := by
  have hSw : ¬ S ∈ wr := fun h => hSf (W.sub S h)
  refine codeAny_builtin F.entry_max_loop ?_
  rw [Around.under_plainId F.plain_max_loop]
  refine wpAny_bind (wpAny_seqItems hS rfl ?_)
  by_cases hn : n = 0
  · refine wpAny_bind (wpAny_tryCatch (W.done s _ _ (by rw [hn]; exact hst) fun h' tk hk' => ?_))
    refine wpAny_bind (wpAny_rule ?_)
    refine wpAny_pure ?_
    exact hR d _ _ (by rw [if_pos hn]) fun b o hb _ e => hk' b o hb e
  · refine wpAny_bind (wpAny_tryCatch (W.item 0 s _ _ (by omega) hst fun v h' tk hPv hst' hk' => ?_))
    have hS' := hk' S _ hSw hS
    refine wpAny_bind (wpAny_pure ?_)
    refine wpAny_bind (wpAny_updateSeq hS' rfl ?_ (by simp [sizeLine_eq]) (by simp [sizeLine_eq]))
    refine wpAny_pure ⟨plainId_quiet F.plain_max_loop _, ?_⟩
    refine maxd_loop W bt hcmp S hSf d (n - 1) 0 _ v _ rfl (by omega) (W.frame _ _ _ hst' fun b hb o e => ?_) hPv (Heap.get?_update_self _ hS' rfl) fun v' h'' tk' hP' hk'' => ?_
    · exact (Heap.get?_update_other _ _ (fun (e : S = b) => hSf (by rw [e]; exact hb))).trans e
    · refine hR v' h'' tk' (by rw [if_neg hn]; exact hP') fun b o hb hbS e => hk'' b o hb hbS ?_
      exact (Heap.get?_update_other _ _ (Ne.symm hbS)).trans (hk' b o hb e)
theorem maxd_raw {prog : Program} {w : World} {A : Around} {E : Value → Shared → Prop} {s : Shared} {l : Addr} {xs : Array (Int × Tok)} {d : Value} {Q : Value → Shared → Prop} (hh : A.handled = none) (hl : s.heap.IsList l (intItems xs))
    (h : ∀ (v : Value) (h' : Heap) (tk : Nat), (if xs.size = 0 then v = d else (intItems xs)[argBest (fun i j => decide (numAt xs i > numAt xs j)) (xs.size - 1)]? = some v) →
      (∀ (b : Addr) (o : Obj), s.heap.get? b = some o → h'.get? b = some o) → Q v { heap := h', gens := s.gens, drawn := s.drawn, toks := tk, os := s.os }) :
    wpAny (model prog w) A (call (Value.builtin "max") [Value.ref l] [("default", d)]) Q E s := by
  have hname : ("max" : String) ++ ".loop" = "max.loop" := by decide
  refine wpAny_call (codeAny_call_builtin F.plain_max F.entry_max (wpAny_of_eq (show checkBuiltinCall "max" { pos := [Value.ref l], kw := [("default", d)] } = pure () from rfl) ?_))
  refine wpAny_bind (wpAny_of_eq (show _ = pure _ from rfl) ?_)
  refine wpAny_bind (wpAny_pure ?_)
  refine wpAny_bind (iter_intList hl fun s₂ e st hfp hlI => ?_)
  refine wpAny_bind (wpAny_newObj_type ?_)
  refine wpAny_pure ⟨plainId_quiet F.plain_max_loop _, ?_⟩
  subst e
  refine maxd_first (Walks.list (by exact hh) s.heap.objs.size l hlI (intItems xs)) (fun i j => decide (numAt xs i > numAt xs j)) (CmpOf.ints_gt (numAt xs) fun i v h => intItems_at h) _ (fun hm => Nat.lt_irrefl _ (hfp _ hm)) d (c := 0) ?_ (Heap.get?_push_size _ rfl) fun v h' tk hv hk => ?_
  · exact (Walks.list (prog := prog) (w := w) (A := A) hh s.heap.objs.size l hlI (intItems xs)).frame 0 _ _ st fun b _ o e => Heap.get?_push_of_some _ e
  · have hz : (intItems xs).size = xs.size := by simp [intItems]
    rw [hz] at hv
    refine h v h' tk hv fun b o e => ?_
    have hb : b < s.heap.objs.size := by
      by_cases q : b < s.heap.objs.size
      · exact q
      · rw [Heap.get?_none_of_le (Nat.le_of_not_lt q)] at e; cases e
    refine hk b o (fun z => Nat.lt_irrefl b (by have := List.mem_singleton.mp z; rw [this] at hb ⊢; exact hb)) (fun z => Nat.lt_irrefl b (Nat.lt_of_lt_of_le hb (by rw [z]; simp [Heap.push]))) (Heap.get?_push_of_some _ (Heap.get?_push_of_some _ e))
end MP

/-! set(list of whole numbers), at the library's level. -/
namespace MP
open PySem PySem.Spec PyProof.Rows L2
section
variable {prog : Program} {w : World} {A : Around} {E : Value → Shared → Prop} {s : Shared}
/-- an empty set's object -/
abbrev emptyS (w : World) : Obj := { cls := .type "set", dict := none, data := .set #[] 0 (.fresh 0 0 (!w.params.followText "set-order")) }
theorem set_of_ints {l : Addr} {items : Array Value} (ns : List Int) {Q : Value → Shared → Prop} (nh : A.handled = none) (pl : s.heap.IsList l items) (ia : IntsAre items.toList ns) (few : ns.length + 1 < scanBound)
    (q : ∀ (hp : Heap) (tk n : Nat), SetR w hp s.heap.objs.size (fun j => decide (j ∈ ns)) n → n ≤ ns.length → (∀ b o, s.heap.get? b = some o → hp.get? b = some o) → Q (.ref s.heap.objs.size) { s with heap := hp, toks := tk }) :
    wpAny (model prog w) A (call (.type "set") [.ref l]) Q E s := by
  have isz : items.size = ns.length := by have z := IntsAre.length ia; rwa [Array.length_toList] at z
  obtain ⟨mc, mt, hmro⟩ := F.called_set.mro
  have hmade := F.called_set.made; have hsub := F.called_set.sub
  refine wpAny_call (codeAny_of_tree (show wpAny _ _ (callAny (.type "set") _) _ _ _ from ?_))
  refine wpAny_pure ⟨Code.quiet_builtin _ (by decide +kernel), codeAny_builtin F.entry_type_call ((Around.under_plain (weight_type_call_type "set" [.ref l] []) rfl) ▸ ?_)⟩
  have n1 := F.called_set.notType; have n2 := F.called_set.canCreate; have n3 := F.typeCall_set_1 (.ref l)
  repeat (any_goals (first | assumption | wp_step))
  refine codeAny_mono (code_set_led1 (.ref l) (E := E) (Q₁ := fun v s1 => v = .ref s.heap.objs.size ∧ s1 = { s with heap := s.heap.push (emptyS w) }) ⟨rfl, rfl⟩) fun r s1 hr => ?_
  rcases r with e | fl
  · exact hr
  cases fl with
  | ret v =>
    obtain ⟨rfl, rfl⟩ := hr
    have hS : (s.heap.push (emptyS w)).get? s.heap.objs.size = some (emptyS w) := Heap.get?_push_size _ rfl
    have hT : Shared.TypeIs { s with heap := s.heap.push (emptyS w) } (.ref s.heap.objs.size) "set" := ⟨_, hS, rfl⟩
    have li := F.called_set.init.lookup; have bi := F.called_set.init.bind (.ref s.heap.objs.size)
    repeat (any_goals (first | assumption | wp_step))
    refine codeAny_mono (codeAny_call_builtin (R := wants (fun r s2 => r = .none ∧ ∃ hp tk n, s2 = { s with heap := hp, toks := tk } ∧ SetR w hp s.heap.objs.size (fun j => decide (j ∈ ns)) n ∧ n ≤ ns.length ∧ (∀ b o, s.heap.get? b = some o → hp.get? b = some o)) E) F.called_set.init.plain F.entry_set_init (check_set_init_1 hT ?_)) fun r2 s2 hr2 => ?_
    · obtain ⟨⟨oc, od, odt, osl⟩, ho, hc, nl, hd⟩ := pl
      simp only at hc hd; subst hc hd
      have ho2 : (s.heap.push (emptyS w)).get? l = some { cls := .type "list", dict := od, data := .seq items nl, slots := osl } := Heap.get?_push_of_some _ ho
      have b1 := F.sub_list_set; have b2 := F.sub_list_frozenset
      have b3 : (Value.type "list" == Value.type "dict") = false := by decide
      have pl1 : (s.heap.push (emptyS w)).IsList l items := ⟨_, ho2, rfl, nl, rfl⟩
      unfold Builtin.«set.__init__» noKeywords Builtin.Frozenset.updateFrom
      generalize hPI : pyIter = PI
      wp_walk
      subst hPI
      refine wpAny_pyIter_list pl1 (wpAny_bind (wpAny_runValue ?_))
      have lS : l < s.heap.objs.size := Heap.lt_size ho
      have nh3 : A.in1.in1.in1.handled = none := by simp [nh]
      have neI : l ≠ (s.heap.push (emptyS w)).objs.size := by rw [Heap.size_push]; exact Nat.ne_of_lt (Nat.lt_succ_of_lt lS)
      have Sf : s.heap.objs.size ∉ [(s.heap.push (emptyS w)).objs.size, l] := by
        rw [Heap.size_push]
        intro z
        rcases List.mem_cons.mp z with z | z
        · exact Nat.ne_of_lt (Nat.lt_succ_self _) z
        · exact Nat.ne_of_gt lS (List.mem_singleton.mp z)
      have vals : ∀ (i : Nat) (v : Value), items[i]? = some v → ∃ k t, ns[i]? = some k ∧ v = .int k t := fun i v hv => by
        have hi : i < ns.length := isz ▸ (Array.getElem?_eq_some_iff.mp hv).1
        obtain ⟨t, e⟩ := PyProof.Rows.IntsAre.int_at ia i v (by rw [Array.getElem?_toList]; exact hv)
        exact ⟨ns[i], t, List.getElem?_eq_getElem hi, by rw [e, List.getD_eq_getElem?_getD, List.getElem?_eq_getElem hi] <;> rfl⟩
      refine set_update_ints ((Walks.list nh3 _ l neI items).toS) s.heap.objs.size Sf ns isz few vals (items.size - 0) 0 _ (by omega) (Nat.zero_le _) ⟨⟨_, Heap.get?_push_size _ rfl, rfl, rfl⟩, (pl1.push _)⟩ ?start ?done
      case start =>
        exact ⟨0, Nat.le_refl 0, setR_new_at (Heap.get?_push_of_some _ hS)⟩
      case done =>
        intro s3 n3 hm hn3 hS3
        obtain ⟨hp, g3, d3, tk, os3⟩ := s3
        have eg : g3 = s.gens := hm.gens; have ed : d3 = s.drawn := hm.drawn; have eo : os3 = s.os := hm.os
        subst eg ed eo
        refine (show wpAny _ _ _ _ _ _ from wpAny_pure (show wpAny _ _ (ret Value.none) _ _ _ from ?_))
        refine wpAny_pure ⟨rfl, hp, tk, n3, rfl, hS3, isz ▸ hn3, fun b o e => ?_⟩
        have c0 : b < s.heap.objs.size := Heap.lt_size e
        have c1 : b ∉ [s.heap.objs.size, (s.heap.push (emptyS w)).objs.size] := by
          rw [Heap.size_push]
          intro z
          rcases List.mem_cons.mp z with z | z
          · exact Nat.ne_of_lt c0 z
          · exact Nat.ne_of_lt (Nat.lt_succ_of_lt c0) (List.mem_singleton.mp z)
        exact hm.heap b o c1 (Heap.get?_push_of_some _ (Heap.get?_push_of_some _ e))
    · rcases r2 with e | fl2
      · exact hr2
      cases fl2 with
      | ret v =>
        obtain ⟨rfl, hp, tk, n, rfl, hS2, hn2, hk⟩ := hr2
        repeat (any_goals (first | assumption | wp_step))
        exact q _ _ _ hS2 hn2 hk
      | _ => exact hr2.elim
  | _ => exact hr.elim
end
end MP

/-! set(list of texts), sorted(set), at the library's level. -/
namespace MP
open PySem PySem.Spec PyProof.Rows L2
section
variable {prog : Program} {w : World} {A : Around} {E : Value → Shared → Prop} {s : Shared}
/-- the set at a holds the texts l, each of them once -/
def TxS (prog : Program) (w : World) (hp : Heap) (a : Addr) (l : List Str) : Prop :=
  ∃ D : Froz.SD, hp.get? a = some (Froz.sObj "set" D) ∧ Froz.TxOk prog w D l ∧ l.Nodup ∧ Ris D.2.2.place.toList ∧ (w.params.followText "set-order" = true ∨ D.2.2.led = true)
theorem TxS.mv {hp hq : Heap} {a : Addr} {l : List Str} (R : TxS prog w hp a l) (k : ∀ o, hp.get? a = some o → hq.get? a = some o) : TxS prog w hq a l := by
  obtain ⟨D, e, r⟩ := R
  exact ⟨D, k _ e, r⟩
theorem addTx_more {h : Int} {v : Value} {D : Froz.SD} (r : Ris D.2.2.place.toList) : Ris (Froz.addTx h v D).2.2.place.toList ∧ (Froz.addTx h v D).2.2.led = D.2.2.led := by
  have r1 := layNew_ris D.2.2 D.1 h v r
  have d1 := layNew_led D.2.2 D.1 h v
  unfold Froz.addTx Froz.tailTx
  generalize layNew D.2.2 D.1 h v = Z at r1 d1 ⊢
  obtain ⟨es1, t1, b1, b2⟩ := Z
  dsimp only at r1 d1 ⊢
  by_cases c : t1.plain = true
  · rw [if_pos c]
    split
    · exact ⟨relayAll_ris _ _ _, (relayAll_led _ _ _).trans d1⟩
    · exact ⟨r1, d1⟩
  · rw [if_neg c]
    split
    · exact ⟨relayAll_ris _ _ _, (relayAll_led _ _ _).trans d1⟩
    · exact ⟨r1, d1⟩
/-- a text that stands there already -/
theorem add_old {a : Addr} {T : String} {D : Froz.SD} {l : List Str} {k : Str} {u : Tok} {Q : Bool → Shared → Prop} (place : s.heap.get? a = some (Froz.sObj T D)) (F : Froz.TxOk prog w D l) (old : k ∈ l) (few : l.length < scanBound)
    (q : Q false s) : wpAny (model prog w) A (setAddHashed a (.str k u) (hashStr w k)) Q E s := by
  obtain ⟨es, ep, t⟩ := D
  have dat : (Froz.sObj T (es, ep, t)).data = .set es ep t := rfl
  have sz0 : es.size = l.length := F.sz
  have room : es.size < scanBound := by rw [sz0]; exact few
  obtain ⟨e, he, hq⟩ := (F.mem k).mp old
  have found : ∃ j, List.findIdx? (fun e => (strKind prog w).is k e.2) es.toList = some j := by
    cases c : List.findIdx? (fun e => (strKind prog w).is k e.2) es.toList with
    | some j => exact ⟨j, rfl⟩
    | none =>
      have z := List.findIdx?_eq_none_iff.mp c e he
      rw [hq] at z; cases z
  obtain ⟨j, hj⟩ := found
  unfold setAddHashed setAddHashedIn
  refine wpAny_holding (wpAny_bind (wpAny_setState_of place dat F.fit ?_))
  dsimp only
  rw [byScan_of (show (Value.str k u).scannable = true from rfl) room F.el]
  simp only [↓reduceIte]
  unfold setAddByScan
  refine wpAny_bind (wpAny_bind (wpAny_rule (wpAny_bind (wpAny_setScan_of (knd := strKind prog w) (k := k) (Froz.is_str k u) place dat F.fit F.el ?_))))
  rw [hj]
  exact wpAny_pure (wpAny_pure q)
/-- a text is put in -/
theorem add_any {a : Addr} {l : List Str} {k : Str} {u : Tok} {Q : Bool → Shared → Prop} (R : TxS prog w s.heap a l) (few : l.length + 1 < scanBound)
    (q : ∀ hp c, Heap.SameBut a s.heap hp → TxS prog w hp a (if k ∈ l then l else k :: l) → Q c { s with heap := hp }) : wpAny (model prog w) A (setAddHashed a (.str k u) (hashStr w k)) Q E s := by
  obtain ⟨D, place, F, nd, ris, led⟩ := R
  by_cases hk : k ∈ l
  · refine add_old place F hk (by omega) ?_
    refine q s.heap false (Heap.SameBut.refl a s.heap) ?_
    rw [if_pos hk]
    exact ⟨D, place, F, nd, ris, led⟩
  · refine Froz.add_x place F hk few ?_
    refine q _ true (Heap.SameBut.update s.heap a _) ?_
    rw [if_neg hk]
    obtain ⟨m1, m2⟩ := addTx_more (h := hashStr w k) (v := .str k u) ris
    exact ⟨_, Froz.get_upd _ place rfl, Froz.add_ok u F, List.nodup_cons.mpr ⟨hk, nd⟩, m1, led.imp id fun z => m2.trans z⟩
theorem update_strs {I : Addr} {fp wr : List Addr} {G : Array GenState → Array GenState → Prop} {n : Nat} {Pv : Nat → Value → Prop} {St : Nat → Shared → Prop} {R : Result → Shared → Prop}
    (W : WalksS prog w A.in1 I fp wr G n Pv St) (a : Addr) (afp : a ∉ fp) (ts : List Str) (len : n = ts.length) (few : ts.length + 1 < scanBound) (val : ∀ i v, Pv i v → ∃ k t, ts[i]? = some k ∧ v = .str k t) :
    ∀ (m i : Nat) (s : Shared), n - i = m → i ≤ n → St i s → (∃ l : List Str, l.length ≤ i ∧ (∀ x, x ∈ l ↔ x ∈ ts.take i) ∧ TxS prog w s.heap a l) →
      (∀ s' l, Moved (a :: wr) G s s' → l.length ≤ n → (∀ x, x ∈ l ↔ x ∈ ts) → TxS prog w s'.heap a l → R (.ok (.ret .none)) s') →
      codeAny (model prog w) A (.builtin "set.update.loop" ⟨[.ref a, .ref I], []⟩) R s := by
  have awr : a ∉ wr := fun z => afp (W.sub _ z)
  have wider : ∀ b ∈ wr, b ∈ a :: wr := fun b z => List.mem_cons_of_mem _ z
  intro m
  induction m with
  | zero =>
    intro i s em hi hst ⟨l, l1, l2, l3⟩ hR
    obtain rfl : i = n := by omega
    refine codeAny_builtin F.entry_set_update_loop (Around.under_plainId F.plain_set_update_loop _ ▸ ?_)
    refine (show wpAny _ A.in1 (pyNext (.ref I) >>= _) _ _ s from wpAny_bind (W.done s _ _ hst fun s' mv => ?_))
    have whole : ts.take i = ts := List.take_of_length_le (by omega)
    rw [whole] at l2
    exact (show wpAny _ A.in1 (ret Value.none) _ _ s' from wpAny_pure (hR s' l (mv.mono wider) l1 l2 (l3.mv fun o z => mv.heap a o awr z)))
  | succ m ih =>
    intro i s em hi hst ⟨l, l1, l2, l3⟩ hR
    have lt : i < n := by omega
    refine codeAny_builtin F.entry_set_update_loop (Around.under_plainId F.plain_set_update_loop _ ▸ ?_)
    refine (show wpAny _ A.in1 (pyNext (.ref I) >>= _) _ _ s from wpAny_bind (W.item i s _ _ lt hst fun v s' hP hst' mv => ?_))
    obtain ⟨z, t, hz, rfl⟩ := val i v hP
    have l4 : TxS prog w s'.heap a l := l3.mv fun o q => mv.heap a o awr q
    refine (show wpAny _ A.in1 (holding [Value.str z t] (setAdd a (.str z t)) >>= _) _ _ s' from wpAny_bind (wpAny_holding ?_))
    unfold setAdd
    refine wpAny_holding (wpAny_bind ((strKind prog w).pyHash (k := z) (Froz.is_str z t) ?_))
    refine add_any (s := { s' with toks := s'.toks + 1 }) l4 (by omega) fun hp c sb l5 => ?_
    refine wpAny_pure ⟨plainId_quiet F.plain_set_update_loop _, ih (i + 1) _ (by omega) lt (W.frame _ s' _ _ hst' (Nat.le_succ _) fun b hb o e => ?_) ⟨_, ?_, fun x => ?_, l5⟩ fun s2 l6 m2 k1 k2 k3 => ?_⟩
    · rw [sb.2 b (fun q : b = a => afp (q ▸ hb))]; exact e
    · split
      · omega
      · rw [List.length_cons]; omega
    · rw [List.take_add_one, hz]
      show _ ↔ x ∈ ts.take i ++ [z]
      rw [List.mem_append, List.mem_singleton, ← l2 x]
      split
      · rename_i zl
        exact ⟨.inl, fun q => q.elim id fun e => by rw [e]; exact zl⟩
      · rw [List.mem_cons]
        exact Or.comm
    · refine hR s2 l6 (Moved.trans W.gtrans ((mv.mono wider).then_heap (Nat.le_succ _) fun b o hb e => ?_) m2) k1 k2 k3
      rw [sb.2 b (fun q : b = a => hb (by rw [q]; exact List.mem_cons_self))]; exact e
theorem TxS.empty {prog : Program} (w : World) {hp : Heap} {a : Addr} (e : hp.get? a = some (emptyS w)) : TxS prog w hp a [] := by
  refine ⟨(#[], 0, .fresh 0 0 (!w.params.followText "set-order")), e, Froz.TxOk.nil rfl, List.nodup_nil, List.Pairwise.nil, ?_⟩
  show _ ∨ (!w.params.followText "set-order") = true
  cases w.params.followText "set-order" with
  | true => exact .inl rfl
  | false => exact .inr rfl
theorem set_of_strs {l : Addr} {items : Array Value} (ns : List Str) {Q : Value → Shared → Prop} (nh : A.handled = none) (pl : s.heap.IsList l items) (ia : StrsAre items.toList ns) (few : ns.length + 1 < scanBound)
    (q : ∀ (hp : Heap) (tk : Nat) (l : List Str), TxS prog w hp s.heap.objs.size l → l.length ≤ ns.length → (∀ x, x ∈ l ↔ x ∈ ns) → (∀ b o, s.heap.get? b = some o → hp.get? b = some o) → Q (.ref s.heap.objs.size) { s with heap := hp, toks := tk }) :
    wpAny (model prog w) A (call (.type "set") [.ref l]) Q E s := by
  have isz : items.size = ns.length := by have z := StrsAre.length ia; rwa [Array.length_toList] at z
  obtain ⟨mc, mt, hmro⟩ := F.called_set.mro
  have hmade := F.called_set.made; have hsub := F.called_set.sub
  refine wpAny_call (codeAny_of_tree (show wpAny _ _ (callAny (.type "set") _) _ _ _ from ?_))
  refine wpAny_pure ⟨Code.quiet_builtin _ (by decide +kernel), codeAny_builtin F.entry_type_call ((Around.under_plain (weight_type_call_type "set" [.ref l] []) rfl) ▸ ?_)⟩
  have n1 := F.called_set.notType; have n2 := F.called_set.canCreate; have n3 := F.typeCall_set_1 (.ref l)
  repeat (any_goals (first | assumption | wp_step))
  refine codeAny_mono (code_set_led1 (.ref l) (E := E) (Q₁ := fun v s1 => v = .ref s.heap.objs.size ∧ s1 = { s with heap := s.heap.push (emptyS w) }) ⟨rfl, rfl⟩) fun r s1 hr => ?_
  rcases r with e | fl
  · exact hr
  cases fl with
  | ret v =>
    obtain ⟨rfl, rfl⟩ := hr
    have hS : (s.heap.push (emptyS w)).get? s.heap.objs.size = some (emptyS w) := Heap.get?_push_size _ rfl
    have hT : Shared.TypeIs { s with heap := s.heap.push (emptyS w) } (.ref s.heap.objs.size) "set" := ⟨_, hS, rfl⟩
    have li := F.called_set.init.lookup; have bi := F.called_set.init.bind (.ref s.heap.objs.size)
    repeat (any_goals (first | assumption | wp_step))
    refine codeAny_mono (codeAny_call_builtin (R := wants (fun r s2 => r = .none ∧ ∃ hp tk l, s2 = { s with heap := hp, toks := tk } ∧ TxS prog w hp s.heap.objs.size l ∧ l.length ≤ ns.length ∧ (∀ x, x ∈ l ↔ x ∈ ns) ∧ (∀ b o, s.heap.get? b = some o → hp.get? b = some o)) E) F.called_set.init.plain F.entry_set_init (check_set_init_1 hT ?_)) fun r2 s2 hr2 => ?_
    · obtain ⟨⟨oc, od, odt, osl⟩, ho, hc, nl, hd⟩ := pl
      simp only at hc hd; subst hc hd
      have ho2 : (s.heap.push (emptyS w)).get? l = some { cls := .type "list", dict := od, data := .seq items nl, slots := osl } := Heap.get?_push_of_some _ ho
      have b1 := F.sub_list_set; have b2 := F.sub_list_frozenset
      have b3 : (Value.type "list" == Value.type "dict") = false := by decide
      have pl1 : (s.heap.push (emptyS w)).IsList l items := ⟨_, ho2, rfl, nl, rfl⟩
      unfold Builtin.«set.__init__» noKeywords Builtin.Frozenset.updateFrom
      generalize hPI : pyIter = PI
      wp_walk
      subst hPI
      refine wpAny_pyIter_list pl1 (wpAny_bind (wpAny_runValue ?_))
      have lS : l < s.heap.objs.size := Heap.lt_size ho
      have nh3 : A.in1.in1.in1.handled = none := by simp [nh]
      have neI : l ≠ (s.heap.push (emptyS w)).objs.size := by rw [Heap.size_push]; exact Nat.ne_of_lt (Nat.lt_succ_of_lt lS)
      have Sf : s.heap.objs.size ∉ [(s.heap.push (emptyS w)).objs.size, l] := by
        rw [Heap.size_push]
        intro z
        rcases List.mem_cons.mp z with z | z
        · exact Nat.ne_of_lt (Nat.lt_succ_self _) z
        · exact Nat.ne_of_gt lS (List.mem_singleton.mp z)
      have vals : ∀ (i : Nat) (v : Value), items[i]? = some v → ∃ k t, ns[i]? = some k ∧ v = .str k t := fun i v hv => by
        have hi : i < ns.length := isz ▸ (Array.getElem?_eq_some_iff.mp hv).1
        obtain ⟨t, e⟩ := StrsAre.at ia (List.getElem?_eq_getElem hi)
        rw [Array.getElem?_toList, hv] at e
        cases e
        exact ⟨ns[i], t, List.getElem?_eq_getElem hi, rfl⟩
      refine update_strs ((Walks.list nh3 _ l neI items).toS) s.heap.objs.size Sf ns isz few vals (items.size - 0) 0 _ (by omega) (Nat.zero_le _) ⟨⟨_, Heap.get?_push_size _ rfl, rfl, rfl⟩, (pl1.push _)⟩ ?start ?done
      case start =>
        exact ⟨[], Nat.le_refl 0, fun x => by simp, (TxS.empty w hS).mv fun o z => Heap.get?_push_of_some _ z⟩
      case done =>
        intro s3 l3 hm hn3 hx3 hS3
        obtain ⟨hp, g3, d3, tk, os3⟩ := s3
        have eg : g3 = s.gens := hm.gens; have ed : d3 = s.drawn := hm.drawn; have eo : os3 = s.os := hm.os
        subst eg ed eo
        refine (show wpAny _ _ _ _ _ _ from wpAny_pure (show wpAny _ _ (ret Value.none) _ _ _ from ?_))
        refine wpAny_pure ⟨rfl, hp, tk, l3, rfl, hS3, isz ▸ hn3, hx3, fun b o e => ?_⟩
        have c0 : b < s.heap.objs.size := Heap.lt_size e
        have c1 : b ∉ [s.heap.objs.size, (s.heap.push (emptyS w)).objs.size] := by
          rw [Heap.size_push]
          intro z
          rcases List.mem_cons.mp z with z | z
          · exact Nat.ne_of_lt c0 z
          · exact Nat.ne_of_lt (Nat.lt_succ_of_lt c0) (List.mem_singleton.mp z)
        exact hm.heap b o c1 (Heap.get?_push_of_some _ (Heap.get?_push_of_some _ e))
    · rcases r2 with e | fl2
      · exact hr2
      cases fl2 with
      | ret v =>
        obtain ⟨rfl, hp, tk, l9, rfl, hS2, hn2, hx2, hk⟩ := hr2
        repeat (any_goals (first | assumption | wp_step))
        exact q _ _ _ hS2 hn2 hx2 hk
      | _ => exact hr2.elim
  | _ => exact hr.elim
theorem perm_few {α : Type} [DecidableEq α] : ∀ {l ss : List α}, l.Nodup → (∀ x ∈ l, x ∈ ss) → ss.length ≤ l.length → ss.Perm l
  | [], ss, _, _, h => by
    have : ss = [] := List.length_eq_zero_iff.mp (by simpa using h)
    rw [this]
  | x :: l, ss, nd, h, len => by
    obtain ⟨n1, n2⟩ := List.nodup_cons.mp nd
    have hx := h x List.mem_cons_self
    have le := List.length_erase_of_mem hx
    rw [List.length_cons] at len
    exact (List.perm_cons_erase hx).trans (.cons x (perm_few n2 (fun y hy => (List.mem_erase_of_ne (fun e : y = x => n1 (by rw [← e]; exact hy))).mpr (h y (List.mem_cons_of_mem _ hy))) (by omega)))
/-- sorted(such a set) -/
theorem sorted_strset {a : Addr} {l : List Str} {Q : Value → Shared → Prop} (R : TxS prog w s.heap a l) (hh : A.handled = none) (h64 : l.length < 64)
    (q : ∀ s' p (out : Array Value) (c : Nat) (ns : List Str), (∀ b o, s.heap.get? b = some o → s'.heap.get? b = some o) → s'.gens = s.gens → s'.os = s.os → s.heap.objs.size ≤ p →
      s'.heap.get? p = some (seqObj "list" out c) → StrsAre out.toList ns → ns.Perm l → sortedS ns = true → Q (.ref p) s') :
    wpAny (model prog w) A (call (.builtin "sorted") [.ref a]) Q E s := by
  obtain ⟨⟨es, ep, t⟩, place, F, nd, ris, led⟩ := R
  have sz : es.size = l.length := F.sz
  have room : es.size < scanBound := by rw [sz]; unfold scanBound; omega
  refine Calls.call_function_entry kind_sorted plain_sorted entry_sorted (args_sorted1 _) ?_
  unfold Builtin.«sorted»
  refine wpAny_bind (m := checkCount "sorted" 1 1 _) (wpAny_pure (wpAny_bind (collect_set (A := A.in1) hh ⟨_, place, rfl, rfl⟩ F.fit room ris led fun s1 vs k1 z1 g1 o1 pm => ?_)))
  have lv : vs.length = l.length := by rw [pm.length_eq, List.length_map, Array.length_toList]; exact sz
  -- the values are texts
  have each : ∀ v ∈ vs, ∃ k u, v = Value.str k u ∧ k ∈ l := fun v hv => by
    obtain ⟨e, he, rfl⟩ := List.mem_map.mp (pm.mem_iff.mp hv)
    obtain ⟨⟨k, hk, _⟩, _⟩ := F.el e he
    have hk2 : Value.isStrOf k e.2 = true := hk
    cases ev : e.2 with
    | str x u =>
      rw [ev] at hk2
      have : x = k := by simpa [Value.isStrOf] using hk2
      subst this
      refine ⟨x, u, rfl, (F.mem x).mpr ⟨e, he, hk⟩⟩
    | _ => rw [ev] at hk2; cases hk2
  obtain ⟨ss, hS⟩ : ∃ ss, StrsAre vs ss := by
    clear pm lv q
    induction vs with
    | nil => exact ⟨[], .nil⟩
    | cons v vs ih =>
      obtain ⟨k, u, rfl, _⟩ := each _ List.mem_cons_self
      obtain ⟨ss, h⟩ := ih fun y hy => each y (List.mem_cons_of_mem _ hy)
      exact ⟨k :: ss, .cons k u h⟩
  have ls : ss.length = l.length := by rw [← StrsAre.length hS, lv]
  have inS : ∀ x, x ∈ l → x ∈ ss := fun x hx => by
    obtain ⟨e, he, hk⟩ := (F.mem x).mp hx
    have hk2 : Value.isStrOf x e.2 = true := hk
    have hv : e.2 ∈ vs := pm.mem_iff.mpr (List.mem_map_of_mem he)
    cases ev : e.2 with
    | str y u =>
      rw [ev] at hk2 hv
      have : y = x := by simpa [Value.isStrOf] using hk2
      subst this
      have key : ∀ {vs : List Value} {ss : List Str}, StrsAre vs ss → Value.str y u ∈ vs → y ∈ ss := by
        intro vs ss h
        induction h with
        | nil => intro z; cases z
        | cons y0 t h ih =>
          intro z
          rcases List.mem_cons.mp z with z | z
          · cases z; exact List.mem_cons_self
          · exact List.mem_cons_of_mem _ (ih z)
      exact key hS hv
    | _ => rw [ev] at hk2; cases hk2
  have pl : ss.Perm l := perm_few nd inS (by omega)
  refine wpAny_bind (wpAny_newList ?_ (by rw [lv, sizeLine_eq]; omega))
  have new : (s1.heap.push (seqObj "list" vs.toArray 0)).get? s1.heap.objs.size = some (seqObj "list" vs.toArray 0) := Heap.get?_push_size _ rfl
  refine wpAny_bind (wpAny_holding (wpAny_call_entry slot_list_sort ⟨_, new, rfl⟩ entry_list_sort (list_sort_treeK strKind_oneLt new hS.keysOf (fun v₁ v₂ rest e => keyKind_strs (by rw [← e]; exact hS)) (by rw [lv]; exact h64) fun st' a1 a2 => ⟨_, rfl, ?_⟩) (args_list_sort _)))
  obtain ⟨ns, b1, b2, b3⟩ := sorted_out_str hS a1 a2
  obtain ⟨c, hc⟩ := sortedHeap_at (vs := vs) (out := (arrOf st').map (·.2)) new
  refine wpAny_pure ⟨_, rfl, q _ s1.heap.objs.size ((arrOf st').map (·.2)) c ns (fun b u e => ?_) g1 o1 z1 hc b1 (b2.trans pl) b3⟩
  have z := k1 b u e
  have low := Heap.lt_size z
  show (sortedHeap (s1.heap.push (seqObj "list" vs.toArray 0)) s1.heap.objs.size vs ((arrOf st').map (·.2))).get? b = some u
  rw [sortedHeap_old (Nat.ne_of_lt low) (by rw [size_push']; exact Nat.lt_succ_of_lt low)]
  exact Heap.get?_push_of_some _ z
end
end MP

/-! The small language: values, trees, terms, and what they compute. -/
namespace MP
open PySem

/-- a value: a tree; ref n is the n-th mutable cell of the running frame -/
inductive D where
  | none | bool (b : Bool) | int (i : Int) | str (s : Str)
  | list (xs : List D) | tup (xs : List D)
  | dk (ks : List L2.Key) (vs : List D)
  | dt (ks : List (List L2.Key)) (vs : List D)
  | ref (n : Nat)
  | scr (ns : List Int)
  /-- a caught exception of the class of that name -/
  | exc (c : Str)
  deriving Inhabited

/-- a mutable cell -/
inductive Cell where
  | lst (xs : List D)
  | dk (ks : List L2.Key) (vs : List D)
  | dt (ks : List (List L2.Key)) (vs : List D)
  | dead
  deriving Inhabited

abbrev Env := List (Option D)
abbrev Sto := List Cell

inductive R (α : Type) where
  | ok (a : α) (st : Sto)
  | err (c : Str) (st : Sto)
  | stuck

def R.bind {α β : Type} (r : R α) (f : α → Sto → R β) : R β := match r with
  | .ok a st => f a st
  | .err c st => .err c st
  | .stuck => .stuck
@[simp] theorem R.bind_ok {α β : Type} (a : α) (st : Sto) (f : α → Sto → R β) : (R.ok a st).bind f = f a st := rfl
@[simp] theorem R.bind_err {α β : Type} (c : Str) (st : Sto) (f : α → Sto → R β) : (R.err c st : R α).bind f = .err c st := rfl
@[simp] theorem R.bind_stuck {α β : Type} (f : α → Sto → R β) : (R.stuck : R α).bind f = .stuck := rfl

/-- what an expression hands on: a value, or a list that was made just now -/
inductive Val where
  | v (d : D)
  | new (ds : List D)
@[simp] def Val.d : Val → D
  | .v d => d
  | .new ds => .list ds

/-- what a statement comes to -/
inductive X where
  | nx (env : Env) (st : Sto)
  | rt (d : D) (st : Sto)
  | err (c : Str) (env : Env) (st : Sto)
  | stuck

/-! ### trees without cells -/
mutual
def D.noref : D → Bool
  | .ref _ => false
  | .list xs => norefs xs
  | .tup xs => norefs xs
  | .dk _ vs => norefs vs
  | .dt _ vs => norefs vs
  | _ => true
def norefs : List D → Bool
  | [] => true
  | x :: xs => x.noref && norefs xs
end
/-! no list, no dict that is a tree -/
mutual
def D.nolist : D → Bool
  | .list _ => false
  | .scr _ => false
  | .exc _ => false
  | .dk _ _ => false
  | .dt _ _ => false
  | .tup xs => nolists xs
  | _ => true
def nolists : List D → Bool
  | [] => true
  | x :: xs => x.nolist && nolists xs
end
def Cell.nolist : Cell → Bool
  | .lst xs => nolists xs
  | .dk _ vs => nolists vs
  | .dt _ vs => nolists vs
  | .dead => true
/-! all cells that are named stand below n -/
mutual
def D.low (n : Nat) : D → Bool
  | .ref m => decide (m < n)
  | .list xs => lows n xs
  | .tup xs => lows n xs
  | .dk _ vs => lows n vs
  | .dt _ vs => lows n vs
  | _ => true
def lows (n : Nat) : List D → Bool
  | [] => true
  | x :: xs => x.low n && lows n xs
end
def Cell.low (n : Nat) : Cell → Bool
  | .lst xs => lows n xs
  | .dk _ vs => lows n vs
  | .dt _ vs => lows n vs
  | .dead => true
/-! cells renumbered -/
mutual
def D.shift (k : Nat) : D → D
  | .ref m => .ref (m + k)
  | .list xs => .list (shifts k xs)
  | .tup xs => .tup (shifts k xs)
  | .dk ks vs => .dk ks (shifts k vs)
  | .dt ks vs => .dt ks (shifts k vs)
  | .none => .none
  | .bool b => .bool b
  | .int i => .int i
  | .str s => .str s
  | .scr ns => .scr ns
  | .exc c => .exc c
def shifts (k : Nat) : List D → List D
  | [] => []
  | x :: xs => x.shift k :: shifts k xs
end
def Cell.shift (k : Nat) : Cell → Cell
  | .lst xs => .lst (shifts k xs)
  | .dk ks vs => .dk ks (shifts k vs)
  | .dt ks vs => .dt ks (shifts k vs)
  | .dead => .dead
/-! cells read as trees -/
mutual
def D.mapRef (g : Nat → Option D) : D → Option D
  | .ref n => g n
  | .list xs => match mapRefs g xs with
    | some ys => some (.list ys)
    | Option.none => Option.none
  | .tup xs => match mapRefs g xs with
    | some ys => some (.tup ys)
    | Option.none => Option.none
  | .dk ks vs => match mapRefs g vs with
    | some ys => some (.dk ks ys)
    | Option.none => Option.none
  | .dt ks vs => match mapRefs g vs with
    | some ys => some (.dt ks ys)
    | Option.none => Option.none
  | .none => some .none
  | .bool b => some (.bool b)
  | .int i => some (.int i)
  | .str s => some (.str s)
  | .scr ns => some (.scr ns)
  | .exc c => some (.exc c)
def mapRefs (g : Nat → Option D) : List D → Option (List D)
  | [] => some []
  | x :: xs => match x.mapRef g, mapRefs g xs with
    | some y, some ys => some (y :: ys)
    | _, _ => Option.none
end
def readN : Nat → Sto → Nat → Option D
  | 0, _, _ => Option.none
  | k + 1, st, n => match st[n]? with
    | some (.lst xs) => (match mapRefs (readN k st) xs with
      | some ys => some (.list ys)
      | Option.none => Option.none)
    | _ => Option.none
/-- a value as a tree -/
def frz (st : Sto) (d : D) : Option D := d.mapRef (readN st.length st)
def frzs (st : Sto) (ds : List D) : Option (List D) := mapRefs (readN st.length st) ds

/-! ### trees compared -/
mutual
def D.py : D → PyData
  | .none => .none
  | .bool b => .bool b
  | .int i => .int i
  | .str s => .str s
  | .list xs => .list (pys xs)
  | .tup xs => .tuple (pys xs)
  | .dk _ _ => .dict []
  | .dt _ _ => .dict []
  | .ref _ => .dict []
  | .scr _ => .dict []
  | .exc _ => .dict []
def pys : List D → List PyData
  | [] => []
  | x :: xs => x.py :: pys xs
end
/-- == may be asked -/
def D.shp (d : D) : Bool := SeqAt.shaped d.py
def eqD (a b : D) : Bool := PyData.eqv a.py b.py
/-! the same tree (for a list that is walked: it must stand) -/
mutual
def D.same : D → D → Bool
  | .none, .none => true
  | .bool a, .bool b => a == b
  | .int a, .int b => a == b
  | .str a, .str b => decide (a = b)
  | .list xs, .list ys => sames xs ys
  | .tup xs, .tup ys => sames xs ys
  | .ref a, .ref b => a == b
  | _, _ => false
def sames : List D → List D → Bool
  | [], [] => true
  | x :: xs, y :: ys => x.same y && sames xs ys
  | _, _ => false
end

/-! ### terms -/
inductive BOp where
  | add | sub | mul | fdiv | mod | pow
  deriving DecidableEq
inductive COp where
  | eq | ne | lt | le | gt | ge | isin | notin | is | isnot
  deriving DecidableEq
/-- built-in functions -/
inductive BI where
  | len | range1 | range2 | listOf | tupleOf | sorted | sortedX | sortedR | setI | setX | dkI | dkX | revL | sum | any | all | max2 | maxL | minL | maxD0 | minT | dget | dgetT | dkeys | dhas (neg : Bool)
  | toInt | toStr | isinst (T : String) | dictOf | reprOf | isE (g : Str) | neg
  | tabIn (neg : Bool) (g : Str) (ks : List Str) (vs : List Int) | tabGet (g : Str) (ks : List Str) (vs : List Int) | tabGetD (g : Str) (ks : List Str) (vs : List Int) | dlitX (ks : List Str) (vs : List Int)
  deriving DecidableEq
/-- methods -/
inductive MT where
  | append | extend | pop0 | popAt | insert | remove | reverse | clear | index | count
  | split | join | find | rfind3 | countS | endswith | islower | get | sindex
  deriving DecidableEq

mutual
inductive E where
  | var (i : Nat)
  | lit (d : D)
  | glob (x : Str) (d : D)
  | bin (o : BOp) (a b : E)
  | cmp (o : COp) (a b : E)
  | chain (o p : COp) (a b c : E)
  | land (a b : E)
  | lor (a b : E)
  | lnot (a : E)
  | ite (c a b : E)
  | tup (es : Es)
  | list (es : Es)
  | ix (a b : E)
  | sl (a lo hi : E)
  | call (f : Nat) (es : Es)
  | callC (f : Nat) (es : Es)
  | callS (f : Nat) (es : Es)
  | bi (f : BI) (es : Es)
  | mt (m : MT) (o : E) (es : Es)
  | comp (elt : E) (tg : Tg) (it : It) (cond : E) (own : List Nat)
  | cell (e : E)
  | dnew (tuples : Bool)
inductive Es where
  | nil
  | cons (e : E) (es : Es)
inductive It where
  | seq (e : E)
  | range1 (a : E)
  | range2 (a b : E)
  | zip (a b : E)
inductive Tg where
  | one (i : Nat)
  | many (is : List Nat)
end

/-- a slice's part -/
def isNoneLit : E → Bool
  | .lit .none => true
  | _ => false
def partOf (e : E) (d : D) : Option (Option Int) := if isNoneLit e then some Option.none else match d with
  | .int i => some (some i)
  | _ => Option.none

inductive S where
  | set (i : Nat) (e : E)
  | unpack (is : List Nat) (e : E)
  | par2 (i j : Nat) (a b : E)
  | par3 (i j k : Nat) (a b c : E)
  | put (o i v : E)
  | dput (o i v : E)
  | expr (e : E)
  | ret (e : E)
  | retN
  | ife (c : E) (a b : List S)
  /-- .. cells that are made in the branches fall away -/
  | ifeT (c : E) (a b : List S) (tmp : List Nat)
  | for_ (tg : Tg) (it : It) (body : List S) (tmp : List Nat) (trim : Bool)
  | while_ (c : E) (body : List S) (tmp : List Nat) (trim : Bool)
  | raise (c : Str)
  | fz (i : Nat)
  /-- try: body, except the hall's error as i: suite -/
  | tryA (body : List S) (i : Nat) (suite : List S)
  /-- whatever stands here and behind: it is never come to -/
  | dead

structure Def where
  name : Str
  pars : List Str
  locs : List Str
  body : List S

/-! ### what the operations come to -/
/-- the items of a list, a tuple, a list's cell -/
def seqOf (st : Sto) : D → Option (List D)
  | .list xs => some xs
  | .scr ns => some (ns.map D.int)
  | .tup xs => some xs
  | .ref n => match st[n]? with
    | some (.lst xs) => some xs
    | _ => Option.none
  | _ => Option.none
def listOf (st : Sto) : D → Option (List D)
  | .list xs => some xs
  | .ref n => match st[n]? with
    | some (.lst xs) => some xs
    | _ => Option.none
  | _ => Option.none
def sgn (c : Nat) : D := .str ⟨#[c]⟩
def signs (s : Str) : List D := s.cps.toList.map sgn

instance (i j : Int) : Decidable (L2.CMul i j) := by unfold L2.CMul; infer_instance
instance (i j : Int) : Decidable (L2.CDivN i j) := by unfold L2.CDivN; infer_instance
instance (i j : Int) : Decidable (L2.CPow i j) := by unfold L2.CPow; infer_instance

def addV (x y : D) (st : Sto) : R Val := match x, y with
  | .int i, .int j => .ok (.v (.int (i + j))) st
  | .str a, .str b => if a.length + b.length ≤ sizeLine then .ok (.v (.str (a ++ b))) st else .stuck
  | .tup xs, .tup ys => if xs.length ≠ 0 ∧ xs.length + ys.length ≤ sizeLine then .ok (.v (.tup (xs ++ ys))) st else .stuck
  | x, y => match listOf st x, listOf st y with
    | some xs, some ys => if xs.length + ys.length ≤ sizeLine then .ok (.new (xs ++ ys)) st else .stuck
    | _, _ => .stuck
def mulV (x y : D) (st : Sto) : R Val := match x, y with
  | .int i, .int j => if L2.CMul i j then .ok (.v (.int (i * j))) st else .stuck
  | x, .int k => match listOf st x with
    | some xs => if -(2 ^ 63) ≤ k ∧ k < 2 ^ 63 ∧ xs.length * k.toNat ≤ sizeLine then .ok (.new (List.replicate k.toNat xs).flatten) st else .stuck
    | _ => .stuck
  | _, _ => .stuck
def intV (x y : D) (f : Int → Int → R Val) : R Val := match x, y with
  | .int i, .int j => f i j
  | _, _ => .stuck
def binV (o : BOp) (x y : D) (st : Sto) : R Val := match o with
  | .add => addV x y st
  | .sub => intV x y fun i j => .ok (.v (.int (i - j))) st
  | .mul => mulV x y st
  | .fdiv => intV x y fun i j => if L2.CDivN i j then .ok (.v (.int (i.fdiv j))) st else .stuck
  | .mod => intV x y fun i j => if j ≠ 0 then .ok (.v (.int (i.fmod j))) st else .stuck
  | .pow => intV x y fun i j => if L2.CPow i j then .ok (.v (.int (i ^ j.toNat))) st else .stuck

/-- the one text within the other -/
def strIn (i j : Str) : Bool := !(Builtin.Str.occurrences j i 0 j.length 1).isEmpty
def flatD : D → Bool
  | .none => true
  | .bool _ => true
  | .int _ => true
  | .str _ => true
  | _ => false
/-- x among items: of a list; of a tuple -/
def inD (st : Sto) (x y : D) : Option Bool := match y with
  | .str b => (match x with
    | .str a => some (strIn a b)
    | _ => Option.none)
  | .tup ys => if flatD x && ys.all flatD then some (ys.any fun z => eqD z x) else (match frz st x, frzs st ys with
    | some d, some ds => if d.shp && (D.tup ds).shp then some (ds.any fun z => eqD z d) else Option.none
    | _, _ => Option.none)
  | .ref n => (match st[n]?, x with
    | some (.lst _), _ => (match frz st x, frz st y with
      | some d, some (.list ds) => if d.shp && (D.list ds).shp then some (ds.any fun z => eqD z d) else Option.none
      | _, _ => Option.none)
    | _, _ => Option.none)
  | .list _ => (match frz st x, frz st y with
    | some d, some (.list ds) => if d.shp && (D.list ds).shp then some (ds.any fun z => eqD z d) else Option.none
    | _, _ => Option.none)
  | _ => Option.none
def isD (x y : D) : Option Bool := match y with
  | .none => some (match x with
    | .none => true
    | _ => false)
  | .bool c => some (match x with
    | .bool b => b == c
    | _ => false)
  | _ => Option.none
def cmpV (o : COp) (st : Sto) (x y : D) : Option Bool := match o with
  | .lt => (match x, y with
    | .int i, .int j => some (decide (i < j))
    | .str a, .str b => some (decide (a.cps.toList < b.cps.toList))
    | _, _ => Option.none)
  | .le => (match x, y with
    | .int i, .int j => some (decide (i ≤ j))
    | _, _ => Option.none)
  | .gt => (match x, y with
    | .int i, .int j => some (decide (j < i))
    | _, _ => Option.none)
  | .ge => (match x, y with
    | .int i, .int j => some (decide (j ≤ i))
    | .str a, .str b => some (!decide (a.cps.toList < b.cps.toList))
    | _, _ => Option.none)
  | .eq => (match frz st x, frz st y with
    | some a, some b => if a.shp && b.shp then some (eqD a b) else Option.none
    | _, _ => Option.none)
  | .ne => (match frz st x, frz st y with
    | some a, some b => if a.shp && b.shp then some (!eqD a b) else Option.none
    | _, _ => Option.none)
  | .isin => inD st x y
  | .notin => (inD st x y).map (!·)
  | .is => isD x y
  | .isnot => (isD x y).map (!·)
def cutA {α : Type} (xs : List α) (lo hi : Option Int) : List α := (xs.drop (HT.sIx xs.length 0 lo)).take (HT.sIx xs.length xs.length hi - HT.sIx xs.length 0 lo)
def cutS (z : Str) (lo hi : Option Int) : Str := ⟨((z.cps.toList.drop (HT.sIx z.length 0 lo)).take (HT.sIx z.length z.length hi - HT.sIx z.length 0 lo)).toArray⟩
def look {κ : Type} [BEq κ] (k : κ) : List κ → List D → Option D
  | a :: ks, v :: vs => if a == k then some v else look k ks vs
  | _, _ => Option.none
def ixV (st : Sto) (x y : D) : Option D := match y with
  | .int i => (match x with
    | .str z => if z.length ≤ sizeLine then (L2.atI z.cps.toList i).map sgn else Option.none
    | _ => (match seqOf st x with
      | some xs => L2.atI xs i
      | Option.none => Option.none))
  | _ => Option.none
def slV (x : D) (lo hi : Option Int) (st : Sto) : R Val := match x with
  | .str z => if z.length ≤ sizeLine then .ok (.v (.str (cutS z lo hi))) st else .stuck
  | .tup xs => if HT.sIx xs.length 0 lo = 0 ∧ HT.sIx xs.length xs.length hi = xs.length then .stuck else .ok (.v (.tup (cutA xs lo hi))) st
  | x => (match listOf st x with
    | some xs => .ok (.new (cutA xs lo hi)) st
    | Option.none => .stuck)

def intsOf : List D → Option (List Int)
  | [] => some []
  | .int i :: r => (intsOf r).map (i :: ·)
  | _ :: _ => Option.none
def strsOf : List D → Option (List Str)
  | [] => some []
  | .str i :: r => (strsOf r).map (i :: ·)
  | _ :: _ => Option.none
def boolsOf : List D → Option (List Bool)
  | [] => some []
  | .bool i :: r => (boolsOf r).map (i :: ·)
  | _ :: _ => Option.none
def leS (a b : Str) : Bool := decide (a.cps.toList ≤ b.cps.toList)
def sortI (l : List Int) : List Int := l.mergeSort (fun a b => decide (a ≤ b))
def sortS (l : List Str) : List Str := l.mergeSort leS
def rangeI (a : Int) (n : Nat) : List Int := (List.range n).map fun (k : Nat) => a + (k : Int)
def maxI : List Int → Int
  | [] => 0
  | x :: r => r.foldl (fun m y => if y > m then y else m) x
def minI : List Int → Int
  | [] => 0
  | x :: r => r.foldl (fun m y => if y < m then y else m) x
/-- the builtin type's name of a value -/
def tyOf (st : Sto) : D → Option String
  | .none => some "NoneType"
  | .bool _ => some "bool"
  | .int _ => some "int"
  | .str _ => some "str"
  | .list _ => some "list"
  | .scr _ => Option.none
  | .tup _ => some "tuple"
  | .dk _ _ => Option.none
  | .dt _ _ => Option.none
  | .exc _ => Option.none
  | .ref n => match st[n]? with
    | some (.lst _) => some "list"
    | _ => Option.none
def isinstT (T t : String) : Bool := T == t || (T == "int" && t == "bool")
def one (ds : List D) (f : D → R Val) : R Val := match ds with
  | [x] => f x
  | _ => .stuck
def two (ds : List D) (f : D → D → R Val) : R Val := match ds with
  | [x, y] => f x y
  | _ => .stuck
def lenV (x : D) (st : Sto) : R Val := match x with
  | .str z => if z.length ≤ sizeLine then .ok (.v (.int z.length)) st else .stuck
  | _ => (match seqOf st x with
    | some xs => .ok (.v (.int xs.length)) st
    | Option.none => .stuck)
def listV (x : D) (st : Sto) : R Val := match x with
  | .str z => if z.length ≤ sizeLine then .ok (.new (signs z)) st else .stuck
  | _ => (match seqOf st x with
    | some xs => .ok (.new xs) st
    | Option.none => .stuck)
def tupV (x : D) (st : Sto) : R Val := match x with
  | .tup xs => .ok (.v (.tup xs)) st
  | _ => (match listOf st x with
    | some xs => .ok (.v (.tup xs)) st
    | Option.none => .stuck)
def onInts (x : D) (st : Sto) (f : List Int → R Val) : R Val := match listOf st x with
  | some xs => (match intsOf xs with
    | some ns => f ns
    | Option.none => .stuck)
  | Option.none => .stuck
def onBools (x : D) (st : Sto) (f : List Bool → R Val) : R Val := match listOf st x with
  | some xs => (match boolsOf xs with
    | some ns => f ns
    | Option.none => .stuck)
  | Option.none => .stuck
def onStrs (x : D) (st : Sto) (f : List Str → R Val) : R Val := match listOf st x with
  | some xs => (match strsOf xs with
    | some ns => f ns
    | Option.none => .stuck)
  | Option.none => .stuck
/-- each once -/
def uniq {α : Type} [DecidableEq α] : List α → List α
  | [] => []
  | x :: r => if x ∈ r then uniq r else x :: uniq r
def keyD : L2.Key → D
  | .inl i => .int i
  | .inr x => .str x
/-- the first things of pairs -/
def fstOf : List D → Option (List D)
  | [] => some []
  | .tup [k, _] :: r => (match fstOf r with
    | some ks => some (k :: ks)
    | Option.none => Option.none)
  | _ :: _ => Option.none
def onKeys (x : D) (st : Sto) (f : List D → R Val) : R Val := match listOf st x with
  | some xs => (match fstOf xs with
    | some ks => f ks
    | Option.none => .stuck)
  | Option.none => .stuck
def dkIV (x : D) (st : Sto) : R Val := onKeys x st fun ks => (match intsOf ks with
  | some ns => if ns.length < 64 then .ok (.new ((sortI (uniq ns)).map D.int)) st else .stuck
  | Option.none => .stuck)
def dkXV (x : D) (st : Sto) : R Val := onKeys x st fun ks => (match strsOf ks with
  | some ns => if (uniq ns).length < 64 then .ok (.new ((sortS (uniq ns)).map D.str)) st else .stuck
  | Option.none => .stuck)
def toIntV (x : D) (st : Sto) : R Val := match x with
  | .int i => .ok (.v (.int i)) st
  | .bool b => .ok (.v (.int (if b then 1 else 0))) st
  | .str a => (match PySem.intText? a with
    | some n => if a.length ≤ 640 then .ok (.v (.int n)) st else .stuck
    | Option.none => .stuck)
  | _ => .stuck
/-- str(i) -/
def toStrV (x : D) (st : Sto) : R Val := match x with
  | .int i => if i.natAbs.log2 < 1920 then .ok (.v (.str (toString i))) st else .stuck
  | _ => .stuck
def isinstV (T : String) (x : D) (st : Sto) : R Val := match tyOf st x with
  | some t => .ok (.v (.bool (isinstT T t))) st
  | Option.none => .stuck
def range1V (x : D) (st : Sto) : R Val := match x with
  | .int n => if n ≤ sizeLine ∧ -(2 ^ 62) ≤ n then .ok (.new ((rangeI 0 n.toNat).map D.int)) st else .stuck
  | _ => .stuck
/-- a written table's entry -/
def lookS (z : Str) : List Str → List Int → Option Int
  | k :: ks, v :: vs => if (k == z) = true then some v else lookS z ks vs
  | _, _ => Option.none
def tabInV (neg : Bool) (ks : List Str) (vs : List Int) (x : D) (st : Sto) : R Val := match x with
  | .str z => .ok (.v (.bool (neg != (lookS z ks vs).isSome))) st
  | _ => .stuck
def tabGetV (ks : List Str) (vs : List Int) (x : D) (st : Sto) : R Val := match x with
  | .str z => (match lookS z ks vs with
    | some i => .ok (.v (.int i)) st
    | Option.none => .stuck)
  | _ => .stuck
/-- table.get(text, number) -/
def tabGetDV (ks : List Str) (vs : List Int) (x d : D) (st : Sto) : R Val := match x, d with
  | .str z, .int k => .ok (.v (.int ((lookS z ks vs).getD k))) st
  | _, _ => .stuck
/-- a dict's value at a key -/
def lookK {κ : Type} [DecidableEq κ] (k : κ) : List κ → List D → Option D
  | a :: ks, v :: vs => if a = k then some v else lookK k ks vs
  | _, _ => Option.none
/-- a tuple of whole numbers and texts, as a key -/
def keysOf : List D → Option (List L2.Key)
  | [] => some []
  | .int i :: r => (keysOf r).map (Sum.inl i :: ·)
  | .str x :: r => (keysOf r).map (Sum.inr x :: ·)
  | _ :: _ => Option.none
def dgetV (x y : D) (st : Sto) : R Val := match x, y with
  | .ref n, .int k => (match st[n]? with
    | some (.dk ks vs) => (match lookK (Sum.inl k : L2.Key) ks vs with
      | some v => .ok (.v v) st
      | Option.none => .stuck)
    | _ => .stuck)
  | .ref n, .str k => (match st[n]? with
    | some (.dk ks vs) => (match lookK (Sum.inr k : L2.Key) ks vs with
      | some v => .ok (.v v) st
      | Option.none => .stuck)
    | _ => .stuck)
  | _, _ => .stuck
/-- what stands at a key that is a tuple -/
def dgetTV (x y : D) (st : Sto) : R Val := match x, y with
  | .ref n, .tup es => (match st[n]?, keysOf es with
    | some (.dt ks vs), some k => (match lookK k ks vs with
      | some v => .ok (.v v) st
      | Option.none => .stuck)
    | _, _ => .stuck)
  | _, _ => .stuck
/-- what stands at a key that is a tuple, or what is handed -/
def dget2V (x y z : D) (st : Sto) : R Val := match x, y with
  | .ref n, .tup es => (match st[n]?, keysOf es with
    | some (.dt ks vs), some k => .ok (.v ((lookK k ks vs).getD z)) st
    | _, _ => .stuck)
  | _, _ => .stuck
/-- the keys of a dict whose keys are tuples -/
def dkeysV (x : D) (st : Sto) : R Val := match x with
  | .ref n => (match st[n]? with
    | some (.dt ks _) => .ok (.new (ks.map fun k => .tup (k.map keyD))) st
    | _ => .stuck)
  | _ => .stuck
def dhasV (neg : Bool) (y x : D) (st : Sto) : R Val := match x, y with
  | .ref n, .int k => (match st[n]? with
    | some (.dk ks vs) => .ok (.v (.bool (neg != (lookK (Sum.inl k : L2.Key) ks vs).isSome))) st
    | _ => .stuck)
  | .ref n, .str k => (match st[n]? with
    | some (.dk ks vs) => .ok (.v (.bool (neg != (lookK (Sum.inr k : L2.Key) ks vs).isSome))) st
    | _ => .stuck)
  | _, _ => .stuck
def setAt {α κ : Type} [DecidableEq κ] (k : κ) (z : α) : List κ → List α → List α
  | a :: ks, v :: vs => (if a = k then z else v) :: setAt k z ks vs
  | _, vs => vs
def isTupE : E → Bool
  | .tup _ => true
  | _ => false
/-- a pair of whole numbers -/
def pairI : List D → Bool
  | [.int _, .int _] => true
  | _ => false
def dputV (tk : Bool) (o i v : D) (st : Sto) : Option Sto := match o, i with
  | .ref n, .int k => (match st[n]? with
    | some (.dk ks vs) => if ks.length < sizeLine then (if (lookK (Sum.inl k : L2.Key) ks vs).isSome = true then some (st.set n (.dk ks (setAt (Sum.inl k : L2.Key) v ks vs))) else some (st.set n (.dk (ks ++ [Sum.inl k]) (vs ++ [v])))) else Option.none
    | _ => Option.none)
  | .ref n, .str k => (match st[n]? with
    | some (.dk ks vs) => if ks.length < sizeLine then (if (lookK (Sum.inr k : L2.Key) ks vs).isSome = true then some (st.set n (.dk ks (setAt (Sum.inr k : L2.Key) v ks vs))) else some (st.set n (.dk (ks ++ [Sum.inr k]) (vs ++ [v])))) else Option.none
    | _ => Option.none)
  | .ref n, .tup es => (match tk || pairI es, st[n]?, keysOf es with
    | true, some (.dt ks vs), some k => if ks.length < sizeLine then (if (lookK k ks vs).isSome = true then some (st.set n (.dt ks (setAt k v ks vs))) else some (st.set n (.dt (ks ++ [k]) (vs ++ [v])))) else Option.none
    | _, _, _ => Option.none)
  | _, _ => Option.none
def pairsOf : List D → Option (List (Int × Int))
  | [] => some []
  | .tup [.int i, .int j] :: r => (pairsOf r).map ((i, j) :: ·)
  | _ :: _ => Option.none
def pairD (p : Int × Int) : D := .tup [.int p.1, .int p.2]
def ltP (p q : Int × Int) : Bool := if p.1 = q.1 then decide (p.2 < q.2) else decide (p.1 < q.1)
/-- the first of the least pairs -/
def minP : List (Int × Int) → Int × Int
  | [] => (0, 0)
  | p :: r => r.foldl (fun a y => if ltP y a = true then y else a) p
def minTV (x : D) (st : Sto) : R Val := match listOf st x with
  | some xs => (match pairsOf xs with
    | some ps => if 0 < ps.length then .ok (.v (pairD (minP ps))) st else .stuck
    | Option.none => .stuck)
  | Option.none => (match x with
    | .tup xs => (match intsOf xs with
      | some ns => if 0 < ns.length then .ok (.v (.int (minI ns))) st else .stuck
      | Option.none => .stuck)
    | _ => .stuck)
/-- rows of whole numbers -/
def rowD (r : List Int) : D := .list (r.map D.int)
def rowsOf : List D → Option (List (List Int))
  | [] => some []
  | .list xs :: r => (match intsOf xs, rowsOf r with
    | some a, some b => some (a :: b)
    | _, _ => Option.none)
  | _ :: _ => Option.none
def sortR (rs : List (List Int)) : List (List Int) := rs.mergeSort fun p q => decide (p ≤ q)
def rowsV (x : D) (st : Sto) : R Val := match listOf st x with
  | some xs => (match rowsOf xs with
    | some rs => if rs.length < 64 then .ok (.new ((sortR rs).map rowD)) st else .stuck
    | Option.none => .stuck)
  | Option.none => .stuck
/-- the exception classes of the program: every one stands below HallError and ValueError alone -/
def isSub (c g : Str) : Bool := decide (g = "ValueError") || decide (g = "HallError") || decide (c = g)
def negV (x : D) (st : Sto) : R Val := match x with
  | .int i => .ok (.v (.int (-i))) st
  | _ => .stuck
def isEV (g : Str) (x : D) (st : Sto) : R Val := match x with
  | .exc c => .ok (.v (.bool (isSub c g))) st
  | _ => .stuck
/-- repr of a list, of a tuple -/
def boxB : D → Bool
  | .list _ => true
  | .tup _ => true
  | _ => false
def repB (d : D) : Bool := boxB d && d.shp && PyData.showable d.py && decide ((PyData.shown d.py).length ≤ sizeLine)
def reprV (x : D) (st : Sto) : R Val := match frz st x with
  | some d => if repB d = true then .ok (.v (.str (PyData.shown d.py))) st else .stuck
  | Option.none => .stuck
def zero (ds : List D) (r : R Val) : R Val := match ds with
  | [] => r
  | _ => .stuck
def biV (f : BI) (ds : List D) (st : Sto) : R Val := match f with
  | .reprOf => one ds fun x => reprV x st
  | .minT => one ds fun x => minTV x st
  | .sortedR => one ds fun x => rowsV x st
  | .dget => two ds fun x y => dgetV x y st
  | .dgetT => two ds fun x y => dgetTV x y st
  | .dkeys => one ds fun x => dkeysV x st
  | .dhas neg => two ds fun y x => dhasV neg y x st
  | .len => one ds fun x => lenV x st
  | .range1 => one ds fun x => range1V x st
  | .range2 => two ds fun x y => intV x y fun a b => if (b - a) ≤ sizeLine ∧ -(2 ^ 62) ≤ a ∧ a < 2 ^ 62 ∧ -(2 ^ 62) ≤ b ∧ b < 2 ^ 62 then .ok (.new ((rangeI a (b - a).toNat).map D.int)) st else .stuck
  | .listOf => one ds fun x => listV x st
  | .tupleOf => one ds fun x => tupV x st
  | .sorted => one ds fun x => onInts x st fun ns => if ns.length < 64 then .ok (.new ((sortI ns).map D.int)) st else .stuck
  | .sortedX => one ds fun x => onStrs x st fun ns => if ns.length < 64 then .ok (.new ((sortS ns).map D.str)) st else .stuck
  | .setX => one ds fun x => onStrs x st fun ns => if ns.length ≤ 1000 ∧ (uniq ns).length < 64 then .ok (.new ((sortS (uniq ns)).map D.str)) st else .stuck
  | .dlitX ks vs => zero ds (if ks.Nodup ∧ ks.length = vs.length ∧ ks.length ≤ 15 ∧ ks ≠ [] then .ok (.v (.ref st.length)) (st ++ [.dk (ks.map Sum.inr) (vs.map D.int)]) else .stuck)
  | .setI => one ds fun x => onInts x st fun ns => if ns.length < 64 then .ok (.new ((sortI (uniq ns)).map D.int)) st else .stuck
  | .dkI => one ds fun x => dkIV x st
  | .dkX => one ds fun x => dkXV x st
  | .revL => one ds fun x => (match listOf st x with
    | some xs => .ok (.new xs.reverse) st
    | Option.none => .stuck)
  | .sum => one ds fun x => onInts x st fun ns => .ok (.v (.int ns.sum)) st
  | .any => one ds fun x => onBools x st fun bs => .ok (.v (.bool (bs.any id))) st
  | .all => one ds fun x => onBools x st fun bs => .ok (.v (.bool (bs.all id))) st
  | .max2 => two ds fun x y => intV x y fun i j => .ok (.v (.int (if j > i then j else i))) st
  | .maxL => one ds fun x => onInts x st fun ns => if 0 < ns.length then .ok (.v (.int (maxI ns))) st else .stuck
  | .minL => one ds fun x => onInts x st fun ns => if 0 < ns.length then .ok (.v (.int (minI ns))) st else .stuck
  | .toInt => one ds fun x => toIntV x st
  | .isinst T => one ds fun x => isinstV T x st
  | .maxD0 => one ds fun x => onInts x st fun ns => .ok (.v (.int (maxI ns))) st
  | .tabIn neg _ ks vs => one ds fun x => tabInV neg ks vs x st
  | .tabGet _ ks vs => one ds fun x => tabGetV ks vs x st
  | .tabGetD _ ks vs => two ds fun x d => tabGetDV ks vs x d st
  | .toStr => one ds fun x => toStrV x st
  | .isE g => one ds fun x => isEV g x st
  | .neg => one ds fun x => negV x st
  | _ => .stuck

def putKey {κ : Type} [BEq κ] (k : κ) (v : D) : List κ → List D → List κ × List D
  | a :: ks, x :: vs => if a == k then (a :: ks, v :: vs) else let r := putKey k v ks vs; (a :: r.1, x :: r.2)
  | _, _ => ([k], [v])
def onCell (x : D) (st : Sto) (f : Nat → List D → R Val) : R Val := match x with
  | .ref n => (match st[n]? with
    | some (.lst xs) => f n xs
    | _ => .stuck)
  | _ => .stuck
def popV (xs : List D) (f : D → R Val) : R Val := match xs[xs.length - 1]? with
  | some y => f y
  | Option.none => .stuck
def popAtV (xs : List D) (y : D) (f : D → Nat → R Val) : R Val := match y with
  | .int i => if -(2 ^ 63) ≤ i ∧ i < 2 ^ 63 then (match L2.ixN xs.length i with
    | some k => (match xs[k]? with
      | some y => f y k
      | Option.none => .stuck)
    | Option.none => .stuck) else .stuck
  | _ => .stuck
def indexV (x y : D) (st : Sto) : R Val := match frz st x, frz st y with
  | some (.list ds), some d => if d.shp && (D.list ds).shp then (match ds.findIdx? (fun z => eqD z d) with
    | some j => .ok (.v (.int j)) st
    | Option.none => .stuck) else .stuck
  | _, _ => .stuck
/-- how often, in a list of bools -/
def countV (x y : D) (st : Sto) : R Val := match y with
  | .bool b => onBools x st fun bs => .ok (.v (.int (bs.count b : Nat))) st
  | _ => .stuck
/-- text.index(piece), where it is there -/
def sindexV (x y : D) (st : Sto) : R Val := match x, y with
  | .str a, .str b => (match Builtin.Str.occurrences a b 0 a.length 1 with
    | i :: _ => .ok (.v (.int (i : Nat))) st
    | [] => .stuck)
  | _, _ => .stuck
def joinV (x y : D) (st : Sto) : R Val := match x with
  | .str a => onStrs y st fun ns => if (ns.map (·.length)).sum + ns.length * a.length ≤ 16777216 then .ok (.v (.str (Txt.join a ns))) st else .stuck
  | _ => .stuck
def islowerV (x : D) (st : Sto) : R Val := match x with
  | .str a => .ok (.v (.bool (Txt.islower a))) st
  | _ => .stuck
def splitV (x y : D) (st : Sto) : R Val := match x, y with
  | .str a, .str b => if b.length ≠ 0 ∧ a.length + 2 ≤ sizeLine then .ok (.new ((Txt.split a b).map D.str)) st else .stuck
  | _, _ => .stuck
def findV (x y : D) (st : Sto) : R Val := match x, y with
  | .str a, .str b => .ok (.v (.int (Txt.find a b))) st
  | _, _ => .stuck
def countSV (x y : D) (st : Sto) : R Val := match x, y with
  | .str a, .str b => .ok (.v (.int (Txt.count a b))) st
  | _, _ => .stuck
def endsV (x y : D) (st : Sto) : R Val := match x, y with
  | .str a, .str b => .ok (.v (.bool (Txt.endswith a b))) st
  | _, _ => .stuck
def rfindV (x y i j : D) (st : Sto) : R Val := match x, y, i, j with
  | .str a, .str b, .int i, .int j => .ok (.v (.int (Txt.rfindIn a b i j))) st
  | _, _, _, _ => .stuck
def rf3V (x : D) (ds : List D) (st : Sto) : R Val := match ds with
  | [y, i, j] => rfindV x y i j st
  | _ => .stuck
def mtV (m : MT) (x : D) (ds : List D) (st : Sto) : R Val := match m with
  | .get => two ds fun y z => dget2V x y z st
  | .append => one ds fun y => onCell x st fun n xs => if xs.length < sizeLine then .ok (.v .none) (st.set n (.lst (xs ++ [y]))) else .stuck
  | .extend => one ds fun y => onCell x st fun n xs => (match listOf st y with
    | some ys => if xs.length + ys.length ≤ sizeLine then .ok (.v .none) (st.set n (.lst (xs ++ ys))) else .stuck
    | Option.none => .stuck)
  | .pop0 => zero ds (onCell x st fun n xs => popV xs fun y => .ok (.v y) (st.set n (.lst xs.dropLast)))
  | .popAt => one ds fun y => onCell x st fun n xs => popAtV xs y fun y k => .ok (.v y) (st.set n (.lst (xs.eraseIdx k)))
  | .insert => two ds fun i y => onCell x st fun n xs => (match i with
    | .int i => if xs.length < sizeLine ∧ 0 ≤ i ∧ i < 2 ^ 63 then .ok (.v .none) (st.set n (.lst (xs.take i.toNat ++ [y] ++ xs.drop i.toNat))) else .stuck
    | _ => .stuck)
  | .remove => one ds fun y => onCell x st fun n xs => (match intsOf xs, y with
    | some ns, .int k => if k ∈ ns then .ok (.v .none) (st.set n (.lst ((ns.erase k).map D.int))) else .stuck
    | _, _ => .stuck)
  | .reverse => zero ds (onCell x st fun n xs => .ok (.v .none) (st.set n (.lst xs.reverse)))
  | .clear => zero ds (onCell x st fun n xs => .ok (.v .none) (st.set n (.lst [])))
  | .index => one ds fun y => indexV x y st
  | .sindex => one ds fun y => sindexV x y st
  | .join => one ds fun y => joinV x y st
  | .islower => zero ds (islowerV x st)
  | .split => one ds fun y => splitV x y st
  | .find => one ds fun y => findV x y st
  | .countS => one ds fun y => countSV x y st
  | .endswith => one ds fun y => endsV x y st
  | .rfind3 => rf3V x ds st
  | .count => one ds fun y => countV x y st
/-- the receiver has the method -/
def mtIs (m : MT) (x : D) (st : Sto) : Bool := match m with
  | .append | .extend | .pop0 | .popAt | .insert | .remove | .reverse | .clear | .index | .count => (listOf st x).isSome
  | .get => (match x with
    | .ref n => (match st[n]? with
      | some (.dt _ _) => true
      | _ => false)
    | _ => false)
  | _ => (match x with
    | .str _ => true
    | _ => false)
def putV (o i v : D) (st : Sto) : Option Sto := match o, i with
  | .ref n, .int k => (match st[n]? with
    | some (.lst xs) => (match L2.ixN xs.length k with
      | some j => some (st.set n (.lst (xs.set j v)))
      | Option.none => Option.none)
    | _ => Option.none)
  | _, _ => Option.none

/-! ### the frame's names -/
def bindT (env : Env) : Tg → D → Option Env
  | .one i, d => some (env.set i (some d))
  | .many is, .tup ds => if is.length = ds.length then some (bindAll env is ds) else Option.none
  | .many _, _ => Option.none
where bindAll (env : Env) : List Nat → List D → Env
  | i :: is, d :: ds => bindAll (env.set i (some d)) is ds
  | _, _ => env
def wipeE (env : Env) : List Nat → Env
  | [] => env
  | v :: vs => (wipeE env vs).set v Option.none
/-- cells made in a turn are dropped -/
def envBelow (n : Nat) : Env → Bool
  | [] => true
  | some d :: r => d.low n && envBelow n r
  | Option.none :: r => envBelow n r
def fin (trim : Bool) (n : Nat) (tmp : List Nat) (env : Env) (st : Sto) : Option (Env × Sto) :=
  if trim then
    if envBelow n (wipeE env tmp) && (st.take n).all (Cell.low n) then some (wipeE env tmp, st.take n) else Option.none
  else some (wipeE env tmp, st)

/-! ### loops -/
def items (st : Sto) : D → Option (List D)
  | .str z => some (signs z)
  | d => seqOf st d
/-- what is walked stands -/
def stands (src : D) (ds : List D) (st : Sto) : Bool := match src with
  | .ref n => (match st[n]? with
    | some (.lst xs) => sames xs ds
    | _ => false)
  | _ => true
def loopF (ok : Sto → Bool) (trim : Bool) (n : Nat) (tmp : List Nat) (body : D → Env → Sto → X) : List D → Env → Sto → X
  | [], env, st => .nx env st
  | d :: ds, env, st => match body d env st with
    | .nx env' st' => (match fin trim n tmp env' st' with
      | some (env'', st'') => if ok st'' then loopF ok trim n tmp body ds env'' st'' else .stuck
      | Option.none => .stuck)
    | r => r
def loopC (ok : Sto → Bool) (f : D → Sto → R (Option D)) : List D → Sto → R (List D)
  | [], st => .ok [] st
  | d :: ds, st => match f d st with
    | .ok r st' => if ok st' then (match loopC ok f ds st' with
        | .ok ys st'' => .ok (match r with
          | some y => y :: ys
          | Option.none => ys) st''
        | _ => .stuck) else .stuck
    | _ => .stuck
def loopW (trim : Bool) (n : Nat) (tmp : List Nat) (c : Env → Sto → R Bool) (body : Env → Sto → X) : Nat → Env → Sto → X
  | 0, _, _ => .stuck
  | k + 1, env, st => match c env st with
    | .ok true st' => (match body env st' with
      | .nx env' st'' => (match fin trim n tmp env' st'' with
        | some (env3, st3) => loopW trim n tmp c body k env3 st3
        | Option.none => .stuck)
      | r => r)
    | .ok false st' => .nx env st'
    | .err e st' => .err e env st'
    | .stuck => .stuck
/-- the turns of a while that are let by -/
theorem wm_ex : ∃ n : Nat, n = 1000000 := ⟨_, rfl⟩
noncomputable def wmost : Nat := Classical.choose wm_ex
theorem wmost_eq : wmost = 1000000 := Classical.choose_spec wm_ex

abbrev CF := Nat → List D → Sto → R D
/-- a call in a frame of its own: what is handed in is read as trees, what is handed back too -/
def callP (cf : CF) (f : Nat) (ds : List D) (st : Sto) : R Val := match frzs st ds with
  | some ts => (match cf f ts [] with
    | .ok d st' => if norefs ds || flatD d || (d.nolist && st'.all Cell.nolist) then (match frz st' d with
        | some t => .ok (.v t) st
        | Option.none => .stuck) else .stuck
    | .err c _ => .err c st
    | .stuck => .stuck)
  | Option.none => .stuck
/-- the cells that a thing handed back leads to, in order; the others fall away -/
def refsOf : D → List Nat
  | .ref i => [i]
  | .tup ds => ds.filterMap fun d => match d with
    | .ref i => some i
    | _ => Option.none
  | _ => []
def keepC (st : Sto) : List Nat → Option Sto
  | [] => some []
  | j :: js => match st[j]? with
    | some (.lst ds) => if norefs ds then (match keepC st js with
      | some r => some (.lst ds :: r)
      | Option.none => Option.none) else Option.none
    | some (.dt ks ds) => if norefs ds then (match keepC st js with
      | some r => some (.dt ks ds :: r)
      | Option.none => Option.none) else Option.none
    | _ => Option.none
def keepB : Cell → Bool
  | .lst ds => norefs ds
  | .dt _ ds => norefs ds
  | _ => false
def ren (js : List Nat) (i : Nat) : Option D := if js.contains i then some (.ref (js.idxOf i)) else Option.none
def relay (d : D) (st : Sto) : Option (D × Sto) := if (refsOf d).Nodup then (match keepC st (refsOf d), d.mapRef (ren (refsOf d)) with
  | some st2, some d2 => some (d2, st2)
  | _, _ => Option.none) else Option.none
/-- .. the cells that it hands back are taken over -/
def callC (cf : CF) (f : Nat) (ds : List D) (st : Sto) : R Val := match frzs st ds with
  | some ts => (match cf f ts [] with
    | .ok d st' => (match relay d st' with
      | some (d2, st2) => if norefs ds || (d2.nolist && st2.all Cell.nolist) then .ok (.v (d2.shift st.length)) (st ++ st2.map (Cell.shift st.length)) else .stuck
      | Option.none => .stuck)
    | .err c _ => .err c st
    | .stuck => .stuck)
  | Option.none => .stuck
/-- .. over the caller's own cells -/
def callS (cf : CF) (f : Nat) (ds : List D) (st : Sto) : R Val := match cf f ds st with
  | .ok d st' => .ok (.v d) st'
  | .err c st' => .err c st'
  | .stuck => .stuck

/-- a number or none, or else a number that is written -/
def orV (b : E) (d : D) (st : Sto) : R Val := match b, d with
  | .lit (.int k), .none => .ok (.v (.int k)) st
  | .lit (.int k), .int j => .ok (.v (.int (if j = 0 then k else j))) st
  | _, _ => .stuck
mutual
def evX (cf : CF) : E → Env → Sto → R Val
  | .var i, env, st => (match env[i]? with
    | some (some d) => .ok (.v d) st
    | _ => .stuck)
  | .lit d, _, st => .ok (.v d) st
  | .glob _ d, _, st => .ok (.v d) st
  | .bin o a b, env, st => (evX cf a env st).bind fun x st => (evX cf b env st).bind fun y st => binV o x.d y.d st
  | .cmp o a b, env, st => (evX cf a env st).bind fun x st => (evX cf b env st).bind fun y st => (match cmpV o st x.d y.d with
    | some c => .ok (.v (.bool c)) st
    | Option.none => .stuck)
  | .chain o p a b c, env, st => (evX cf a env st).bind fun x st => (evX cf b env st).bind fun y st => (match cmpV o st x.d y.d with
    | some true => (evX cf c env st).bind fun z st => (match cmpV p st y.d z.d with
      | some k => .ok (.v (.bool k)) st
      | Option.none => .stuck)
    | some false => .ok (.v (.bool false)) st
    | Option.none => .stuck)
  | .land a b, env, st => (evX cf a env st).bind fun x st => (match x with
    | .v (.bool true) => evX cf b env st
    | .v (.bool false) => .ok (.v (.bool false)) st
    | _ => .stuck)
  | .lor a b, env, st => (evX cf a env st).bind fun x st => (match x with
    | .v (.bool false) => evX cf b env st
    | .v (.bool true) => .ok (.v (.bool true)) st
    | .v d => orV b d st
    | _ => .stuck)
  | .lnot a, env, st => (evX cf a env st).bind fun x st => (match x with
    | .v (.bool c) => .ok (.v (.bool (!c))) st
    | _ => .stuck)
  | .ite c a b, env, st => (evX cf c env st).bind fun x st => (match x with
    | .v (.bool true) => evX cf a env st
    | .v (.bool false) => evX cf b env st
    | _ => .stuck)
  | .tup es, env, st => (evXs cf es env st).bind fun ds st => if ds.length ≤ sizeLine then .ok (.v (.tup ds)) st else .stuck
  | .list es, env, st => (evXs cf es env st).bind fun ds st => if ds.length ≤ sizeLine then .ok (.new ds) st else .stuck
  | .ix a b, env, st => (evX cf a env st).bind fun x st => (evX cf b env st).bind fun y st => (match ixV st x.d y.d with
    | some d => .ok (.v d) st
    | Option.none => .stuck)
  | .sl a lo hi, env, st => (evX cf a env st).bind fun x st => (evX cf lo env st).bind fun l st => (match partOf lo l.d with
    | some l => (evX cf hi env st).bind fun u st => (match partOf hi u.d with
      | some u => slV x.d l u st
      | Option.none => .stuck)
    | Option.none => .stuck)
  | .call f es, env, st => (evXs cf es env st).bind fun ds st => callP cf f ds st
  | .callC f es, env, st => (evXs cf es env st).bind fun ds st => callC cf f ds st
  | .callS f es, env, st => (evXs cf es env st).bind fun ds st => callS cf f ds st
  | .bi f es, env, st => (evXs cf es env st).bind fun ds st => biV f ds st
  | .mt m o es, env, st => (evX cf o env st).bind fun x st => if mtIs m x.d st then (evXs cf es env st).bind fun ds st => mtV m x.d ds st else .stuck
  | .comp elt tg it cond own, env, st => (evI cf it env st).bind fun (src, ds) st =>
      if !stands src ds st then .stuck else (match loopC (stands src ds) (fun d st => match bindT (wipeE env own) tg d with
        | some env' => (evX cf cond env' st).bind fun c st => (match c with
          | .v (.bool true) => (evX cf elt env' st).bind fun y st => .ok (some y.d) st
          | .v (.bool false) => .ok Option.none st
          | _ => .stuck)
        | Option.none => .stuck) ds st with
      | .ok ys st => if ys.length ≤ sizeLine then .ok (.new ys) st else .stuck
      | _ => .stuck)
  | .cell e, env, st => (evX cf e env st).bind fun x st => (match x with
    | .new ds => .ok (.v (.ref st.length)) (st ++ [.lst ds])
    | _ => .stuck)
  | .dnew t, _, st => if t = false then .ok (.v (.ref st.length)) (st ++ [.dk [] []]) else .ok (.v (.ref st.length)) (st ++ [.dt [] []])
def evXs (cf : CF) : Es → Env → Sto → R (List D)
  | .nil, _, st => .ok [] st
  | .cons e es, env, st => (evX cf e env st).bind fun x st => (evXs cf es env st).bind fun xs st => .ok (x.d :: xs) st
def evI (cf : CF) : It → Env → Sto → R (D × List D)
  | .seq e, env, st => (evX cf e env st).bind fun x st => (match items st x.d with
    | some ds => .ok (x.d, ds) st
    | Option.none => .stuck)
  | .range1 a, env, st => (evX cf a env st).bind fun x st => (match x with
    | .v (.int n) => if n ≤ sizeLine ∧ -(2 ^ 62) ≤ n then .ok (.none, (rangeI 0 n.toNat).map D.int) st else .stuck
    | _ => .stuck)
  | .range2 a b, env, st => (evX cf a env st).bind fun x st => (evX cf b env st).bind fun y st => (match x, y with
    | .v (.int i), .v (.int j) => if j - i ≤ sizeLine ∧ -(2 ^ 62) ≤ i ∧ i < 2 ^ 62 ∧ -(2 ^ 62) ≤ j ∧ j < 2 ^ 62 then .ok (.none, (rangeI i (j - i).toNat).map D.int) st else .stuck
    | _, _ => .stuck)
  | .zip a b, env, st => (evX cf a env st).bind fun x st => (evX cf b env st).bind fun y st => (match x.d, y.d with
    | .list xs, .list ys => .ok (.none, List.zipWith (fun x y => D.tup [x, y]) xs ys) st
    | _, _ => .stuck)
end
/-- an expression's value as a tree or a cell -/
def evE (cf : CF) (e : E) (env : Env) (st : Sto) : R D := (evX cf e env st).bind fun x st => .ok x.d st

def R.toX {α : Type} (r : R α) (env : Env) (f : α → Sto → X) : X := match r with
  | .ok a st => f a st
  | .err c st => .err c env st
  | .stuck => .stuck
@[simp] theorem R.toX_ok {α : Type} (a : α) (st : Sto) (env : Env) (f : α → Sto → X) : (R.ok a st).toX env f = f a st := rfl
@[simp] theorem R.toX_err {α : Type} (c : Str) (st : Sto) (env : Env) (f : α → Sto → X) : (R.err c st : R α).toX env f = .err c env st := rfl
@[simp] theorem R.toX_stuck {α : Type} (env : Env) (f : α → Sto → X) : (R.stuck : R α).toX env f = .stuck := rfl
/-- a test's bool -/
def boolR (d : D) (st : Sto) : R Bool := match d with
  | .bool b => .ok b st
  | _ => .stuck
def isFz : S → Bool
  | .fz _ => true
  | _ => false
def isDead : S → Bool
  | .dead => true
  | _ => false
/-- a cell that is changed no more is a tree from then on -/
def finX (n : Nat) (tmp : List Nat) (x : X) : X := match x with
  | .nx env st => (match fin true n tmp env st with
    | some (env', st') => .nx env' st'
    | Option.none => .stuck)
  | x => x
def fzX (i : Nat) (env : Env) (st : Sto) : X := match env[i]? with
  | some (some (.ref n)) => (match st[n]? with
    | some (.lst xs) => .nx (env.set i (some (.list xs))) (st.set n .dead)
    | _ => .stuck)
  | _ => .stuck
noncomputable section
mutual
def exS (cf : CF) : S → Env → Sto → X
  | .set i e, env, st => (evE cf e env st).toX env fun d st => .nx (env.set i (some d)) st
  | .unpack is e, env, st => (evE cf e env st).toX env fun d st => (match bindT env (.many is) d with
      | some env' => .nx env' st
      | Option.none => .stuck)
  | .par2 i j a b, env, st => (evE cf a env st).toX env fun x st => (evE cf b env st).toX env fun y st => .nx ((env.set i (some x)).set j (some y)) st
  | .par3 i j k a b c, env, st => (evE cf a env st).toX env fun x st => (evE cf b env st).toX env fun y st => (evE cf c env st).toX env fun z st => .nx (((env.set i (some x)).set j (some y)).set k (some z)) st
  | .put o i v, env, st => (evE cf v env st).toX env fun z st => (evE cf o env st).toX env fun x st => (evE cf i env st).toX env fun y st => (match putV x y z st with
      | some st' => .nx env st'
      | Option.none => .stuck)
  | .dput o i v, env, st => (evE cf v env st).toX env fun z st => (evE cf o env st).toX env fun x st => (evE cf i env st).toX env fun y st => (match dputV (isTupE i) x y z st with
      | some st' => .nx env st'
      | Option.none => .stuck)
  | .expr e, env, st => (evE cf e env st).toX env fun _ st => .nx env st
  | .ret e, env, st => (evE cf e env st).toX env fun d st => .rt d st
  | .retN, _, st => .rt .none st
  | .ife c a b, env, st => (evE cf c env st).toX env fun d st => (match d with
      | .bool true => exL cf a env st
      | .bool false => exL cf b env st
      | _ => .stuck)
  | .ifeT c a b tmp, env, st => finX st.length tmp ((evE cf c env st).toX env fun d st => (match d with
      | .bool true => exL cf a env st
      | .bool false => exL cf b env st
      | _ => .stuck))
  | .for_ tg it body tmp trim, env, st => (evI cf it env st).toX env fun p st => if !stands p.1 p.2 st then .stuck else
      loopF (stands p.1 p.2) trim st.length tmp (fun d env st => match bindT env tg d with
        | some env' => exL cf body env' st
        | Option.none => .stuck) p.2 env st
  | .while_ c body tmp trim, env, st => loopW trim st.length tmp (fun env st => (evE cf c env st).bind boolR) (fun env st => exL cf body env st) wmost env st
  | .raise c, env, st => .err c env st
  | .fz i, env, st => fzX i env st
  | .tryA body i suite, env, st => (match exL cf body env st with
    | .err c env' st' => (match exL cf suite (env'.set i (some (.exc c))) st' with
      | .nx env'' st'' => .nx (env''.set i Option.none) st''
      | _ => .stuck)
    | x => x)
  | .dead, _, _ => .stuck
def exL (cf : CF) : List S → Env → Sto → X
  | [], env, st => .nx env st
  | s :: r, env, st => match exS cf s env st with
    | .nx env st => exL cf r env st
    | x => x
end
/-- a def's body -/
def runD (cf : CF) (d : Def) (args : List D) (st : Sto) : R D :=
  if args.length = d.pars.length then
    match exL cf d.body (args.map some ++ List.replicate (d.locs.length - args.length) Option.none) st with
    | .nx _ st => .ok .none st
    | .rt x st => .ok x st
    | .err c _ st => .err c st
    | .stuck => .stuck
  else .stuck
/-- the defs, to a depth of calls -/
def run (T : Nat → Option Def) : Nat → CF
  | 0 => fun _ _ _ => .stuck
  | k + 1 => fun f args st => match T f with
    | some d => runD (run T k) d args st
    | Option.none => .stuck
end
end MP

/-! What the small language's values are in the machine. -/
namespace MP
open PySem PySem.Spec PyProof.Rows L2

/-- the exception classes that the program raises -/
def exNames : List Str := ["NoWorld", "NoPlayer", "NoMark", "NoSentence", "NoRoom", "NoWay", "NoPlan", "NoPaper", "TooGreat", "NoNote"]
def kn (c : Str) : Bool := exNames.contains c
/-- a class's name -/
def clsNm (c : Str) (o : Obj) : Bool := match o.data with
  | .cls cd => decide (cd.name = c)
  | _ => false
/-- where the class of that name stands -/
def excA (K : PySem.W.Frag) (c : Str) : Option Addr := match K.find? fun p => clsNm c p.2 with
  | some p => some p.1
  | none => none
/-- an exception's object, its class by the name -/
def ExcObj (K : PySem.W.Frag) (oe : Obj) (c : Str) : Prop := kn c = true ∧ (∃ C, excA K c = some C ∧ oe.cls = .ref C) ∧ oe.dict = none ∧ ∃ vs, oe.data = .fields vs
/-- a tuple; a pair of whole numbers is no constant of the module -/
def TupK (K : PySem.W.Frag) (F : Hp) (a : Addr) (vs : List V) : Prop := SqT K F a vs ∧ ∀ i j : Int, vs = [V.int i, V.int j] → F a = some (.tup vs)
theorem tkNew {K : PySem.W.Frag} {F : Hp} {a : Addr} {vs : List V} (h : F a = some (.tup vs)) : TupK K F a vs := ⟨.inl (.inl h), fun _ _ _ => h⟩
mutual
inductive Rep (K : PySem.W.Frag) (F : Hp) (ad : List Addr) : V → D → Prop
  | none : Rep K F ad .non .none
  | bool (b : Bool) : Rep K F ad (.bl b) (.bool b)
  | int (i : Int) : Rep K F ad (.int i) (.int i)
  | str (x : Str) : Rep K F ad (.str x) (.str x)
  | scr {a : Addr} {ns : List Int} : SqL K F a (ns.map V.int) → Rep K F ad (.ref a) (.scr ns)
  | list {a : Addr} {vs : List V} {ds : List D} : F a = some (.lst vs) → Reps K F ad vs ds → Rep K F ad (.ref a) (.list ds)
  | tup {a : Addr} {vs : List V} {ds : List D} : TupK K F a vs → Reps K F ad vs ds → Rep K F ad (.ref a) (.tup ds)
  | ref {a : Addr} {n : Nat} : ad[n]? = some a → Rep K F ad (.ref a) (.ref n)
  | exc {a : Addr} {oe : Obj} {c : Str} : F a = some (.frz oe (.own a)) → ExcObj K oe c → Rep K F ad (.ref a) (.exc c)
inductive Reps (K : PySem.W.Frag) (F : Hp) (ad : List Addr) : List V → List D → Prop
  | nil : Reps K F ad [] []
  | cons {v : V} {vs : List V} {d : D} {ds : List D} : Rep K F ad v d → Reps K F ad vs ds → Reps K F ad (v :: vs) (d :: ds)
end

theorem sqlUp {K : PySem.W.Frag} {F F' : Hp} {a : Addr} {vs : List V} (le : ∀ a o, F a = some o → F' a = some o) (h : SqL K F a vs) : SqL K F' a vs := by
  rcases h with (h | ⟨o, h⟩) | h
  · exact .inl (.inl (le _ _ h))
  · exact .inl (.inr ⟨o, le _ _ h⟩)
  · exact .inr h
theorem sqtUp {K : PySem.W.Frag} {F F' : Hp} {a : Addr} {vs : List V} (le : ∀ a o, F a = some o → F' a = some o) (h : SqT K F a vs) : SqT K F' a vs := by
  rcases h with (h | ⟨o, h⟩) | h
  · exact .inl (.inl (le _ _ h))
  · exact .inl (.inr ⟨o, le _ _ h⟩)
  · exact .inr h

theorem tkUp {K : PySem.W.Frag} {F F' : Hp} {a : Addr} {vs : List V} (le : ∀ a o, F a = some o → F' a = some o) (h : TupK K F a vs) : TupK K F' a vs := ⟨sqtUp le h.1, fun i j e => le _ _ (h.2 i j e)⟩
section
variable {K : PySem.W.Frag} {F F' : Hp} {ad ad' : List Addr}
mutual
theorem Rep.up (le : ∀ a o, F a = some o → F' a = some o) (pa : ∀ (n : Nat) (a : Addr), ad[n]? = some a → ad'[n]? = some a) : ∀ {v : V} {d : D}, Rep K F ad v d → Rep K F' ad' v d
  | _, _, .none => .none
  | _, _, .bool b => .bool b
  | _, _, .int i => .int i
  | _, _, .str x => .str x
  | _, _, .scr h => .scr (sqlUp le h)
  | _, _, .list h r => .list (le _ _ h) (Reps.up le pa r)
  | _, _, .tup h r => .tup (tkUp le h) (Reps.up le pa r)
  | _, _, .ref h => .ref (pa _ _ h)
  | _, _, .exc h q => .exc (le _ _ h) q
theorem Reps.up (le : ∀ a o, F a = some o → F' a = some o) (pa : ∀ (n : Nat) (a : Addr), ad[n]? = some a → ad'[n]? = some a) : ∀ {vs : List V} {ds : List D}, Reps K F ad vs ds → Reps K F' ad' vs ds
  | _, _, .nil => .nil
  | _, _, .cons h r => .cons (Rep.up le pa h) (Reps.up le pa r)
end
theorem Reps.length : ∀ {vs : List V} {ds : List D}, Reps K F ad vs ds → vs.length = ds.length
  | _, _, .nil => rfl
  | _, _, .cons _ r => by simp [Reps.length r]
theorem Reps.get : ∀ {vs : List V} {ds : List D} {i : Nat} {d : D}, Reps K F ad vs ds → ds[i]? = some d → ∃ v, vs[i]? = some v ∧ Rep K F ad v d
  | _, _, _, _, .nil, e => by simp at e
  | _, _, 0, _, .cons h _, e => by simp at e; subst e; exact ⟨_, rfl, h⟩
  | _, _, i + 1, d, .cons _ r, e => by
    obtain ⟨v, h1, h2⟩ := Reps.get (i := i) (d := d) r (by simpa using e)
    exact ⟨v, by simpa using h1, h2⟩
theorem Reps.getV : ∀ {vs : List V} {ds : List D} {i : Nat} {v : V}, Reps K F ad vs ds → vs[i]? = some v → ∃ d, ds[i]? = some d ∧ Rep K F ad v d
  | _, _, _, _, .nil, e => by simp at e
  | _, _, 0, _, .cons h _, e => by simp at e; subst e; exact ⟨_, rfl, h⟩
  | _, _, i + 1, d, .cons _ r, e => by
    obtain ⟨v, h1, h2⟩ := Reps.getV (i := i) (v := d) r (by simpa using e)
    exact ⟨v, by simpa using h1, h2⟩
theorem Reps.append : ∀ {vs ws : List V} {ds es : List D}, Reps K F ad vs ds → Reps K F ad ws es → Reps K F ad (vs ++ ws) (ds ++ es)
  | _, _, _, _, .nil, s => s
  | _, _, _, _, .cons h r, s => .cons h (Reps.append r s)
theorem Reps.one {v : V} {d : D} (h : Rep K F ad v d) : Reps K F ad [v] [d] := .cons h .nil
theorem Reps.take : ∀ {vs : List V} {ds : List D} (n : Nat), Reps K F ad vs ds → Reps K F ad (vs.take n) (ds.take n)
  | _, _, 0, _ => .nil
  | _, _, _ + 1, .nil => .nil
  | _, _, n + 1, .cons h r => .cons h (Reps.take n r)
theorem Reps.drop : ∀ {vs : List V} {ds : List D} (n : Nat), Reps K F ad vs ds → Reps K F ad (vs.drop n) (ds.drop n)
  | _, _, 0, r => r
  | _, _, _ + 1, .nil => .nil
  | _, _, n + 1, .cons _ r => Reps.drop n r
theorem Reps.set : ∀ {vs : List V} {ds : List D} (n : Nat) {v : V} {d : D}, Reps K F ad vs ds → Rep K F ad v d → Reps K F ad (vs.set n v) (ds.set n d)
  | _, _, _, _, _, .nil, _ => .nil
  | _, _, 0, _, _, .cons _ r, h => .cons h r
  | _, _, n + 1, _, _, .cons h r, h' => .cons h (Reps.set n r h')
theorem Reps.eraseIdx : ∀ {vs : List V} {ds : List D} (n : Nat), Reps K F ad vs ds → Reps K F ad (vs.eraseIdx n) (ds.eraseIdx n)
  | _, _, _, .nil => .nil
  | _, _, 0, .cons _ r => r
  | _, _, n + 1, .cons h r => .cons h (Reps.eraseIdx n r)
theorem Reps.dropLast {vs : List V} {ds : List D} (h : Reps K F ad vs ds) : Reps K F ad vs.dropLast ds.dropLast := by
  rw [List.dropLast_eq_take, List.dropLast_eq_take, h.length]
  exact h.take _
theorem Reps.reverse : ∀ {vs : List V} {ds : List D}, Reps K F ad vs ds → Reps K F ad vs.reverse ds.reverse
  | _, _, .nil => .nil
  | _, _, .cons h r => by
    rw [List.reverse_cons, List.reverse_cons]
    exact (Reps.reverse r).append (Reps.one h)
theorem Reps.flat {vs : List V} {ds : List D} (h : Reps K F ad vs ds) : ∀ k : Nat, Reps K F ad (List.replicate k vs).flatten (List.replicate k ds).flatten
  | 0 => .nil
  | k + 1 => by
    rw [List.replicate_succ, List.replicate_succ, List.flatten_cons, List.flatten_cons]
    exact h.append (Reps.flat h k)
theorem Reps.ints : ∀ {vs : List V} {ns : List Int}, Reps K F ad vs (ns.map D.int) → vs = ns.map V.int
  | _, [], .nil => rfl
  | _, _ :: ns, .cons (.int _) r => by rw [Reps.ints (ns := ns) r]; rfl
theorem reps_ints : ∀ ns : List Int, Reps K F ad (ns.map V.int) (ns.map D.int)
  | [] => .nil
  | n :: ns => .cons (.int n) (reps_ints ns)
theorem Reps.strs : ∀ {vs : List V} {ns : List Str}, Reps K F ad vs (ns.map D.str) → vs = ns.map V.str
  | _, [], .nil => rfl
  | _, _ :: ns, .cons (.str _) r => by rw [Reps.strs (ns := ns) r]; rfl
theorem reps_strs : ∀ ns : List Str, Reps K F ad (ns.map V.str) (ns.map D.str)
  | [] => .nil
  | n :: ns => .cons (.str n) (reps_strs ns)
theorem Reps.bools : ∀ {vs : List V} {ns : List Bool}, Reps K F ad vs (ns.map D.bool) → vs = ns.map V.bl
  | _, [], .nil => rfl
  | _, _ :: ns, .cons (.bool _) r => by rw [Reps.bools (ns := ns) r]; rfl
theorem intsOf_eq : ∀ {ds : List D} {ns : List Int}, intsOf ds = some ns → ds = ns.map D.int
  | [], ns, h => by cases h; rfl
  | .int i :: r, ns, h => by
    unfold intsOf at h
    cases e : intsOf r with
    | none => rw [e] at h; cases h
    | some ms => rw [e] at h; cases h; rw [intsOf_eq e]; rfl
  | .none :: r, ns, h => by cases h
  | .bool _ :: r, ns, h => by cases h
  | .str _ :: r, ns, h => by cases h
  | .list _ :: r, ns, h => by cases h
  | .tup _ :: r, ns, h => by cases h
  | .dk _ _ :: r, ns, h => by cases h
  | .dt _ _ :: r, ns, h => by cases h
  | .scr _ :: r, ns, h => by cases h
  | .exc _ :: r, ns, h => by cases h
  | .ref _ :: r, ns, h => by cases h
theorem strsOf_eq : ∀ {ds : List D} {ns : List Str}, strsOf ds = some ns → ds = ns.map D.str
  | [], ns, h => by cases h; rfl
  | .str i :: r, ns, h => by
    unfold strsOf at h
    cases e : strsOf r with
    | none => rw [e] at h; cases h
    | some ms => rw [e] at h; cases h; rw [strsOf_eq e]; rfl
  | .none :: r, ns, h => by cases h
  | .bool _ :: r, ns, h => by cases h
  | .int _ :: r, ns, h => by cases h
  | .list _ :: r, ns, h => by cases h
  | .tup _ :: r, ns, h => by cases h
  | .dk _ _ :: r, ns, h => by cases h
  | .dt _ _ :: r, ns, h => by cases h
  | .scr _ :: r, ns, h => by cases h
  | .exc _ :: r, ns, h => by cases h
  | .ref _ :: r, ns, h => by cases h
theorem boolsOf_eq : ∀ {ds : List D} {ns : List Bool}, boolsOf ds = some ns → ds = ns.map D.bool
  | [], ns, h => by cases h; rfl
  | .bool i :: r, ns, h => by
    unfold boolsOf at h
    cases e : boolsOf r with
    | none => rw [e] at h; cases h
    | some ms => rw [e] at h; cases h; rw [boolsOf_eq e]; rfl
  | .none :: r, ns, h => by cases h
  | .int _ :: r, ns, h => by cases h
  | .str _ :: r, ns, h => by cases h
  | .list _ :: r, ns, h => by cases h
  | .tup _ :: r, ns, h => by cases h
  | .dk _ _ :: r, ns, h => by cases h
  | .dt _ _ :: r, ns, h => by cases h
  | .scr _ :: r, ns, h => by cases h
  | .exc _ :: r, ns, h => by cases h
  | .ref _ :: r, ns, h => by cases h
end

/-- a cell in the machine -/
def CellAt (K : PySem.W.Frag) (F : Hp) (ad : List Addr) (H : Hp) (a : Addr) : Cell → Prop
  | .lst ds => ∃ vs, H a = some (.lst vs) ∧ Reps K F ad vs ds
  | .dk ks ds => ∃ vs, H a = some (.dK (ks.zip vs)) ∧ ks.length = vs.length ∧ Reps K F ad vs ds
  | .dt ks ds => ∃ vs, H a = some (.dT (ks.zip vs)) ∧ ks.length = vs.length ∧ Reps K F ad vs ds
  | .dead => ∃ vs, F a = some (.lst vs) ∧ H a = some (.lst vs)
/-- F: what is never changed; ad: where the frame's cells stand -/
structure RelS (K : PySem.W.Frag) (F : Hp) (ad : List Addr) (st : Sto) (H : Hp) : Prop where
  sub : ∀ a o, F a = some o → H a = some o
  nd : ad.Nodup
  out : ∀ (n : Nat) (a : Addr), ad[n]? = some a → st[n]? ≠ some .dead → F a = none
  len : ad.length = st.length
  live : ∀ a ∈ ad, H a ≠ none
  cell : ∀ (n : Nat) (c : Cell) (a : Addr), st[n]? = some c → ad[n]? = some a → CellAt K F ad H a c
/-- from one state to a later one -/
structure Step (F : Hp) (ad : List Addr) (H : Hp) (F' : Hp) (ad' : List Addr) (H' : Hp) : Prop where
  le : ∀ a o, F a = some o → F' a = some o
  pre : ∃ more, ad' = ad ++ more
  newF : ∀ a, F a = none → F' a ≠ none → H a = none ∨ a ∈ ad ∨ ∃ xs, H a = some (.tup xs)
  newA : ∀ a ∈ ad', a ∉ ad → H a = none
  keep : ∀ a o, a ∉ ad → H a = some o → H' a = some o
  dom : ∀ a, H' a = none → H a = none
section
variable {K : PySem.W.Frag} {F F1 F2 : Hp} {ad ad1 ad2 : List Addr} {H H1 H2 : Hp} {st : Sto}
theorem Step.refl (F : Hp) (ad : List Addr) (H : Hp) : Step F ad H F ad H :=
  ⟨fun _ _ h => h, ⟨[], by simp⟩, fun a h1 h2 => absurd h1 h2, fun a h1 h2 => absurd h1 h2, fun _ _ _ h => h, fun _ h => h⟩
theorem Step.pa (s : Step F ad H F1 ad1 H1) : ∀ (n : Nat) (a : Addr), ad[n]? = some a → ad1[n]? = some a := by
  obtain ⟨m, e⟩ := s.pre
  intro n a h
  subst e
  have hn : n < ad.length := (List.getElem?_eq_some_iff.mp h).1
  rw [List.getElem?_append_left hn]; exact h
theorem Step.mem (s : Step F ad H F1 ad1 H1) {a : Addr} (h : a ∈ ad) : a ∈ ad1 := by
  obtain ⟨m, e⟩ := s.pre
  subst e
  exact List.mem_append_left _ h
theorem Step.trans (a : Step F ad H F1 ad1 H1) (b : Step F1 ad1 H1 F2 ad2 H2) : Step F ad H F2 ad2 H2 where
  le := fun x o h => b.le x o (a.le x o h)
  pre := by
    obtain ⟨m, e⟩ := a.pre
    obtain ⟨m', e'⟩ := b.pre
    exact ⟨m ++ m', by rw [e', e, List.append_assoc]⟩
  newF := fun x h1 h2 => by
    by_cases q : F1 x = none
    · rcases b.newF x q h2 with z | z | ⟨xs, z⟩
      · exact .inl (a.dom x z)
      · by_cases q2 : x ∈ ad
        · exact .inr (.inl q2)
        · exact .inl (a.newA x z q2)
      · by_cases q2 : x ∈ ad
        · exact .inr (.inl q2)
        · cases e : H x with
          | none => exact .inl rfl
          | some o =>
            have z2 := a.keep x o q2 e
            rw [z] at z2; cases z2
            exact .inr (.inr ⟨xs, rfl⟩)
    · exact a.newF x h1 q
  newA := fun x h1 h2 => by
    by_cases q : x ∈ ad1
    · exact a.newA x q h2
    · exact a.dom x (b.newA x h1 q)
  keep := fun x o h1 h2 => by
    have q : x ∉ ad1 := fun hm => by
      have := a.newA x hm h1
      rw [this] at h2; cases h2
    exact b.keep x o q (a.keep x o h1 h2)
  dom := fun x h => a.dom x (b.dom x h)
theorem Rep.step (s : Step F ad H F1 ad1 H1) {v : V} {d : D} (h : Rep K F ad v d) : Rep K F1 ad1 v d := Rep.up s.le s.pa h
theorem Reps.step (s : Step F ad H F1 ad1 H1) {v : List V} {d : List D} (h : Reps K F ad v d) : Reps K F1 ad1 v d := Reps.up s.le s.pa h
theorem CellAt.up {F' : Hp} {ad' : List Addr} {a : Addr} (le : ∀ a o, F a = some o → F' a = some o) (pa : ∀ (n : Nat) (a : Addr), ad[n]? = some a → ad'[n]? = some a) (hH : ∀ o, H a = some o → H1 a = some o) : ∀ {c : Cell}, CellAt K F ad H a c → CellAt K F' ad' H1 a c
  | .lst _, ⟨vs, h, r⟩ => ⟨vs, hH _ h, r.up le pa⟩
  | .dk _ _, ⟨vs, h, l, r⟩ => ⟨vs, hH _ h, l, r.up le pa⟩
  | .dt _ _, ⟨vs, h, l, r⟩ => ⟨vs, hH _ h, l, r.up le pa⟩
  | .dead, ⟨vs, h, h2⟩ => ⟨vs, le _ _ h, hH _ h2⟩
/-- an object laid beside all that is known -/
theorem RelS.beside {p : Addr} {o : HO} (r : RelS K F ad st H) (hp : H p = none) : RelS K F ad st (upd H p o) where
  sub := fun a u h => by rw [upd_ne (ne_of_none (r.sub a u h) hp)]; exact r.sub a u h
  nd := r.nd
  out := r.out
  len := r.len
  live := fun a h => by
    have h' := r.live a h
    by_cases e : a = p
    · rw [e, upd_same]; simp
    · rw [upd_ne e]; exact h'
  cell := fun n c a h1 h2 => (r.cell n c a h1 h2).up (fun _ _ h => h) (fun _ _ h => h) fun u hu => by rw [upd_ne (ne_of_none hu hp)]; exact hu
theorem Step.beside {p : Addr} {o : HO} (hp : H p = none) : Step F ad H F ad (upd H p o) :=
  ⟨fun _ _ h => h, ⟨[], by simp⟩, fun a h1 h2 => absurd h1 h2, fun a h1 h2 => absurd h1 h2, fun a u _ h => by rw [upd_ne (ne_of_none h hp)]; exact h,
    fun a h => by
      by_cases e : a = p
      · rw [e]; exact hp
      · rw [upd_ne e] at h; exact h⟩
/-- .. and never changed from then on; H0: the state at the start -/
theorem RelS.frozen {p : Addr} {o : HO} (r : RelS K F ad st H) (hp : H p = some o) (hf : F p = none) (ha : p ∉ ad) : RelS K (upd F p o) ad st H where
  sub := fun a u h => by
    by_cases e : a = p
    · rw [e, upd_same] at h; cases h; rw [e]; exact hp
    · rw [upd_ne e] at h; exact r.sub a u h
  nd := r.nd
  out := fun n a h hd => by
    have q : a ≠ p := fun e => ha (by rw [← e]; exact List.mem_of_getElem? h)
    rw [upd_ne q]; exact r.out n a h hd
  len := r.len
  live := r.live
  cell := fun n c a h1 h2 => (r.cell n c a h1 h2).up (fun x u h => by rw [upd_ne (ne_of_none h hf)]; exact h) (fun _ _ h => h) fun _ h => h
theorem up_frozen {p : Addr} {o : HO} (hf : F p = none) : ∀ a u, F a = some u → upd F p o a = some u := fun a u h => by rw [upd_ne (ne_of_none h hf)]; exact h
theorem Step.frozen {H0 : Hp} {F0 : Hp} {ad0 : List Addr} {p : Addr} {o : HO} (s : Step F0 ad0 H0 F ad H) (hf : F p = none) (h0 : H0 p = none) : Step F0 ad0 H0 (upd F p o) ad H where
  le := fun a u h => up_frozen hf a u (s.le a u h)
  pre := s.pre
  newF := fun a h1 h2 => by
    by_cases e : a = p
    · rw [e]; exact .inl h0
    · rw [upd_ne e] at h2; exact s.newF a h1 h2
  newA := s.newA
  keep := s.keep
  dom := s.dom
theorem app_get {α : Type} {l : List α} {x y : α} {n : Nat} (h : (l ++ [x])[n]? = some y) : l[n]? = some y ∨ (n = l.length ∧ y = x) := by
  by_cases hn : n < l.length
  · rw [List.getElem?_append_left hn] at h; exact .inl h
  · rw [List.getElem?_append_right (by omega)] at h
    have : n - l.length = 0 := by
      by_cases z : n - l.length = 0
      · exact z
      · rw [List.getElem?_singleton, if_neg z] at h; cases h
    rw [this] at h
    exact .inr ⟨by omega, by simpa using h.symm⟩
theorem pa_app {ad : List Addr} {p : Addr} : ∀ (n : Nat) (a : Addr), ad[n]? = some a → (ad ++ [p])[n]? = some a := fun n a h => by
  rw [List.getElem?_append_left (List.getElem?_eq_some_iff.mp h).1]; exact h
/-- .. or a cell from then on -/
theorem RelS.celled {p : Addr} {c : Cell} (r : RelS K F ad st H) (hl : H p ≠ none) (hf : F p = none) (ha : p ∉ ad) (hc : CellAt K F (ad ++ [p]) H p c) : RelS K F (ad ++ [p]) (st ++ [c]) H where
  sub := r.sub
  nd := by
    rw [List.nodup_append]
    exact ⟨r.nd, by simp, fun a ha' b hb e => by
      have : b = p := by simpa using hb
      subst this; subst e; exact ha ha'⟩
  out := fun n a h hd => by
    rcases app_get h with h | ⟨_, e⟩
    · refine r.out n a h fun e => hd ?_
      rw [List.getElem?_append_left (List.getElem?_eq_some_iff.mp e).1]; exact e
    · rw [e]; exact hf
  len := by simp [r.len]
  live := fun a h => by
    rcases List.mem_append.mp h with h | h
    · exact r.live a h
    · have : a = p := by simpa using h
      rw [this]; exact hl
  cell := fun n c' a h1 h2 => by
    rcases app_get h1 with h1 | ⟨e1, e2⟩
    · rcases app_get h2 with h2 | ⟨e3, _⟩
      · exact (r.cell n c' a h1 h2).up (fun _ _ h => h) pa_app fun _ h => h
      · have := (List.getElem?_eq_some_iff.mp h1).1
        have := r.len
        omega
    · rcases app_get h2 with h2 | ⟨e3, e4⟩
      · have := (List.getElem?_eq_some_iff.mp h2).1
        have := r.len
        omega
      · subst e2; subst e4; exact hc
theorem Step.celled {H0 : Hp} {F0 : Hp} {ad0 : List Addr} {p : Addr} (s : Step F0 ad0 H0 F ad H) (h0 : H0 p = none) : Step F0 ad0 H0 F (ad ++ [p]) H where
  le := s.le
  pre := by
    obtain ⟨m, e⟩ := s.pre
    exact ⟨m ++ [p], by rw [e, List.append_assoc]⟩
  newF := s.newF
  newA := fun a h1 h2 => by
    rcases List.mem_append.mp h1 with h | h
    · exact s.newA a h h2
    · have : a = p := by simpa using h
      rw [this]; exact h0
  keep := s.keep
  dom := s.dom
/-- a cell is written -/
theorem RelS.write {n : Nat} {a : Addr} {o : HO} {c : Cell} (r : RelS K F ad st H) (hb : ad[n]? = some a ∧ st[n]? ≠ some .dead) (hc : CellAt K F ad (upd H a o) a c) : RelS K F ad (st.set n c) (upd H a o) where
  sub := fun x u h => by
    have : x ≠ a := fun e => by
      subst e
      rw [r.out n x hb.1 hb.2] at h; cases h
    rw [upd_ne this]; exact r.sub x u h
  nd := r.nd
  out := fun m x h hd => by
    by_cases e : m = n
    · subst e
      rw [hb.1] at h
      cases h
      exact r.out m _ hb.1 hb.2
    · exact r.out m x h (by rw [List.getElem?_set_ne (Ne.symm e)] at hd; exact hd)
  len := by simp [r.len]
  live := fun x h => by
    by_cases e : x = a
    · rw [e, upd_same]; simp
    · rw [upd_ne e]; exact r.live x h
  cell := fun m c' x h1 h2 => by
    have ha := hb.1
    by_cases e : m = n
    · subst e
      rw [ha] at h2; cases h2
      have hm : m < st.length := by
        have := (List.getElem?_eq_some_iff.mp ha).1
        have := r.len
        omega
      rw [List.getElem?_set_self hm] at h1
      cases h1; exact hc
    · rw [List.getElem?_set_ne (Ne.symm e)] at h1
      have hx : x ≠ a := fun z => by
        subst z
        obtain ⟨l1, e1⟩ := List.getElem?_eq_some_iff.mp h2
        obtain ⟨l2, e2⟩ := List.getElem?_eq_some_iff.mp ha
        exact e ((List.getElem_inj r.nd).mp (e1.trans e2.symm))
      exact (r.cell m c' x h1 h2).up (fun _ _ h => h) (fun _ _ h => h) fun u hu => by rw [upd_ne hx]; exact hu
theorem Step.write {n : Nat} {a : Addr} {o : HO} (ha : ad[n]? = some a) : Step F ad H F ad (upd H a o) :=
  ⟨fun _ _ h => h, ⟨[], by simp⟩, fun a h1 h2 => absurd h1 h2, fun a h1 h2 => absurd h1 h2, fun x u hx h => by
    have : x ≠ a := fun e => hx (e ▸ List.mem_of_getElem? ha)
    rw [upd_ne this]; exact h, fun x h => by
    by_cases e : x = a
    · rw [e, upd_same] at h; cases h
    · rw [upd_ne e] at h; exact h⟩
theorem RelS.at (r : RelS K F ad st H) {n : Nat} {c : Cell} (h : st[n]? = some c) : ∃ a, ad[n]? = some a ∧ CellAt K F ad H a c := by
  have hn : n < ad.length := by
    have := (List.getElem?_eq_some_iff.mp h).1
    have := r.len
    omega
  exact ⟨ad[n], by simp [hn], r.cell n c _ h (by simp [hn])⟩
end

/-- the frame's names -/
structure EnvRel (K : PySem.W.Frag) (F : Hp) (ad : List Addr) (env : Env) (σ : L2.St) : Prop where
  len : env.length = σ.length
  at_ : ∀ (i : Nat) (d : D), env[i]? = some (some d) → ∃ v, σ[i]? = some (some v) ∧ Rep K F ad v d
section
variable {K : PySem.W.Frag} {F F1 : Hp} {ad ad1 : List Addr} {H H1 : Hp} {env : Env} {σ : L2.St}
theorem EnvRel.step (s : Step F ad H F1 ad1 H1) (e : EnvRel K F ad env σ) : EnvRel K F1 ad1 env σ :=
  ⟨e.len, fun i d h => let ⟨v, h1, h2⟩ := e.at_ i d h; ⟨v, h1, h2.step s⟩⟩
theorem EnvRel.set (e : EnvRel K F ad env σ) (i : Nat) {v : V} {d : D} (h : Rep K F ad v d) : EnvRel K F ad (env.set i (some d)) (σ.set i (some v)) := by
  refine ⟨by simp [e.len], fun j d' hj => ?_⟩
  by_cases q : i = j
  · subst q
    have hi : i < env.length := by
      have := (List.getElem?_eq_some_iff.mp hj).1
      simpa using this
    rw [List.getElem?_set_self hi] at hj
    cases hj
    exact ⟨v, by rw [List.getElem?_set_self (by rw [← e.len]; exact hi)], h⟩
  · rw [List.getElem?_set_ne q] at hj
    obtain ⟨v', h1, h2⟩ := e.at_ j d' hj
    exact ⟨v', by rw [List.getElem?_set_ne q]; exact h1, h2⟩
theorem wipeE_len (env : Env) : ∀ vs : List Nat, (wipeE env vs).length = env.length
  | [] => rfl
  | v :: vs => by unfold wipeE; rw [List.length_set, wipeE_len env vs]
theorem wipeE_some {env : Env} {i : Nat} {d : D} : ∀ {vs : List Nat}, (wipeE env vs)[i]? = some (some d) → env[i]? = some (some d) ∧ i ∉ vs
  | [], h => ⟨h, by simp⟩
  | v :: vs, h => by
    unfold wipeE at h
    by_cases hi : v = i
    · subst hi
      by_cases hv : v < (wipeE env vs).length
      · rw [List.getElem?_set_self hv] at h; cases h
      · rw [List.getElem?_eq_none (by simpa using hv)] at h; cases h
    · rw [List.getElem?_set_ne hi] at h
      obtain ⟨h1, h2⟩ := wipeE_some h
      exact ⟨h1, by simp only [List.mem_cons, not_or]; exact ⟨fun e => hi e.symm, h2⟩⟩
theorem wipe_keeps {σ : L2.St} {i : Nat} : ∀ {vs : List Nat}, i ∉ vs → (wipe σ vs)[i]? = σ[i]?
  | [], _ => rfl
  | v :: vs, h => by
    unfold wipe
    rw [List.getElem?_set_ne (fun e => h (by simp [e])), wipe_keeps (fun e => h (List.mem_cons_of_mem _ e))]
/-- names forgotten -/
theorem EnvRel.wipeL (e : EnvRel K F ad env σ) (vs : List Nat) : EnvRel K F ad (wipeE env vs) σ :=
  ⟨by rw [wipeE_len]; exact e.len, fun i d h => e.at_ i d (wipeE_some h).1⟩
theorem EnvRel.wipe2 (e : EnvRel K F ad env σ) (vs : List Nat) : EnvRel K F ad (wipeE env vs) (wipe σ vs) :=
  ⟨by rw [wipeE_len, wipe_length]; exact e.len, fun i d h => by
    obtain ⟨h1, h2⟩ := wipeE_some h
    obtain ⟨v, h3, h4⟩ := e.at_ i d h1
    exact ⟨v, by rw [wipe_keeps h2]; exact h3, h4⟩⟩
end

/-! ### trees read by the machine -/
section
variable {K : PySem.W.Frag} {F : Hp} {ad : List Addr} {st : Sto} {H : Hp}
mutual
theorem Rep.dp (g : Nat → Option D) (hg : ∀ (n : Nat) (t : D) (a : Addr), g n = some t → ad[n]? = some a → t.py.canLay0 = true → Dp K H (.ref a) t.py) (sub : ∀ a o, F a = some o → H a = some o) : ∀ {d : D} {v : V} {t : D}, Rep K F ad v d → d.mapRef g = some t → t.py.canLay0 = true → Dp K H v t.py
  | _, _, _, .none, h, _ => by simp only [D.mapRef, Option.some.injEq] at h; subst h; exact .non
  | _, _, _, .bool b, h, _ => by simp only [D.mapRef, Option.some.injEq] at h; subst h; exact .bl b
  | _, _, _, .int b, h, _ => by simp only [D.mapRef, Option.some.injEq] at h; subst h; exact .int b
  | _, _, _, .str b, h, _ => by simp only [D.mapRef, Option.some.injEq] at h; subst h; exact .str b
  | .list ds, _, t, .list hs r, h, l => by
    simp only [D.mapRef] at h
    cases e : mapRefs g ds with
    | none => rw [e] at h; cases h
    | some ys =>
      rw [e] at h
      simp only [Option.some.injEq] at h
      subst h
      exact .lst (SqL.of (sub _ _ hs)) (Reps.dp g hg sub r e (by simpa only [D.py, PyData.canLay0] using l))
  | .tup ds, _, t, .tup hs r, h, l => by
    simp only [D.mapRef] at h
    cases e : mapRefs g ds with
    | none => rw [e] at h; cases h
    | some ys =>
      rw [e] at h
      simp only [Option.some.injEq] at h
      subst h
      exact .tup (sqtUp sub hs.1) (Reps.dp g hg sub r e (by simpa only [D.py, PyData.canLay0] using l))
  | _, _, _, .scr _, h, l => by
    simp only [D.mapRef, Option.some.injEq] at h
    subst h
    simp only [D.py, PyData.canLay0] at l
    cases l
  | _, _, _, .exc _ _, h, l => by
    simp only [D.mapRef, Option.some.injEq] at h
    subst h
    simp only [D.py, PyData.canLay0] at l
    cases l
  | _, _, _, .ref ha, h, l => hg _ _ _ (by simpa only [D.mapRef] using h) ha l
theorem Reps.dp (g : Nat → Option D) (hg : ∀ (n : Nat) (t : D) (a : Addr), g n = some t → ad[n]? = some a → t.py.canLay0 = true → Dp K H (.ref a) t.py) (sub : ∀ a o, F a = some o → H a = some o) : ∀ {ds : List D} {vs : List V} {ts : List D}, Reps K F ad vs ds → mapRefs g ds = some ts → PyData.canLayAll0 (pys ts) = true → DpAll K H vs (pys ts)
  | [], _, _, .nil, h, _ => by simp only [mapRefs, Option.some.injEq] at h; subst h; exact .nil
  | d :: ds, _, ts, .cons h1 h2, h, l => by
    simp only [mapRefs] at h
    cases e1 : d.mapRef g with
    | none => rw [e1] at h; cases h
    | some y =>
      cases e2 : mapRefs g ds with
      | none => rw [e1, e2] at h; cases h
      | some ys =>
        rw [e1, e2] at h
        simp only [Option.some.injEq] at h
        subst h
        have l' : y.py.canLay0 = true ∧ PyData.canLayAll0 (pys ys) = true := by simpa only [pys, PyData.canLayAll0, Bool.and_eq_true] using l
        exact .cons (Rep.dp g hg sub h1 e1 l'.1) (Reps.dp g hg sub h2 e2 l'.2)
end
theorem readN_dp (r : RelS K F ad st H) : ∀ (k n : Nat) (t : D) (a : Addr), readN k st n = some t → ad[n]? = some a → t.py.canLay0 = true → Dp K H (.ref a) t.py := by
  intro k
  induction k with
  | zero => intro n t a h; cases h
  | succ k ih =>
    intro n t a h ha hd
    simp only [readN] at h
    cases e : st[n]? with
    | none => rw [e] at h; cases h
    | some c =>
      rw [e] at h
      have hc := r.cell n c a e ha
      cases c with
      | lst xs =>
        simp only at h
        cases e2 : mapRefs (readN k st) xs with
        | none => rw [e2] at h; cases h
        | some ys =>
          rw [e2] at h
          simp only [Option.some.injEq] at h
          subst h
          obtain ⟨vs, h1, h2⟩ := hc
          exact .lst (SqL.of h1) (Reps.dp _ ih r.sub h2 e2 (by simpa only [D.py, PyData.canLay0] using hd))
      | dk ks vs => cases h
      | dt ks vs => cases h
      | dead => cases h
theorem frz_dp (r : RelS K F ad st H) {v : V} {d t : D} (h : Rep K F ad v d) (e : frz st d = some t) (s : t.shp = true) : Dp K H v t.py :=
  Rep.dp _ (readN_dp r st.length) r.sub h e (SeqAt.canLay_of_shaped s)
/-- a list or a tuple read at a value -/
theorem seqOf_rep (r : RelS K F ad st H) {v : V} {d : D} {ds : List D} (h : Rep K F ad v d) (e : seqOf st d = some ds) : ∃ a vs, v = .ref a ∧ (SqL K H a vs ∨ SqT K H a vs) ∧ Reps K F ad vs ds := by
  cases h with
  | list hs hr => simp only [seqOf, Option.some.injEq] at e; subst e; exact ⟨_, _, rfl, .inl (SqL.of (r.sub _ _ hs)), hr⟩
  | scr hs => simp only [seqOf, Option.some.injEq] at e; subst e; exact ⟨_, _, rfl, .inl (sqlUp r.sub hs), reps_ints _⟩
  | tup hs hr => simp only [seqOf, Option.some.injEq] at e; subst e; exact ⟨_, _, rfl, .inr (sqtUp r.sub hs.1), hr⟩
  | ref ha =>
    simp only [seqOf] at e
    split at e
    · rename_i xs hx
      cases e
      obtain ⟨vs, h1, h2⟩ := r.cell _ _ _ hx ha
      exact ⟨_, _, rfl, .inl (SqL.of h1), h2⟩
    · cases e
  | _ => simp only [seqOf] at e; cases e
theorem listOf_rep (r : RelS K F ad st H) {v : V} {d : D} {ds : List D} (h : Rep K F ad v d) (e : listOf st d = some ds) : ∃ a vs, v = .ref a ∧ H a = some (.lst vs) ∧ Reps K F ad vs ds := by
  cases h with
  | list hs hr => simp only [listOf, Option.some.injEq] at e; subst e; exact ⟨_, _, rfl, r.sub _ _ hs, hr⟩
  | ref ha =>
    simp only [listOf] at e
    split at e
    · rename_i xs hx
      cases e
      obtain ⟨vs, h1, h2⟩ := r.cell _ _ _ hx ha
      exact ⟨_, _, rfl, h1, h2⟩
    · cases e
  | _ => simp only [listOf] at e; cases e
end
end MP

/-! The operations by values. -/
namespace MP
open PySem PySem.Spec PyProof.Rows L2

def RepX (K : PySem.W.Frag) (H0 F : Hp) (ad : List Addr) (H : Hp) (v : V) : Val → Prop
  | .v d => Rep K F ad v d
  | .new ds => ∃ p vs, v = .ref p ∧ H0 p = none ∧ H p = some (.lst vs) ∧ F p = none ∧ p ∉ ad ∧ Reps K F ad vs ds
/-- what is wanted behind an expression; cls: where the classes of errors stand; ew: what is wanted of an error -/
def OkV (K : PySem.W.Frag) (cls : Str → Option Addr) (ew : XK) (F : Hp) (ad : List Addr) (H : Hp) (r : R Val) (Q : VK) : Prop := match r with
  | .ok x st' => ∀ F' ad' H' v, Step F ad H F' ad' H' → RelS K F' ad' st' H' → RepX K H F' ad' H' v x → Q v H'
  | .err c st' => ∀ F' ad' H' a, Step F ad H F' ad' H' → RelS K F' ad' st' H' → cls c = some a → ew (.ref a) none H'
  | .stuck => False
section
variable {K : PySem.W.Frag} {cls : Str → Option Addr} {ew : XK} {F F1 : Hp} {ad ad1 : List Addr} {H H1 : Hp} {st st1 : Sto} {Q : VK}
theorem RepX.back {H0 : Hp} (dom : ∀ a, H a = none → H0 a = none) {v : V} {x : Val} {H' : Hp} (h : RepX K H F ad H' v x) : RepX K H0 F ad H' v x := by
  cases x with
  | v d => exact h
  | new ds =>
    obtain ⟨p, vs, h1, h2, h3⟩ := h
    exact ⟨p, vs, h1, dom _ h2, h3⟩
theorem OkV.step (s : Step F ad H F1 ad1 H1) {r : R Val} (h : OkV K cls ew F ad H r Q) : OkV K cls ew F1 ad1 H1 r Q := by
  cases r with
  | ok x st' => exact fun F' ad' H' v s' r' x' => h F' ad' H' v (s.trans s') r' (x'.back s.dom)
  | err c st' => exact fun F' ad' H' a s' r' e => h F' ad' H' a (s.trans s') r' e
  | stuck => exact h
/-- a list that was made just now is never changed -/
theorem freezeX {H0 F0 : Hp} {ad0 : List Addr} {v : V} {x : Val} (s : Step F0 ad0 H0 F ad H) (r : RelS K F ad st H) (h : RepX K H0 F ad H v x) : ∃ F', Step F0 ad0 H0 F' ad H ∧ RelS K F' ad st H ∧ Rep K F' ad v x.d := by
  cases x with
  | v d => exact ⟨F, s, r, h⟩
  | new ds =>
    obtain ⟨p, vs, rfl, h0, hp, hf, ha, hr⟩ := h
    exact ⟨upd F p (.lst vs), s.frozen hf h0, r.frozen hp hf ha, .list upd_same (hr.up (up_frozen hf) fun _ _ h => h)⟩
/-- .. or a cell -/
theorem cellX {H0 F0 : Hp} {ad0 : List Addr} {v : V} {ds : List D} (s : Step F0 ad0 H0 F ad H) (r : RelS K F ad st H) (h : RepX K H0 F ad H v (.new ds)) :
    ∃ p, Step F0 ad0 H0 F (ad ++ [p]) H ∧ RelS K F (ad ++ [p]) (st ++ [.lst ds]) H ∧ Rep K F (ad ++ [p]) v (.ref st.length) := by
  obtain ⟨p, vs, rfl, h0, hp, hf, ha, hr⟩ := h
  refine ⟨p, s.celled h0, r.celled (by rw [hp]; simp) hf ha ⟨vs, hp, hr.up (fun _ _ h => h) pa_app⟩, .ref ?_⟩
  rw [← r.len]; simp
/-- a value, nothing else changed -/
theorem OkV.val {d : D} {v : V} (h : OkV K cls ew F ad H (.ok (.v d) st) Q) (r : RelS K F ad st H) (q : Rep K F ad v d) : Q v H := h F ad H v (Step.refl F ad H) r q
/-- a new tuple -/
theorem OkV.tuple {ds : List D} {vs : List V} (h : OkV K cls ew F ad H (.ok (.v (.tup ds)) st) Q) (r : RelS K F ad st H) (q : Reps K F ad vs ds) {p : Addr} (hp : H p = none) : Q (.ref p) (upd H p (.tup vs)) := by
  have hf : F p = none := by
    cases e : F p with
    | none => rfl
    | some o => rw [r.sub p o e] at hp; cases hp
  have ha : p ∉ ad := fun hm => r.live p hm hp
  have s1 : Step F ad H F ad (upd H p (.tup vs)) := Step.beside hp
  exact h _ _ _ _ (s1.frozen (p := p) (o := .tup vs) hf hp) ((r.beside hp).frozen upd_same hf ha) (.tup (tkNew upd_same) (q.up (up_frozen hf) fun _ _ h => h))
/-- a new list -/
theorem OkV.list {ds : List D} {vs : List V} (h : OkV K cls ew F ad H (.ok (.new ds) st) Q) (r : RelS K F ad st H) (q : Reps K F ad vs ds) {p : Addr} (hp : H p = none) : Q (.ref p) (upd H p (.lst vs)) := by
  have hf : F p = none := by
    cases e : F p with
    | none => rfl
    | some o => rw [r.sub p o e] at hp; cases hp
  have ha : p ∉ ad := fun hm => r.live p hm hp
  exact h _ _ _ _ (Step.beside hp) (r.beside hp) ⟨p, vs, rfl, hp, upd_same, hf, ha, q⟩
/-- a cell written -/
theorem OkV.wrote {n : Nat} {a : Addr} {o : HO} {c : Cell} {d : D} {v : V} (h : OkV K cls ew F ad H (.ok (.v d) (st.set n c)) Q) (r : RelS K F ad st H) (ha : ad[n]? = some a ∧ st[n]? ≠ some .dead) (hc : CellAt K F ad (upd H a o) a c) (q : Rep K F ad v d) : Q v (upd H a o) :=
  h _ _ _ _ (Step.write ha.1) (r.write ha hc) q
end

theorem flatRep {K : PySem.W.Frag} {F : Hp} {ad : List Addr} {v : V} {d : D} (h : Rep K F ad v d) (f : flatD d = true) : flatV v = true := by
  cases h <;> first | rfl | (simp only [flatD] at f; cases f)
theorem eqRep {K : PySem.W.Frag} {F : Hp} {ad : List Addr} {v w : V} {d e : D} (h : Rep K F ad v d) (h' : Rep K F ad w e) (f : flatD d = true) (f' : flatD e = true) : eqV v w = eqD d e := by
  cases h <;> cases h' <;> first | rfl | (simp only [flatD] at f; cases f) | (simp only [flatD] at f'; cases f') | (simp only [eqV, eqD, D.py, PyData.eqv])
theorem flatReps {K : PySem.W.Frag} {F : Hp} {ad : List Addr} : ∀ {vs : List V} {ds : List D}, Reps K F ad vs ds → ds.all flatD = true → vs.all flatV = true
  | _, _, .nil, _ => rfl
  | _, _, .cons h r, f => by
    rw [List.all_cons, Bool.and_eq_true] at f
    rw [List.all_cons, flatRep h f.1, flatReps r f.2]; rfl
theorem inRep {K : PySem.W.Frag} {F : Hp} {ad : List Addr} {v : V} {d : D} (h : Rep K F ad v d) (f : flatD d = true) : ∀ {vs : List V} {ds : List D}, Reps K F ad vs ds → ds.all flatD = true → inV v vs = ds.any fun z => eqD z d
  | _, _, .nil, _ => rfl
  | _, _, .cons h' r, f' => by
    rw [List.all_cons, Bool.and_eq_true] at f'
    have ih := inRep h f r f'.2
    unfold inV at ih ⊢
    rw [List.any_cons, List.any_cons, ih, eqRep h' h f'.1 f]

section
variable {X : Cx} {cls : Str → Option Addr} {ew : XK}
/-- two values under an operator -/
def rBin (K : PySem.W.Frag) (cls : Str → Option Addr) (ew : XK) (f : D → D → Sto → R Val) : R2 := fun x y H Q => ∃ F ad st dx dy, RelS K F ad st H ∧ Rep K F ad x dx ∧ Rep K F ad y dy ∧ OkV K cls ew F ad H (f dx dy st) Q
def bopOf : BOp → Operator
  | .add => .Add
  | .sub => .Sub
  | .mul => .Mult
  | .fdiv => .FloorDiv
  | .mod => .Mod
  | .pow => .Pow


theorem OpR.imp {f : Value → Value → Sem Value} {r r' : R2} (h : OpR X f r) (i : ∀ x y H Q, r' x y H Q → r x y H Q) : OpR X f r' :=
  fun pins s σ H x y v u Q I rx ry q => h pins s σ H x y v u Q I rx ry (i x y H Q q)
theorem intV_ok {x y : D} {f : Int → Int → R Val} {F : Hp} {ad : List Addr} {H : Hp} {Q : VK} {v w : V} (ok : OkV X.K cls ew F ad H (intV x y f) Q) (hx : Rep X.K F ad v x) (hy : Rep X.K F ad w y) :
    ∃ i j, v = .int i ∧ w = .int j ∧ OkV X.K cls ew F ad H (f i j) Q := by
  unfold intV at ok
  split at ok
  · cases hx; cases hy
    exact ⟨_, _, rfl, rfl, ok⟩
  · exact ok.elim
theorem op_bin (o : BOp) : OpR X (binaryOp (bopOf o)) (rBin X.K cls ew (binV o)) := by
  intro pins s σ H x y v u Q I rx ry ⟨F, ad, st, dx, dy, r, hx, hy, ok⟩
  cases o with
  | add =>
    have ok : OkV X.K cls ew F ad H (addV dx dy st) Q := ok
    unfold addV at ok
    split at ok
    · cases hx; cases hy
      exact op_add pins s σ H _ _ v u Q I rx ry ⟨_, _, rfl, rfl, ok.val r (.int _)⟩
    · cases hx; cases hy
      split at ok
      · rename_i hz
        exact op_add_str pins s σ H _ _ v u Q I rx ry ⟨_, _, rfl, rfl, hz, ok.val r (.str _)⟩
      · exact ok.elim
    · cases hx with
      | tup h1 r1 =>
        cases hy with
        | tup h2 r2 =>
          split at ok
          · rename_i hz
            refine op_catT pins s σ H _ _ v u Q I rx ry ⟨_, _, _, _, rfl, rfl, sqtUp r.sub h1.1, sqtUp r.sub h2.1, ?_, ?_, ?_, ?_⟩
            · intro e
              subst e
              have := r1.length
              simp at this
              exact hz.1 this.symm
            · rw [r1.length, r2.length]; exact hz.2
            · intro e
              subst e
              cases r2
              rw [List.append_nil] at ok
              exact ok.val r (.tup h1 r1)
            · intro _ p hp
              exact ok.tuple r (r1.append r2) hp
          · exact ok.elim
    · split at ok
      · rename_i xs ys e1 e2
        obtain ⟨a, vs, rfl, ha, hr⟩ := listOf_rep r hx e1
        obtain ⟨b, ws, rfl, hb, hs⟩ := listOf_rep r hy e2
        split at ok
        · rename_i hz
          exact op_cat pins s σ H _ _ v u Q I rx ry ⟨_, _, _, _, rfl, rfl, ha, hb, by rw [hr.length, hs.length]; exact hz, fun p hp => ok.list r (hr.append hs) hp⟩
        · exact ok.elim
      · exact ok.elim
  | sub =>
    obtain ⟨i, j, rfl, rfl, ok⟩ := intV_ok ok hx hy
    exact op_sub pins s σ H _ _ v u Q I rx ry ⟨_, _, rfl, rfl, ok.val r (.int _)⟩
  | mul =>
    have ok : OkV X.K cls ew F ad H (mulV dx dy st) Q := ok
    unfold mulV at ok
    split at ok
    · cases hx; cases hy
      split at ok
      · rename_i hz
        exact op_mul pins s σ H _ _ v u Q I rx ry ⟨_, _, rfl, rfl, hz, ok.val r (.int _)⟩
      · exact ok.elim
    · split at ok
      · rename_i xs e1
        obtain ⟨a, vs, rfl, ha, hr⟩ := listOf_rep r hx e1
        cases hy
        split at ok
        · rename_i hz
          exact op_rep pins s σ H _ _ v u Q I rx ry ⟨_, _, _, rfl, rfl, ha, hz.1, hz.2.1, by rw [hr.length]; exact hz.2.2, fun p hp => ok.list r (hr.flat _) hp⟩
        · exact ok.elim
      · exact ok.elim
    · exact ok.elim
  | fdiv =>
    obtain ⟨i, j, rfl, rfl, ok⟩ := intV_ok ok hx hy
    by_cases hz : CDivN i j
    · rw [if_pos hz] at ok
      exact op_fdivN pins s σ H _ _ v u Q I rx ry ⟨_, _, rfl, rfl, hz, ok.val r (.int _)⟩
    · rw [if_neg hz] at ok; exact ok.elim
  | mod =>
    obtain ⟨i, j, rfl, rfl, ok⟩ := intV_ok ok hx hy
    by_cases hz : j ≠ 0
    · rw [if_pos hz] at ok
      exact op_modN pins s σ H _ _ v u Q I rx ry ⟨_, _, rfl, rfl, hz, ok.val r (.int _)⟩
    · rw [if_neg hz] at ok; exact ok.elim
  | pow =>
    obtain ⟨i, j, rfl, rfl, ok⟩ := intV_ok ok hx hy
    by_cases hz : CPow i j
    · rw [if_pos hz] at ok
      exact op_pow pins s σ H _ _ v u Q I rx ry ⟨_, _, rfl, rfl, hz, ok.val r (.int _)⟩
    · rw [if_neg hz] at ok; exact ok.elim

/-! ### comparisons -/
def rCmp (K : PySem.W.Frag) (o : COp) : R2 := fun x y H Q => ∃ F ad st dx dy, RelS K F ad st H ∧ Rep K F ad x dx ∧ Rep K F ad y dy ∧ ∃ c, cmpV o st dx dy = some c ∧ Q (.bl c) H
def copOf : COp → CmpOp
  | .eq => .Eq
  | .ne => .NotEq
  | .lt => .Lt
  | .le => .LtE
  | .gt => .Gt
  | .ge => .GtE
  | .isin => .In
  | .notin => .NotIn
  | .is => .Is
  | .isnot => .IsNot
theorem opt_map_not {o : Option Bool} {c : Bool} (h : o.map (!·) = some c) : ∃ b, o = some b ∧ c = !b := by
  cases o with
  | none => cases h
  | some b => exact ⟨b, rfl, by simpa using h.symm⟩
theorem RelV.beq_bool {x : V} {v : Value} (r : RelV x v) (c : Bool) : (v == Value.bool c) = decide (x = .bl c) := by
  cases x with
  | non => cases r; rfl
  | bl b => cases r; cases b <;> cases c <;> rfl
  | int _ => obtain ⟨t, rfl⟩ := r; rfl
  | str _ => obtain ⟨t, rfl⟩ := r; rfl
  | byt _ => obtain ⟨t, rfl⟩ := r; rfl
  | flt _ => obtain ⟨t, rfl⟩ := r; rfl
  | ref _ => cases r; rfl
  | ty _ => cases r; rfl
theorem plain_bool {x : V} {v : Value} (r : RelV x v) (c : Bool) : plainIs v (.bool c) = true := by
  cases x with
  | non => cases r; rfl
  | bl b => cases r; rfl
  | int _ => obtain ⟨t, rfl⟩ := r; rfl
  | str _ => obtain ⟨t, rfl⟩ := r; rfl
  | byt _ => obtain ⟨t, rfl⟩ := r; rfl
  | flt _ => obtain ⟨t, rfl⟩ := r; rfl
  | ref _ => cases r; rfl
  | ty _ => cases r; rfl
theorem op_isB : OpR X (compareOp .Is) (fun x y H Q => ∃ c, y = .bl c ∧ Q (.bl (decide (x = .bl c))) H) := by
  intro pins s σ H x y v u Q I rx ry ⟨c, e, q⟩
  subst e
  cases ry
  exact wpAny_is_plain (plain_bool rx c) (by rw [RelV.beq_bool rx c]; exact ⟨.bl _, H, I, rfl, q⟩)
theorem op_isnotB : OpR X (compareOp .IsNot) (fun x y H Q => ∃ c, y = .bl c ∧ Q (.bl (!decide (x = .bl c))) H) := by
  intro pins s σ H x y v u Q I rx ry ⟨c, e, q⟩
  subst e
  cases ry
  exact wpAny_isNot_plain (plain_bool rx c) (by rw [RelV.beq_bool rx c]; exact ⟨.bl _, H, I, rfl, q⟩)
theorem isD_rep {K : PySem.W.Frag} {F : Hp} {ad : List Addr} {v w : V} {d e : D} {b : Bool} (h : Rep K F ad v d) (h' : Rep K F ad w e) (q : isD d e = some b) :
    (w = .non ∧ b = decide (v = .non)) ∨ ∃ c, w = .bl c ∧ b = decide (v = .bl c) := by
  cases h' with
  | none =>
    refine .inl ⟨rfl, ?_⟩
    simp only [isD, Option.some.injEq] at q
    rw [← q]
    cases h <;> simp
  | bool c =>
    refine .inr ⟨c, rfl, ?_⟩
    simp only [isD, Option.some.injEq] at q
    rw [← q]
    cases h with
    | bool b' => cases b' <;> cases c <;> rfl
    | _ => simp
  | _ => simp only [isD] at q; cases q
/-- x in y -/
theorem in_ok (hu : X.A.units + 65 < cLine) {pins : List (Addr × Obj)} {s : Shared} {σ : L2.St} {H : Hp} {x y : V} {v u : Value} {F : Hp} {ad : List Addr} {st : Sto} {dx dy : D} {c : Bool}
    (I : L2.Inv X pins σ H s) (rx : L2.RelV x v) (ry : L2.RelV y u) (r : RelS X.K F ad st H) (hx : Rep X.K F ad x dx) (hy : Rep X.K F ad y dy) (e : inD st dx dy = some c) :
    (∀ Q : VK, Q (.bl c) H → wpAny (model X.prog X.w) X.A (compareOp .In v u) (EP X pins σ Q) X.xe s) ∧ (∀ Q : VK, Q (.bl (!c)) H → wpAny (model X.prog X.w) X.A (compareOp .NotIn v u) (EP X pins σ Q) X.xe s) := by
  have deep : ∀ {d : D} {ds : List D}, frz st dx = some d → frz st dy = some (.list ds) → (d.shp && (D.list ds).shp) = true → c = (ds.any fun z => eqD z d) →
      (∀ Q : VK, Q (.bl c) H → wpAny (model X.prog X.w) X.A (compareOp .In v u) (EP X pins σ Q) X.xe s) ∧ (∀ Q : VK, Q (.bl (!c)) H → wpAny (model X.prog X.w) X.A (compareOp .NotIn v u) (EP X pins σ Q) X.xe s) := by
    intro d ds e1 e2 e3 e4
    rw [Bool.and_eq_true] at e3
    have d1 := frz_dp r hx e1 e3.1
    have d2 : Dp X.K H y (.list (pys ds)) := by simpa only [D.py] using frz_dp r hy e2 e3.2
    have sh : SeqAt.shaped (.list (pys ds)) = true := by simpa only [D.shp, D.py] using e3.2
    have ec : ((pys ds).any fun z => PyData.eqv z d.py) = c := by
      rw [e4]
      clear e1 e2 e3 e4 d1 d2 sh
      induction ds with
      | nil => rfl
      | cons a l ih => simp only [pys, List.any_cons, ih, eqD]
    exact ⟨fun Q q => op_inD hu pins s σ H x y v u Q I rx ry ⟨_, _, d1, d2, e3.1, sh, by rw [ec]; exact q⟩, fun Q q => op_notInD hu pins s σ H x y v u Q I rx ry ⟨_, _, d1, d2, e3.1, sh, by rw [ec]; exact q⟩⟩
  have deepT : ∀ {d : D} {ds : List D}, frz st dx = some d → frz st dy = some (.tup ds) → (d.shp && (D.tup ds).shp) = true → c = (ds.any fun z => eqD z d) →
      (∀ Q : VK, Q (.bl c) H → wpAny (model X.prog X.w) X.A (compareOp .In v u) (EP X pins σ Q) X.xe s) ∧ (∀ Q : VK, Q (.bl (!c)) H → wpAny (model X.prog X.w) X.A (compareOp .NotIn v u) (EP X pins σ Q) X.xe s) := by
    intro d ds e1 e2 e3 e4
    rw [Bool.and_eq_true] at e3
    have d1 := frz_dp r hx e1 e3.1
    have d2 : Dp X.K H y (.tuple (pys ds)) := by simpa only [D.py] using frz_dp r hy e2 e3.2
    have sh : SeqAt.shaped (.tuple (pys ds)) = true := by simpa only [D.shp, D.py] using e3.2
    have ec : ((pys ds).any fun z => PyData.eqv z d.py) = c := by
      rw [e4]
      clear e1 e2 e3 e4 d1 d2 sh
      induction ds with
      | nil => rfl
      | cons a l ih => simp only [pys, List.any_cons, ih, eqD]
    obtain ⟨as, r1⟩ := Dp.reads I _ x v d1 rx
    obtain ⟨bs, r2⟩ := Dp.reads I _ y u d2 ry
    exact ⟨fun Q q => SeqAt.in_tuple_reads r2 r1 (SeqAt.canLay_of_shaped sh) (SeqAt.canLay_of_shaped e3.1) (room_in_shaped e3.1 hu) ⟨.bl _, H, I, rfl, by rw [ec]; exact q⟩,
      fun Q q => SeqAt.notIn_tuple_reads r2 r1 (SeqAt.canLay_of_shaped sh) (SeqAt.canLay_of_shaped e3.1) (room_in_shaped e3.1 hu) ⟨.bl _, H, I, rfl, by rw [ec]; exact q⟩⟩
  unfold inD at e
  split at e
  · split at e
    · cases hx; cases hy
      cases e
      exact ⟨fun Q q => op_in_str pins s σ H _ _ v u Q I rx ry ⟨_, _, rfl, rfl, q⟩, fun Q q => op_notin_str pins s σ H _ _ v u Q I rx ry ⟨_, _, rfl, rfl, q⟩⟩
    · cases e
  · split at e
    · rename_i ys hf
      cases e
      rw [Bool.and_eq_true] at hf
      cases hy with
      | tup hs hr =>
        have ei := inRep hx hf.1 hr hf.2
        exact ⟨fun Q q => op_in_seq pins s σ H _ _ v u Q I rx ry ⟨_, _, rfl, .inr (sqtUp r.sub hs.1), flatRep hx hf.1, flatReps hr hf.2, by
            rw [if_neg Bool.false_ne_true, ei]; exact q⟩,
          fun Q q => op_notIn_seq pins s σ H _ _ v u Q I rx ry ⟨_, _, rfl, .inr (sqtUp r.sub hs.1), flatRep hx hf.1, flatReps hr hf.2, by
            rw [if_pos rfl, ei]; exact q⟩⟩
    · split at e
      · rename_i e1 e2
        split at e
        · rename_i e3
          cases e
          exact deepT e1 (by
            show D.mapRef (readN st.length st) (.tup _) = _
            unfold frzs at e2
            simp only [D.mapRef, e2]) e3 rfl
        · cases e
      · cases e
  · split at e
    · split at e
      · rename_i e1 e2
        split at e
        · rename_i e3
          cases e
          exact deep e1 e2 e3 rfl
        · cases e
      · cases e
    · cases e
  · split at e
    · rename_i e1 e2
      split at e
      · rename_i e3
        cases e
        exact deep e1 e2 e3 rfl
      · cases e
    · cases e
  · cases e
theorem op_cmp (hu : X.A.units + 65 < cLine) (o : COp) : OpR X (compareOp (copOf o)) (rCmp X.K o) := by
  intro pins s σ H x y v u Q I rx ry ⟨F, ad, st, dx, dy, r, hx, hy, c, e, q⟩
  cases o with
  | eq =>
    simp only [cmpV] at e
    split at e
    · rename_i a b e1 e2
      split at e
      · rename_i e3
        rw [Bool.and_eq_true] at e3
        cases e
        exact op_eqD (by omega) pins s σ H x y v u Q I rx ry ⟨_, _, frz_dp r hx e1 e3.1, frz_dp r hy e2 e3.2, e3.1, e3.2, q⟩
      · cases e
    · cases e
  | ne =>
    simp only [cmpV] at e
    split at e
    · rename_i a b e1 e2
      split at e
      · rename_i e3
        rw [Bool.and_eq_true] at e3
        cases e
        exact op_neD (by omega) pins s σ H x y v u Q I rx ry ⟨_, _, frz_dp r hx e1 e3.1, frz_dp r hy e2 e3.2, e3.1, e3.2, q⟩
      · cases e
    · cases e
  | lt =>
    simp only [cmpV] at e
    split at e
    · cases hx; cases hy; cases e
      exact op_lt pins s σ H _ _ v u Q I rx ry ⟨_, _, rfl, rfl, q⟩
    · cases hx; cases hy; cases e
      exact op_lt_str pins s σ H _ _ v u Q I rx ry ⟨_, _, rfl, rfl, q⟩
    · cases e
  | le =>
    simp only [cmpV] at e
    split at e
    · cases hx; cases hy; cases e
      exact op_le pins s σ H _ _ v u Q I rx ry ⟨_, _, rfl, rfl, q⟩
    · cases e
  | gt =>
    simp only [cmpV] at e
    split at e
    · cases hx; cases hy; cases e
      exact op_gt pins s σ H _ _ v u Q I rx ry ⟨_, _, rfl, rfl, q⟩
    · cases e
  | ge =>
    simp only [cmpV] at e
    split at e
    · cases hx; cases hy; cases e
      exact op_ge pins s σ H _ _ v u Q I rx ry ⟨_, _, rfl, rfl, q⟩
    · cases hx; cases hy; cases e
      obtain ⟨t, rfl⟩ := rx
      obtain ⟨t', rfl⟩ := ry
      exact PySem.P.ge_str (fin_bl I q rfl)
    · cases e
  | isin =>
    exact (in_ok hu I rx ry r hx hy e).1 Q q
  | notin =>
    obtain ⟨b, e1, rfl⟩ := opt_map_not e
    exact (in_ok hu I rx ry r hx hy e1).2 Q q
  | is =>
    rcases isD_rep hx hy e with ⟨rfl, rfl⟩ | ⟨b, rfl, rfl⟩
    · exact op_isN pins s σ H _ _ v u Q I rx ry ⟨rfl, q⟩
    · exact op_isB pins s σ H _ _ v u Q I rx ry ⟨b, rfl, q⟩
  | isnot =>
    obtain ⟨c', e1, rfl⟩ := opt_map_not e
    rcases isD_rep hx hy e1 with ⟨rfl, rfl⟩ | ⟨b, rfl, rfl⟩
    · exact op_notN pins s σ H _ _ v u Q I rx ry ⟨rfl, q⟩
    · exact op_isnotB pins s σ H _ _ v u Q I rx ry ⟨b, rfl, q⟩

/-! ### subscripts -/
def rIxD (K : PySem.W.Frag) : R2 := fun x y H Q => ∃ F ad st dx dy d, RelS K F ad st H ∧ Rep K F ad x dx ∧ Rep K F ad y dy ∧ ixV st dx dy = some d ∧ ∀ v, Rep K F ad v d → Q v H
theorem atI_rep {K : PySem.W.Frag} {F : Hp} {ad : List Addr} {vs : List V} {ds : List D} {i : Int} {d : D} (h : Reps K F ad vs ds) (e : atI ds i = some d) : ∃ v, atI vs i = some v ∧ Rep K F ad v d := by
  unfold atI at e ⊢
  rw [h.length]
  cases q : ixN ds.length i with
  | none => rw [q] at e; cases e
  | some j =>
    rw [q] at e
    obtain ⟨v, h1, h2⟩ := h.get (i := j) (d := d) e
    exact ⟨v, h1, h2⟩
theorem ix_D : IxR X (rIxD X.K) := by
  intro value slice pins s σ H x y v u Q I rx ry ⟨F, ad, st, dx, dy, d, r, hx, hy, e, q⟩ hs
  unfold ixV at e
  split at e
  · cases hy
    split at e
    · cases hx
      split at e
      · rename_i hz
        obtain ⟨c, e1, e2⟩ := Option.map_eq_some_iff.mp e
        subst e2
        exact ix_str value slice pins s σ H _ _ v u Q I rx ry ⟨_, _, _, rfl, rfl, hz, e1, q _ (.str _)⟩ hs
      · cases e
    · split at e
      · rename_i xs hq
        obtain ⟨a, vs, rfl, ha, hr⟩ := seqOf_rep r hx hq
        obtain ⟨w, h1, h2⟩ := atI_rep hr e
        rcases ha with ha | ha
        · exact ix_list value slice pins s σ H _ _ v u Q I rx ry ⟨_, _, _, _, rfl, rfl, ha, h1, q _ h2⟩ hs
        · exact ix_tup value slice pins s σ H _ _ v u Q I rx ry ⟨_, _, _, _, rfl, rfl, ha, h1, q _ h2⟩ hs
      · cases e
  · cases e

/-! ### slices -/
def rSlD (K : PySem.W.Frag) (cls : Str → Option Addr) (ew : XK) : V → Option Int → Option Int → Hp → VK → Prop := fun x lo hi H Q => ∃ F ad st dx, RelS K F ad st H ∧ Rep K F ad x dx ∧ OkV K cls ew F ad H (slV dx lo hi st) Q
theorem cutA_len {α β : Type} {xs : List α} {ys : List β} (h : xs.length = ys.length) (lo hi : Option Int) : (HT.sIx xs.length 0 lo = HT.sIx ys.length 0 lo) ∧ HT.sIx xs.length xs.length hi = HT.sIx ys.length ys.length hi := by rw [h]; exact ⟨rfl, rfl⟩
theorem cut_rep {K : PySem.W.Frag} {F : Hp} {ad : List Addr} {vs : List V} {ds : List D} (h : Reps K F ad vs ds) (lo hi : Option Int) : Reps K F ad (cutV vs lo hi) (cutA ds lo hi) := by
  unfold cutV cutA
  rw [h.length]
  exact (h.drop _).take _
theorem sl_D : SlR X (rSlD X.K cls ew) := by
  intro pins s σ H x v vl vu lo hi sl Q I rx hs pl pu ⟨F, ad, st, dx, r, hx, ok⟩
  unfold slV at ok
  split at ok
  · cases hx
    split at ok
    · rename_i hz
      exact sl_str pins s σ H _ v vl vu lo hi sl Q I rx hs pl pu ⟨_, rfl, hz, ok.val r (.str _)⟩
    · exact ok.elim
  · cases hx with
    | tup h1 r1 =>
      split at ok
      · exact ok.elim
      · rename_i hw
        exact sl_tup pins s σ H _ v vl vu lo hi sl Q I rx hs pl pu ⟨_, _, rfl, sqtUp r.sub h1.1, by rw [r1.length]; exact hw, fun p hp => ok.tuple r (cut_rep r1 lo hi) hp⟩
  · split at ok
    · rename_i xs e
      obtain ⟨a, vs, rfl, ha, hr⟩ := listOf_rep r hx e
      exact sl_list pins s σ H _ v vl vu lo hi sl Q I rx hs pl pu ⟨_, _, rfl, SqL.of ha, fun p hp => ok.list r (cut_rep hr lo hi) hp⟩
    · exact ok.elim
end
end MP

/-! The built-in functions and methods by values. -/
namespace MP
open PySem PySem.Spec PyProof.Rows L2
section
variable {X : Cx} {cls : Str → Option Addr} {ew : XK}
def rBi (K : PySem.W.Frag) (cls : Str → Option Addr) (ew : XK) (f : List D → Sto → R Val) : List V → Hp → VK → Prop := fun vs H Q => ∃ F ad st ds, RelS K F ad st H ∧ Reps K F ad vs ds ∧ OkV K cls ew F ad H (f ds st) Q
theorem Rep.one {K : PySem.W.Frag} {F : Hp} {ad : List Addr} {v : V} {d : D} (h : Rep K F ad v d) : Reps K F ad [v] [d] := .cons h .nil
theorem Reps.one_of {K : PySem.W.Frag} {F : Hp} {ad : List Addr} {vs : List V} {d : D} (h : Reps K F ad vs [d]) : ∃ v, vs = [v] ∧ Rep K F ad v d := by
  cases h with
  | cons h r => cases r; exact ⟨_, rfl, h⟩
theorem Reps.two_of {K : PySem.W.Frag} {F : Hp} {ad : List Addr} {vs : List V} {d e : D} (h : Reps K F ad vs [d, e]) : ∃ v w, vs = [v, w] ∧ Rep K F ad v d ∧ Rep K F ad w e := by
  cases h with
  | cons h r =>
    obtain ⟨w, rfl, h2⟩ := Reps.one_of r
    exact ⟨_, _, rfl, h, h2⟩
theorem Reps.nil_of {K : PySem.W.Frag} {F : Hp} {ad : List Addr} {vs : List V} (h : Reps K F ad vs []) : vs = [] := by
  cases h; rfl

theorem one_ok {ds : List D} {f : D → R Val} {F : Hp} {ad : List Addr} {H : Hp} {Q : VK} {vs : List V} (ok : OkV X.K cls ew F ad H (one ds f) Q) (h : Reps X.K F ad vs ds) : ∃ v d, vs = [v] ∧ Rep X.K F ad v d ∧ OkV X.K cls ew F ad H (f d) Q := by
  unfold one at ok
  split at ok
  · obtain ⟨v, rfl, hx⟩ := Reps.one_of h
    exact ⟨v, _, rfl, hx, ok⟩
  · exact ok.elim
theorem two_ok {ds : List D} {f : D → D → R Val} {F : Hp} {ad : List Addr} {H : Hp} {Q : VK} {vs : List V} (ok : OkV X.K cls ew F ad H (two ds f) Q) (h : Reps X.K F ad vs ds) : ∃ v w d e, vs = [v, w] ∧ Rep X.K F ad v d ∧ Rep X.K F ad w e ∧ OkV X.K cls ew F ad H (f d e) Q := by
  unfold two at ok
  split at ok
  · obtain ⟨v, w, rfl, hx, hy⟩ := Reps.two_of h
    exact ⟨v, w, _, _, rfl, hx, hy, ok⟩
  · exact ok.elim
theorem zero_ok {ds : List D} {r : R Val} {F : Hp} {ad : List Addr} {H : Hp} {Q : VK} {vs : List V} (ok : OkV X.K cls ew F ad H (zero ds r) Q) (h : Reps X.K F ad vs ds) : vs = [] ∧ OkV X.K cls ew F ad H r Q := by
  unfold zero at ok
  split at ok
  · exact ⟨Reps.nil_of h, ok⟩
  · exact ok.elim
theorem onInts_ok {x : D} {st : Sto} {f : List Int → R Val} {F : Hp} {ad : List Addr} {H : Hp} {Q : VK} {v : V} (ok : OkV X.K cls ew F ad H (onInts x st f) Q) (r : RelS X.K F ad st H) (h : Rep X.K F ad v x) : ∃ a ns, v = .ref a ∧ H a = some (.lst (ns.map V.int)) ∧ OkV X.K cls ew F ad H (f ns) Q := by
  unfold onInts at ok
  split at ok
  · rename_i xs e
    obtain ⟨a, vs, rfl, ha, hr⟩ := listOf_rep r h e
    split at ok
    · rename_i ns en
      rw [intsOf_eq en] at hr
      have := hr.ints
      subst this
      exact ⟨a, ns, rfl, ha, ok⟩
    · exact ok.elim
  · exact ok.elim
theorem onBools_ok {x : D} {st : Sto} {f : List Bool → R Val} {F : Hp} {ad : List Addr} {H : Hp} {Q : VK} {v : V} (ok : OkV X.K cls ew F ad H (onBools x st f) Q) (r : RelS X.K F ad st H) (h : Rep X.K F ad v x) : ∃ a ns, v = .ref a ∧ H a = some (.lst (ns.map V.bl)) ∧ OkV X.K cls ew F ad H (f ns) Q := by
  unfold onBools at ok
  split at ok
  · rename_i xs e
    obtain ⟨a, vs, rfl, ha, hr⟩ := listOf_rep r h e
    split at ok
    · rename_i ns en
      rw [boolsOf_eq en] at hr
      have := hr.bools
      subst this
      exact ⟨a, ns, rfl, ha, ok⟩
    · exact ok.elim
  · exact ok.elim
theorem ite_ok {c : Prop} [Decidable c] {r : R Val} {F : Hp} {ad : List Addr} {H : Hp} {Q : VK} (ok : OkV X.K cls ew F ad H (if c then r else .stuck) Q) : c ∧ OkV X.K cls ew F ad H r Q := by
  by_cases h : c
  · rw [if_pos h] at ok; exact ⟨h, ok⟩
  · rw [if_neg h] at ok; exact ok.elim
theorem cr_lenD : CallR X (.builtin "len") (rBi X.K cls ew (biV .len)) := by
  intro pins s σ H vs us Q I rv ⟨F, ad, st, ds, r, hr, ok⟩
  obtain ⟨v, d, rfl, hx, ok⟩ := one_ok ok hr
  unfold lenV at ok
  split at ok
  · cases hx
    obtain ⟨hz, ok⟩ := ite_ok ok
    exact call_len pins s σ H _ us Q I rv ⟨_, _, rfl, ⟨hz, rfl⟩, ok.val r (.int _)⟩
  · split at ok
    · rename_i xs e
      obtain ⟨a, vs, rfl, ha, hr⟩ := seqOf_rep r hx e
      refine call_len pins s σ H _ us Q I rv ⟨_, vs.length, rfl, ?_, by rw [hr.length]; exact ok.val r (.int _)⟩
      rcases ha with ha | ha
      · exact .inl ⟨_, ha, rfl⟩
      · exact .inr ⟨_, ha, rfl⟩
    · exact ok.elim
theorem cr_sumD (hc : X.calm = true) : CallR X (.builtin "sum") (rBi X.K cls ew (biV .sum)) := by
  intro pins s σ H vs us Q I rv ⟨F, ad, st, ds, r, hr, ok⟩
  obtain ⟨v, d, rfl, hx, ok⟩ := one_ok ok hr
  obtain ⟨a, ns, rfl, ha, ok⟩ := onInts_ok ok r hx
  exact cr_sum hc pins s σ H _ us Q I rv ⟨_, _, rfl, SqL.of ha, ok.val r (.int _)⟩
theorem cr_anyD (hc : X.calm = true) : CallR X (.builtin "any") (rBi X.K cls ew (biV .any)) := by
  intro pins s σ H vs us Q I rv ⟨F, ad, st, ds, r, hr, ok⟩
  obtain ⟨v, d, rfl, hx, ok⟩ := one_ok ok hr
  obtain ⟨a, ns, rfl, ha, ok⟩ := onBools_ok ok r hx
  exact cr_any hc pins s σ H _ us Q I rv ⟨_, _, rfl, SqL.of ha, ok.val r (.bool _)⟩
theorem cr_allD (hc : X.calm = true) : CallR X (.builtin "all") (rBi X.K cls ew (biV .all)) := by
  intro pins s σ H vs us Q I rv ⟨F, ad, st, ds, r, hr, ok⟩
  obtain ⟨v, d, rfl, hx, ok⟩ := one_ok ok hr
  obtain ⟨a, ns, rfl, ha, ok⟩ := onBools_ok ok r hx
  exact cr_all hc pins s σ H _ us Q I rv ⟨_, _, rfl, SqL.of ha, ok.val r (.bool _)⟩
theorem sortI_of {ns ns' : List Int} (h : ns'.Perm ns) (h2 : ns'.Pairwise (· ≤ ·)) : ns' = sortI ns := by
  refine List.Perm.eq_of_pairwise (le := fun a b : Int => a ≤ b) (fun a b _ _ h1 h2 => Int.le_antisymm h1 h2) h2 ?_ (h.trans (List.mergeSort_perm ns _).symm)
  have := List.pairwise_mergeSort (le := fun a b : Int => decide (a ≤ b)) (fun a b c h1 h2 => by simp at *; omega) (fun a b => by simp; omega) ns
  unfold sortI
  exact this.imp fun h => by simpa using h
theorem cr_sortedD : CallR X (.builtin "sorted") (rBi X.K cls ew (biV .sorted)) := by
  intro pins s σ H vs us Q I rv ⟨F, ad, st, ds, r, hr, ok⟩
  obtain ⟨v, d, rfl, hx, ok⟩ := one_ok ok hr
  obtain ⟨a, ns, rfl, ha, ok⟩ := onInts_ok ok r hx
  obtain ⟨hz, ok⟩ := ite_ok ok
  exact cr_sorted pins s σ H _ us Q I rv ⟨_, _, rfl, SqL.of ha, hz, fun ns' p h1 h2 hp => by
    rw [sortI_of h1 h2]
    exact ok.list r (reps_ints _) hp⟩
theorem cr_toIntD : CallR X (.type "int") (rBi X.K cls ew (biV .toInt)) := by
  intro pins s σ H vs us Q I rv ⟨F, ad, st, ds, r, hr, ok⟩
  obtain ⟨v, d, rfl, hx, ok⟩ := one_ok ok hr
  unfold toIntV at ok
  split at ok
  · cases hx
    exact call_int1 pins s σ H _ us Q I rv (.inl ⟨_, rfl, ok.val r (.int _)⟩)
  · cases hx
    exact call_int1 pins s σ H _ us Q I rv (.inr ⟨_, rfl, ok.val r (.int _)⟩)
  · cases hx
    split at ok
    · rename_i n e
      obtain ⟨hz, ok⟩ := ite_ok ok
      exact call_int_str pins s σ H _ us Q I rv ⟨_, n, rfl, e, hz, ok.val r (.int _)⟩
    · exact ok.elim
  · exact ok.elim
theorem cr_toStrD : CallR X (.type "str") (rBi X.K cls ew (biV .toStr)) := by
  intro pins s σ H vs us Q I rv ⟨F, ad, st, ds, r, hr, ok⟩
  obtain ⟨v, d, rfl, hx, ok⟩ := one_ok ok hr
  have ok : OkV X.K cls ew F ad H (toStrV d st) Q := ok
  unfold toStrV at ok
  split at ok
  · cases hx
    obtain ⟨hz, ok⟩ := ite_ok ok
    exact call_str_int pins s σ H _ us Q I rv ⟨_, rfl, hz, ok.val r (.str _)⟩
  · exact ok.elim
theorem cr_tupleD : CallR X (.type "tuple") (rBi X.K cls ew (biV .tupleOf)) := by
  intro pins s σ H vs us Q I rv ⟨F, ad, st, ds, r, hr, ok⟩
  obtain ⟨v, d, rfl, hx, ok⟩ := one_ok ok hr
  unfold tupV at ok
  split at ok
  · cases hx with
    | tup h1 r1 => exact call_tuple_of pins s σ H _ us Q I rv ⟨_, _, rfl, .inr ⟨sqtUp r.sub h1.1, ok.val r (.tup h1 r1)⟩⟩
  · split at ok
    · rename_i xs e
      obtain ⟨a, vs, rfl, ha, hr⟩ := listOf_rep r hx e
      exact call_tuple_of pins s σ H _ us Q I rv ⟨_, _, rfl, .inl ⟨SqL.of ha, fun p hp => ok.tuple r hr hp⟩⟩
    · exact ok.elim
theorem itemsOf_vals {P : Nat → Value → Prop} {g : Nat → V} (hg : ∀ i v, P i v → RelV (g i) v) {acc : Array Value} {n : Nat} (h : ItemsOf P acc n) : Vals ((List.range n).map g) acc.toList := by
  obtain ⟨h1, h2⟩ := h
  have key : ∀ (m : Nat) (l : List Value) (k : Nat), l.length = m → (∀ (j : Nat) (v : Value), l[j]? = some v → P (k + j) v) → Vals ((List.range' k m).map g) l := by
    intro m
    induction m with
    | zero =>
      intro l k hl _
      have : l = [] := List.length_eq_zero_iff.mp hl
      subst this
      exact .nil
    | succ m ih =>
      intro l k hl hp
      cases l with
      | nil => simp at hl
      | cons x r =>
        rw [List.range'_succ, List.map_cons]
        refine .cons (hg k x ?_) (ih r (k + 1) (by simpa using hl) fun j v hj => ?_)
        · have := hp 0 x (by simp)
          simpa using this
        · have := hp (j + 1) v (by simpa using hj)
          rw [show k + 1 + j = k + (j + 1) by omega]
          exact this
  rw [List.range_eq_range']
  exact key n acc.toList 0 (by simpa using h1) fun j v hj => by
    rw [Nat.zero_add]
    exact h2 j v (by simpa using hj)
theorem signs_map (x : Str) : (List.range x.cps.size).map (fun i => V.str ⟨#[x.cps.getD i 0]⟩) = x.cps.toList.map fun c => V.str ⟨#[c]⟩ := by
  apply List.ext_getElem
  · simp
  · intro i h1 h2
    have hi : i < x.cps.size := by simpa using h1
    simp [hi]
theorem reps_signs {K : PySem.W.Frag} {F : Hp} {ad : List Addr} : ∀ l : List Nat, Reps K F ad (l.map fun c => V.str ⟨#[c]⟩) (l.map sgn)
  | [] => .nil
  | c :: l => .cons (.str _) (reps_signs l)
theorem cr_listD (hc : X.calm = true) : CallR X (.type "list") (rBi X.K cls ew (biV .listOf)) := by
  intro pins s σ H vs us Q I rv ⟨F, ad, st, ds, r, hr, ok⟩
  obtain ⟨v, d, rfl, hx, ok⟩ := one_ok ok hr
  unfold listV at ok
  split at ok
  · cases hx
    rename_i z
    obtain ⟨hz, ok⟩ := ite_ok ok
    obtain ⟨u, rfl, t, rfl⟩ := vals1 rv
    refine PySem.call_list_str (I.ok.hd hc) z t (fun h' tk acc c' hk ho hi => ?_) hz
    have hv := itemsOf_vals (g := fun i => V.str ⟨#[z.cps.getD i 0]⟩) (fun i v ⟨c, u, h1, h2⟩ => ⟨u, by
      rw [h2, Array.getD_eq_getD_getElem?, h1]; rfl⟩) hi
    rw [signs_map] at hv
    exact ⟨.ref _, upd H s.heap.objs.size (.lst (z.cps.toList.map fun c => V.str ⟨#[c]⟩)), I.laid (t' := tk) hk (Nat.le_refl _) ⟨by simpa [Str.length] using hz, acc.toList, c', hv, by simpa using ho⟩, rfl, ok.list r (reps_signs _) (I.hok.fresh (Nat.le_refl _))⟩
  · split at ok
    · rename_i xs e
      obtain ⟨a, vs, rfl, ha, hr⟩ := seqOf_rep r hx e
      exact call_list_of pins s σ H _ us Q I rv ⟨_, _, rfl, ha, fun p hp => ok.list r hr hp⟩
    · exact ok.elim
theorem cr_max2D (hc : X.calm = true) : CallR X (.builtin "max") (rBi X.K cls ew (biV .max2)) := by
  intro pins s σ H vs us Q I rv ⟨F, ad, st, ds, r, hr, ok⟩
  obtain ⟨v, w, d, e, rfl, hx, hy, ok⟩ := two_ok ok hr
  obtain ⟨i, j, rfl, rfl, ok⟩ := intV_ok ok hx hy
  exact call_max2 hc pins s σ H _ us Q I rv ⟨_, _, rfl, ok.val r (.int _)⟩
theorem foldl_max : ∀ (r : List Int) (x : Int), (r.foldl (fun m y => if y > m then y else m) x ∈ x :: r) ∧ ∀ y ∈ x :: r, y ≤ r.foldl (fun m y => if y > m then y else m) x
  | [], x => ⟨by simp, by simp⟩
  | a :: r, x => by
    obtain ⟨h1, h2⟩ := foldl_max r (if a > x then a else x)
    refine ⟨?_, fun y hy => ?_⟩
    · rw [List.foldl_cons]
      rcases List.mem_cons.mp h1 with h | h
      · rw [h]; split <;> simp
      · simp [h]
    · rw [List.foldl_cons]
      have h0 := h2 (if a > x then a else x) (by simp)
      rcases List.mem_cons.mp hy with e | hy
      · have : y ≤ (if a > x then a else x) := by split <;> omega
        exact Int.le_trans this h0
      · rcases List.mem_cons.mp hy with e | hy
        · have : y ≤ (if a > x then a else x) := by split <;> omega
          exact Int.le_trans this h0
        · exact h2 y (by simp [hy])
theorem foldl_min : ∀ (r : List Int) (x : Int), (r.foldl (fun m y => if y < m then y else m) x ∈ x :: r) ∧ ∀ y ∈ x :: r, r.foldl (fun m y => if y < m then y else m) x ≤ y
  | [], x => ⟨by simp, by simp⟩
  | a :: r, x => by
    obtain ⟨h1, h2⟩ := foldl_min r (if a < x then a else x)
    refine ⟨?_, fun y hy => ?_⟩
    · rw [List.foldl_cons]
      rcases List.mem_cons.mp h1 with h | h
      · rw [h]; split <;> simp
      · simp [h]
    · rw [List.foldl_cons]
      have h0 := h2 (if a < x then a else x) (by simp)
      rcases List.mem_cons.mp hy with e | hy
      · have : (if a < x then a else x) ≤ y := by split <;> omega
        exact Int.le_trans h0 this
      · rcases List.mem_cons.mp hy with e | hy
        · have : (if a < x then a else x) ≤ y := by split <;> omega
          exact Int.le_trans h0 this
        · exact h2 y (by simp [hy])
theorem maxI_of {ns : List Int} {m : Int} (h0 : 0 < ns.length) (h1 : m ∈ ns) (h2 : ∀ y ∈ ns, y ≤ m) : m = maxI ns := by
  cases ns with
  | nil => simp at h0
  | cons x r =>
    obtain ⟨a, b⟩ := foldl_max r x
    exact Int.le_antisymm (b m h1) (h2 _ a)
theorem minI_of {ns : List Int} {m : Int} (h0 : 0 < ns.length) (h1 : m ∈ ns) (h2 : ∀ y ∈ ns, m ≤ y) : m = minI ns := by
  cases ns with
  | nil => simp at h0
  | cons x r =>
    obtain ⟨a, b⟩ := foldl_min r x
    exact Int.le_antisymm (h2 _ a) (b m h1)
theorem cr_maxLD (hc : X.calm = true) : CallR X (.builtin "max") (rBi X.K cls ew (biV .maxL)) := by
  intro pins s σ H vs us Q I rv ⟨F, ad, st, ds, r, hr, ok⟩
  obtain ⟨v, d, rfl, hx, ok⟩ := one_ok ok hr
  obtain ⟨a, ns, rfl, ha, ok⟩ := onInts_ok ok r hx
  obtain ⟨hz, ok⟩ := ite_ok ok
  exact cr_max hc pins s σ H _ us Q I rv ⟨_, _, rfl, SqL.of ha, hz, fun m h1 h2 => by
    rw [maxI_of hz h1 h2]; exact ok.val r (.int _)⟩
theorem cr_minLD (hc : X.calm = true) : CallR X (.builtin "min") (rBi X.K cls ew (biV .minL)) := by
  intro pins s σ H vs us Q I rv ⟨F, ad, st, ds, r, hr, ok⟩
  obtain ⟨v, d, rfl, hx, ok⟩ := one_ok ok hr
  obtain ⟨a, ns, rfl, ha, ok⟩ := onInts_ok ok r hx
  obtain ⟨hz, ok⟩ := ite_ok ok
  exact cr_min hc pins s σ H _ us Q I rv ⟨_, _, rfl, SqL.of ha, hz, fun m h1 h2 => by
    rw [minI_of hz h1 h2]; exact ok.val r (.int _)⟩
/-- max(xs, default=0) -/
theorem maxd_list {prog : Program} {w : World} {A : Around} {E : Value → Shared → Prop} {s : Shared} {l : Addr} {its : List Value} {ns : List Int} {t0 : Tok} {Q : Value → Shared → Prop} (hh : A.handled = none) (hl : s.heap.IsList l its.toArray) (hi : IntsAre its ns)
    (h : ∀ (h' : Heap) (tk : Nat) (t : Tok), (∀ (b : Addr) (o : Obj), s.heap.get? b = some o → h'.get? b = some o) → Q (Value.int (maxI ns) t) { heap := h', gens := s.gens, drawn := s.drawn, toks := tk, os := s.os }) :
    wpAny (model prog w) A (call (Value.builtin "max") [Value.ref l] [("default", Value.int 0 t0)]) Q E s := by
  obtain ⟨xs, e⟩ := AllInts.items (IntsAre.allInts hi)
  have hns : ns = xs.toList.map (·.1) := by
    rw [← IntsAre.numsOf hi, ← nums_intItems xs, ← e]
  rw [e] at hl
  refine maxd_raw hh hl fun v h' tk hv hk => ?_
  by_cases hz : xs.size = 0
  · rw [if_pos hz] at hv
    have : ns = [] := by
      rw [hns]
      have : xs.toList = [] := List.length_eq_zero_iff.mp (by simpa using hz)
      rw [this]; rfl
    rw [hv]
    have := h h' tk t0 hk
    rwa [‹ns = []›] at this
  · rw [if_neg hz] at hv
    obtain ⟨t, rfl⟩ := intItems_at hv
    obtain ⟨h1, h2⟩ := argBest_gt (numAt xs) (xs.size - 1)
    have hl2 : (xs.toList.map (·.1)).length = xs.size := by simp
    have e2 : numAt xs (argBest (fun i j => decide (numAt xs i > numAt xs j)) (xs.size - 1)) = maxI ns := by
      refine maxI_of (by rw [hns, hl2]; omega) ?_ fun y hy => ?_
      · rw [numAt_eq, hns]
        exact PySem.getD_mem (by rw [hl2]; omega)
      · rw [hns] at hy
        obtain ⟨j, hj, ej⟩ := List.getElem_of_mem hy
        have := h2 j (by rw [hl2] at hj; omega)
        rw [numAt_eq xs j, List.getD_eq_getElem?_getD, List.getElem?_eq_getElem hj] at this
        simpa [← ej] using this
    rw [e2]
    exact h h' tk t hk
def rMaxK (K : PySem.W.Frag) (cls : Str → Option Addr) (ew : XK) : List V → List V → Hp → VK → Prop := fun xs zs H Q => zs = [.int 0] ∧ rBi K cls ew (biV .maxD0) xs H Q
theorem cr_maxD0 (hc : X.calm = true) : CallRK X (.builtin "max") ["default"] (rMaxK X.K cls ew) := by
  intro pins s σ H xs zs us ws Q I rv rz ⟨hz, F, ad, st, ds, r, hr, ok⟩
  subst hz
  obtain ⟨v, d, rfl, hx, ok⟩ := one_ok ok hr
  obtain ⟨a, ns, rfl, ha, ok⟩ := onInts_ok ok r hx
  obtain ⟨its, rv', hl, _⟩ := Inv.list I (SqL.of ha)
  rw [Vals.ref1 rv]
  obtain ⟨u, rfl, t0, rfl⟩ := vals1 rz
  exact maxd_list (I.ok.hd hc) (PlainL.isList hl) (Vals.ints rv') fun h' tk t hk => ⟨.int (maxI ns), H, Inv.kept I hk, ⟨t, rfl⟩, ok.val r (.int _)⟩
/-! isinstance(x, T) -/
theorem tyOf_rep {K : PySem.W.Frag} {F : Hp} {ad : List Addr} {st : Sto} {H : Hp} {v : V} {d : D} {t : String} (r : RelS K F ad st H) (h : Rep K F ad v d) (e : tyOf st d = some t) : TyX K H v (.type t) ∧ (t = "NoneType" ∨ t = "bool" ∨ t = "int" ∨ t = "str" ∨ t = "list" ∨ t = "tuple") := by
  cases h with
  | none => simp only [tyOf, Option.some.injEq] at e; subst e; exact ⟨.base .non, by simp⟩
  | bool b => simp only [tyOf, Option.some.injEq] at e; subst e; exact ⟨.base (.bl b), by simp⟩
  | int b => simp only [tyOf, Option.some.injEq] at e; subst e; exact ⟨.base (.int b), by simp⟩
  | str b => simp only [tyOf, Option.some.injEq] at e; subst e; exact ⟨.base (.str b), by simp⟩
  | scr h => simp only [tyOf] at e; cases e
  | exc h q => simp only [tyOf] at e; cases e
  | list h _ => simp only [tyOf, Option.some.injEq] at e; subst e; exact ⟨.base (.lst (r.sub _ _ h)), by simp⟩
  | tup h _ =>
    simp only [tyOf, Option.some.injEq] at e; subst e
    refine ⟨?_, by simp⟩
    obtain ⟨h, _⟩ := h
    rcases h with (h | ⟨o, h⟩) | ⟨o, its, n, h, hc, _⟩
    · exact .base (.tup (r.sub _ _ h))
    · exact .fTuple (r.sub _ _ h)
    · exact .kTuple h hc
  | ref ha =>
    simp only [tyOf] at e
    split at e
    · rename_i xs hx
      simp only [Option.some.injEq] at e; subst e
      obtain ⟨vs, h1, h2⟩ := r.cell _ _ _ hx ha
      exact ⟨.base (.lst h1), by simp⟩
    · cases e
theorem kit_all (T t : String) (hT : T = "bool" ∨ T = "int" ∨ T = "str" ∨ T = "list" ∨ T = "tuple") (ht : t = "NoneType" ∨ t = "bool" ∨ t = "int" ∨ t = "str" ∨ t = "list" ∨ t = "tuple") : kitB t T = some (isinstT T t) := by
  rcases hT with rfl | rfl | rfl | rfl | rfl <;> rcases ht with rfl | rfl | rfl | rfl | rfl | rfl <;> decide +kernel
/-- x, T: the type is written -/
def rIsiD (K : PySem.W.Frag) (cls : Str → Option Addr) (ew : XK) (T : String) : List V → Hp → VK → Prop := fun vs H Q => ∃ v, vs = [v, .ty T] ∧ rBi K cls ew (biV (.isinst T)) [v] H Q
theorem cr_isiD (T : String) (hT : T = "bool" ∨ T = "int" ∨ T = "str" ∨ T = "list" ∨ T = "tuple") : CallR X (.builtin "isinstance") (rIsiD X.K cls ew T) := by
  intro pins s σ H vs us Q I rv ⟨v, ev, F, ad, st, ds, r, hr, ok⟩
  subst ev
  obtain ⟨v', d, e', hx, ok⟩ := one_ok ok hr
  cases e'
  unfold isinstV at ok
  split at ok
  · rename_i t e
    obtain ⟨h1, h2⟩ := tyOf_rep r hx e
    exact call_isi pins s σ H _ us Q I rv ⟨_, _, _, _, _, rfl, .ty T, h1, kit_ty (kit_all T t hT h2), ok.val r (.bool _)⟩
  · exact ok.elim

/-! list(range(..)) -/
theorem cr_range1 : CallR X (.type "range") (fun vs H Q => ∃ i, vs = [V.int i] ∧ ∀ p, H p = none → Q (.ref p) (upd H p (.rng 0 i))) := by
  intro pins s σ H vs us Q I rv ⟨i, e, q⟩
  subst e
  obtain ⟨u, rfl, t, rfl⟩ := vals1 rv
  refine call_range_1 ⟨.ref s.heap.objs.size, upd H s.heap.objs.size (.rng 0 i), I.laid (t' := s.toks + 1 + 1) (fun b o e => Heap.get?_push_of_some _ e) (Nat.le_refl _) ?_, rfl, q _ (I.hok.fresh (Nat.le_refl _))⟩
  exact ⟨_, _, _, Heap.get?_push_size _ rfl⟩
theorem range_map (a : Int) (n : Nat) : (List.range n).map (fun (i : Nat) => V.int (a + (i : Int) * 1)) = (rangeI a n).map V.int := by
  unfold rangeI
  rw [List.map_map]
  apply List.map_congr_left
  intro k _
  simp
theorem cr_listR (hc : X.calm = true) : CallR X (.type "list") (fun vs H Q => ∃ p lo hi, vs = [V.ref p] ∧ H p = some (.rng lo hi) ∧ (hi - lo ≤ sizeLine ∧ -(2 ^ 62) ≤ lo ∧ lo < 2 ^ 62 ∧ -(2 ^ 62) ≤ hi ∧ hi < 2 ^ 62) ∧ ∀ q, H q = none → Q (.ref q) (upd H q (.lst ((rangeI lo (hi - lo).toNat).map V.int)))) := by
  intro pins s σ H vs us Q I rv ⟨p, lo, hi, e, hp, ⟨hz, h1, h2, h3, h4⟩, q⟩
  subst e
  rw [Vals.ref1 rv]
  obtain ⟨t, u, v, e⟩ := (show ObjOk X.prog X.w H s.heap p (.rng lo hi) from I.hok p _ hp)
  have hs : sizeLine = 16777216 := sizeLine_eq
  refine PySem.call_list_range (n := (hi - lo).toNat) (I.ok.hd hc) e (small_one h1 h2 h3 h4) ?_ (by omega) fun h' tk acc c' hk ho hi' => ?_
  · rw [rangeSize_one]; split <;> omega
  · have hv := itemsOf_vals (g := fun (i : Nat) => V.int (lo + (i : Int) * 1)) (fun i v ⟨t, h⟩ => ⟨t, h⟩) hi'
    rw [range_map] at hv
    exact ⟨.ref _, upd H s.heap.objs.size (.lst ((rangeI lo (hi - lo).toNat).map V.int)), I.laid (t' := tk) hk (Nat.le_refl _) ⟨by simp [rangeI]; omega, acc.toList, c', hv, by simpa using ho⟩, rfl, q _ (I.hok.fresh (Nat.le_refl _))⟩

/-! methods of lists -/
theorem onCell_ok {x : D} {st : Sto} {f : Nat → List D → R Val} {F : Hp} {ad : List Addr} {H : Hp} {Q : VK} {v : V} (ok : OkV X.K cls ew F ad H (onCell x st f) Q) (r : RelS X.K F ad st H) (h : Rep X.K F ad v x) :
    ∃ a n xs vs, v = .ref a ∧ (ad[n]? = some a ∧ st[n]? ≠ some .dead) ∧ H a = some (.lst vs) ∧ Reps X.K F ad vs xs ∧ OkV X.K cls ew F ad H (f n xs) Q := by
  unfold onCell at ok
  split at ok
  · cases h with
    | ref ha =>
      split at ok
      · rename_i xs e
        obtain ⟨vs, h1, h2⟩ := r.cell _ _ _ e ha
        exact ⟨_, _, xs, vs, rfl, ⟨ha, by rw [e]; intro z; cases z⟩, h1, h2, ok⟩
      · exact ok.elim
  · exact ok.elim
/-- a method, by values -/
def rMt (K : PySem.W.Frag) (cls : Str → Option Addr) (ew : XK) (m : MT) : V → List V → Hp → VK → Prop := fun x vs H Q => ∃ F ad st d ds, RelS K F ad st H ∧ Rep K F ad x d ∧ Reps K F ad vs ds ∧ OkV K cls ew F ad H (mtV m d ds st) Q
theorem mt_appendD : MtM X "list.append" (rMt X.K cls ew .append) := by
  intro pins s σ H x vs v us Q I rx rv ⟨F, ad, st, d, ds, r, hx, hr, ok⟩
  obtain ⟨w, e, rfl, hy, ok⟩ := one_ok ok hr
  obtain ⟨a, n, xs, ws, rfl, ha, hH, hw, ok⟩ := onCell_ok ok r hx
  obtain ⟨hz, ok⟩ := ite_ok ok
  exact mt_append pins s σ H _ _ v us Q I rx rv ⟨_, _, _, rfl, rfl, hH, by rw [hw.length]; exact hz, ok.wrote r ha ⟨_, upd_same, hw.append hy.one⟩ .none⟩
theorem mt_extendD : MtM X "list.extend" (rMt X.K cls ew .extend) := by
  intro pins s σ H x vs v us Q I rx rv ⟨F, ad, st, d, ds, r, hx, hr, ok⟩
  obtain ⟨w, e, rfl, hy, ok⟩ := one_ok ok hr
  obtain ⟨a, n, xs, ws, rfl, ha, hH, hw, ok⟩ := onCell_ok ok r hx
  split at ok
  · rename_i ys ey
    obtain ⟨b, zs, rfl, hb, hz⟩ := listOf_rep r hy ey
    obtain ⟨hl, ok⟩ := ite_ok ok
    exact mt_extend pins s σ H _ _ v us Q I rx rv ⟨_, _, _, _, rfl, rfl, hH, hb, by rw [hw.length, hz.length]; exact hl, ok.wrote r ha ⟨_, upd_same, hw.append hz⟩ .none⟩
  · exact ok.elim
theorem mt_pop0D : MtM X "list.pop" (fun x vs H Q => vs = [] ∧ rMt X.K cls ew .pop0 x vs H Q) := by
  intro pins s σ H x vs v us Q I rx rv ⟨_, F, ad, st, d, ds, r, hx, hr, ok⟩
  obtain ⟨rfl, ok⟩ := zero_ok ok hr
  obtain ⟨a, n, xs, ws, rfl, ha, hH, hw, ok⟩ := onCell_ok ok r hx
  unfold popV at ok
  split at ok
  · rename_i y ey
    obtain ⟨w, h1, h2⟩ := hw.get ey
    exact mt_pop pins s σ H _ _ v us Q I rx rv ⟨_, _, _, rfl, rfl, hH, by rw [hw.length]; exact h1, ok.wrote r ha ⟨_, upd_same, hw.dropLast⟩ h2⟩
  · exact ok.elim
theorem mt_popAtD : MtM X "list.pop" (rMt X.K cls ew .popAt) := by
  intro pins s σ H x vs v us Q I rx rv ⟨F, ad, st, d, ds, r, hx, hr, ok⟩
  obtain ⟨w, e, rfl, hy, ok⟩ := one_ok ok hr
  obtain ⟨a, n, xs, ws, rfl, ha, hH, hw, ok⟩ := onCell_ok ok r hx
  unfold popAtV at ok
  split at ok
  · cases hy
    obtain ⟨hz, ok⟩ := ite_ok ok
    split at ok
    · rename_i k ek
      split at ok
      · rename_i y ey
        obtain ⟨w, h1, h2⟩ := hw.get ey
        exact mt_popAt pins s σ H _ _ v us Q I rx rv ⟨_, _, _, k, _, rfl, rfl, hH, hz.1, hz.2, by rw [hw.length]; exact (ixN_seq ek).1, h1, ok.wrote r ha ⟨_, upd_same, hw.eraseIdx k⟩ h2⟩
      · exact ok.elim
    · exact ok.elim
  · exact ok.elim
theorem mt_removeD : MtM X "list.remove" (rMt X.K cls ew .remove) := by
  intro pins s σ H x vs v us Q I rx rv ⟨F, ad, st, d, ds, r, hx, hr, ok⟩
  obtain ⟨w, e, rfl, hy, ok⟩ := one_ok ok hr
  obtain ⟨a, n, xs, ws, rfl, ha, hH, hw, ok⟩ := onCell_ok ok r hx
  split at ok
  · rename_i ns k en _
    rw [intsOf_eq en] at hw
    have := hw.ints
    subst this
    cases hy
    obtain ⟨hk, ok⟩ := ite_ok ok
    obtain ⟨j, j1, j2, j3, j4⟩ := first_at hk
    exact mt_remove pins s σ H _ _ v us Q I rx rv ⟨_, _, _, j, rfl, rfl, hH, j2, j3, by rw [j4]; exact ok.wrote r ha ⟨_, upd_same, reps_ints _⟩ .none⟩
  · exact ok.elim
theorem mt_reverseD : MtM X "list.reverse" (rMt X.K cls ew .reverse) := by
  intro pins s σ H x vs v us Q I rx rv ⟨F, ad, st, d, ds, r, hx, hr, ok⟩
  obtain ⟨rfl, ok⟩ := zero_ok ok hr
  obtain ⟨a, n, xs, ws, rfl, ha, hH, hw, ok⟩ := onCell_ok ok r hx
  exact mt_reverse pins s σ H _ _ v us Q I rx rv ⟨_, _, rfl, rfl, hH, ok.wrote r ha ⟨_, upd_same, hw.reverse⟩ .none⟩
theorem mt_clearD : MtM X "list.clear" (rMt X.K cls ew .clear) := by
  intro pins s σ H x vs v us Q I rx rv ⟨F, ad, st, d, ds, r, hx, hr, ok⟩
  obtain ⟨rfl, ok⟩ := zero_ok ok hr
  obtain ⟨a, n, xs, ws, rfl, ha, hH, hw, ok⟩ := onCell_ok ok r hx
  exact mt_clear pins s σ H _ _ v us Q I rx rv ⟨_, _, rfl, rfl, hH, ok.wrote r ha ⟨_, upd_same, .nil⟩ .none⟩
theorem mt_insertD : MtM X "list.insert" (rMt X.K cls ew .insert) := by
  intro pins s σ H x vs v us Q I rx rv ⟨F, ad, st, d, ds, r, hx, hr, ok⟩
  obtain ⟨w1, w2, e1, e2, rfl, hi, hy, ok⟩ := two_ok ok hr
  obtain ⟨a, n, xs, ws, rfl, ha, hH, hw, ok⟩ := onCell_ok ok r hx
  split at ok
  · cases hi
    obtain ⟨hz, ok⟩ := ite_ok ok
    exact mt_insert pins s σ H _ _ v us Q I rx rv ⟨_, _, _, _, rfl, rfl, hH, by rw [hw.length]; exact hz.1, hz.2.1, hz.2.2, ok.wrote r ha ⟨_, upd_same, ((hw.take _).append hy.one).append (hw.drop _)⟩ .none⟩
  · exact ok.elim
theorem pys_get : ∀ (ts : List D) (i : Nat), (pys ts)[i]? = (ts[i]?).map D.py
  | [], _ => rfl
  | a :: l, 0 => rfl
  | a :: l, i + 1 => by simpa only [pys, List.getElem?_cons_succ] using pys_get l i
theorem mt_indexD' (hu : X.A.units + 65 < cLine) : MtM X "list.index" (rMt X.K cls ew .index) := by
  intro pins s σ H x vs v us Q I rx rv ⟨F, ad, st, d, ds, r, hx, hr, ok⟩
  obtain ⟨w, e, rfl, hy, ok⟩ := one_ok ok hr
  have ok : OkV X.K cls ew F ad H (indexV d e st) Q := ok
  unfold indexV at ok
  split at ok
  · rename_i ts t e1 e2
    obtain ⟨hs, ok⟩ := ite_ok ok
    rw [Bool.and_eq_true] at hs
    split at ok
    · rename_i j ej
      have d1 : Dp X.K H x (.list (pys ts)) := by simpa only [D.py] using frz_dp r hx e1 hs.2
      have d2 := frz_dp r hy e2 hs.1
      have sh : SeqAt.shaped (.list (pys ts)) = true := by simpa only [D.shp, D.py] using hs.2
      have hp : ∀ (i : Nat), (pys ts)[i]? = (ts[i]?).map D.py := pys_get ts
      obtain ⟨hj, h1, h2⟩ := List.findIdx?_eq_some_iff_getElem.mp ej
      cases d1 with
      | lst hq ha =>
        refine mt_indexD hu pins s σ H _ _ v us Q I rx rv ⟨_, _, t.py, pys ts, j, (ts[j]).py, rfl, rfl, .lst hq ha, d2, sh, hs.1, ?_, h1, fun m z hm hz => ?_, ok.val r (.int _)⟩
        · rw [hp, List.getElem?_eq_getElem hj]; rfl
        · rw [hp] at hz
          obtain ⟨z', hz1, hz2⟩ := Option.map_eq_some_iff.mp hz
          subst hz2
          have hm' : m < ts.length := by omega
          rw [List.getElem?_eq_getElem hm'] at hz1
          cases hz1
          have := h2 m hm
          simpa [eqD] using this
    · exact ok.elim
  · exact ok.elim
end
end MP

/-! sorted of texts; sorted(list(dict(pairs))); sorted(set(list of whole numbers)). -/
namespace MP
open PySem PySem.Spec PyProof.Rows L2
section
variable {X : Cx} {cls : Str → Option Addr} {ew : XK}
theorem cr_setI (hc : X.calm = true) : CallR X (.type "set") (fun vs H Q => ∃ (a : Addr) (ns : List Int), vs = [V.ref a] ∧ SqL X.K H a (ns.map V.int) ∧ ns.length ≤ 1000 ∧ ∀ (p : Addr) (n : Nat), H p = none → n ≤ ns.length → Q (.ref p) (upd H p (SetO X.w p (fun j => decide (j ∈ ns)) n))) := by
  intro pins s σ H vs us Q I rv ⟨a, ns, e, hq, hl, q⟩
  subst e
  rw [Vals.ref1 rv]
  obtain ⟨its, rv', pl, _⟩ := Inv.list I hq
  refine set_of_ints ns (I.ok.hd hc) (PlainL.isList pl) (Vals.ints rv') (by unfold scanBound; omega) fun hp tk n R1 hn k => ?_
  exact ⟨.ref _, upd H s.heap.objs.size (SetO X.w s.heap.objs.size (fun j => decide (j ∈ ns)) n), I.laid (t' := tk) k (Nat.le_refl _) (setO_new R1), rfl, q _ n (I.hok.fresh (Nat.le_refl _)) hn⟩
/-! each once -/
theorem uniq_mem {α : Type} [DecidableEq α] (x : α) : ∀ l : List α, x ∈ uniq l ↔ x ∈ l
  | [] => Iff.rfl
  | y :: r => by
    unfold uniq
    split
    · rename_i h
      rw [uniq_mem x r, List.mem_cons]
      exact ⟨.inr, fun z => z.elim (fun e => e ▸ h) fun h => h⟩
    · rw [List.mem_cons, List.mem_cons, uniq_mem x r]
theorem uniq_nd {α : Type} [DecidableEq α] : ∀ l : List α, (uniq l).Nodup
  | [] => List.nodup_nil
  | y :: r => by
    unfold uniq
    split
    · exact uniq_nd r
    · rename_i h
      exact List.nodup_cons.mpr ⟨fun z => h ((uniq_mem y r).mp z), uniq_nd r⟩
theorem uniq_len {α : Type} [DecidableEq α] : ∀ l : List α, (uniq l).length ≤ l.length
  | [] => Nat.le_refl _
  | y :: r => by
    unfold uniq
    have := uniq_len r
    split <;> simp <;> omega
theorem uniq_perm {α : Type} [DecidableEq α] {l m : List α} (hn : m.Nodup) (h : ∀ x, x ∈ m ↔ x ∈ l) : m.Perm (uniq l) :=
  (List.perm_ext_iff_of_nodup hn (uniq_nd l)).mpr fun x => (h x).trans (uniq_mem x l).symm
theorem setI_of {ns ms : List Int} (h : ms.Pairwise (· < ·)) (hm : ∀ k : Int, k ∈ ms ↔ k ∈ ns) : ms = sortI (uniq ns) := by
  have nd : ms.Nodup := h.imp fun h => by omega
  exact sortI_of (uniq_perm nd hm) (h.imp fun h => by omega)
/-! sorted of texts -/
theorem leS_iff {a b : Str} : leS a b = true ↔ a.cps.toList ≤ b.cps.toList := by unfold leS; rw [decide_eq_true_eq]
theorem rising_pair : ∀ (l : List Str) (p : Str), risingS p l = true → (∀ x ∈ l, leS p x = true) ∧ l.Pairwise (fun a b => leS a b = true)
  | [], p, _ => ⟨fun x h => (nomatch h), .nil⟩
  | y :: r, p, h => by
    unfold risingS at h
    rw [Bool.and_eq_true, Bool.not_eq_true', ltCps_eq, decide_eq_false_iff_not, List.not_lt] at h
    obtain ⟨h1, h2⟩ := rising_pair r y h.2
    have hp : leS p y = true := leS_iff.mpr h.1
    refine ⟨fun x hx => ?_, List.pairwise_cons.mpr ⟨h1, h2⟩⟩
    rcases List.mem_cons.mp hx with rfl | hx
    · exact hp
    · exact leS_iff.mpr (List.le_trans h.1 (leS_iff.mp (h1 x hx)))
theorem sorted_pair {l : List Str} (h : sortedS l = true) : l.Pairwise (fun a b => leS a b = true) := by
  cases l with
  | nil => exact .nil
  | cons x r =>
    obtain ⟨h1, h2⟩ := rising_pair r x h
    exact List.pairwise_cons.mpr ⟨h1, h2⟩
theorem sortS_of {ns ms : List Str} (h : ms.Perm ns) (h2 : sortedS ms = true) : ms = sortS ns := by
  refine List.Perm.eq_of_pairwise (le := fun a b : Str => leS a b = true) (fun a b _ _ h1 h2 => ?_) (sorted_pair h2) ?_ (h.trans (List.mergeSort_perm ns _).symm)
  · have e := List.le_antisymm (leS_iff.mp h1) (leS_iff.mp h2)
    obtain ⟨a⟩ := a; obtain ⟨b⟩ := b
    simp only at e
    rw [Array.toList_inj.mp e]
  · exact List.pairwise_mergeSort (le := leS) (fun a b c h1 h2 => leS_iff.mpr (List.le_trans (leS_iff.mp h1) (leS_iff.mp h2))) (fun a b => by
      rw [Bool.or_eq_true, leS_iff, leS_iff]; exact List.le_total _ _) ns
theorem onStrs_ok {x : D} {st : Sto} {f : List Str → R Val} {F : Hp} {ad : List Addr} {H : Hp} {Q : VK} {v : V} (ok : OkV X.K cls ew F ad H (onStrs x st f) Q) (r : RelS X.K F ad st H) (h : Rep X.K F ad v x) : ∃ a ns, v = .ref a ∧ H a = some (.lst (ns.map V.str)) ∧ OkV X.K cls ew F ad H (f ns) Q := by
  unfold onStrs at ok
  split at ok
  · rename_i xs e
    obtain ⟨a, vs, rfl, ha, hr⟩ := listOf_rep r h e
    split at ok
    · rename_i ns en
      rw [strsOf_eq en] at hr
      have := hr.strs
      subst this
      exact ⟨a, ns, rfl, ha, ok⟩
    · exact ok.elim
  · exact ok.elim
theorem cr_sortedXD : CallR X (.builtin "sorted") (rBi X.K cls ew (biV .sortedX)) := by
  intro pins s σ H vs us Q I rv ⟨F, ad, st, ds, r, hr, ok⟩
  obtain ⟨v, d, rfl, hx, ok⟩ := one_ok ok hr
  obtain ⟨a, ns, rfl, ha, ok⟩ := onStrs_ok ok r hx
  obtain ⟨hz, ok⟩ := ite_ok ok
  exact cr_sortedS pins s σ H _ us Q I rv ⟨_, _, rfl, SqL.of ha, hz, fun ns' p h1 h2 hp => by
    rw [sortS_of h1 h2]
    exact ok.list r (reps_strs _) hp⟩
/-! the keys of pairs -/
theorem putK_keys {κ : Type} [DecidableEq κ] (kvs : List (κ × V)) (k : κ) (v : V) (hn : (kvs.map (·.1)).Nodup) : ((putK kvs k v).map (·.1)).Nodup ∧ ∀ x, x ∈ (putK kvs k v).map (·.1) ↔ x ∈ kvs.map (·.1) ∨ x = k := by
  unfold putK
  split
  · rename_i h
    have e : (kvs.map (fun kv => if kv.1 = k then (kv.1, v) else kv)).map (·.1) = kvs.map (·.1) := by
      rw [List.map_map]
      apply List.map_congr_left
      intro p _
      show (if p.1 = k then (p.1, v) else p).1 = p.1
      split <;> rfl
    rw [e]
    refine ⟨hn, fun x => ⟨.inl, fun z => z.elim (fun h => h) fun e => ?_⟩⟩
    obtain ⟨p, hp, hk⟩ := List.any_eq_true.mp h
    rw [e, ← of_decide_eq_true hk]
    exact List.mem_map_of_mem hp
  · rename_i h
    have hk : k ∉ kvs.map (·.1) := fun z => by
      obtain ⟨p, hp, e⟩ := List.mem_map.mp z
      exact h (List.any_eq_true.mpr ⟨p, hp, decide_eq_true e⟩)
    rw [List.map_append]
    refine ⟨?_, fun x => by simp⟩
    rw [List.nodup_append]
    refine ⟨hn, by simp, fun a ha b hb e => ?_⟩
    have : b = k := by simpa using hb
    exact hk (by rw [← this, ← e]; exact ha)
theorem mergeK_keys : ∀ (more kvs : List (Key × V)), (kvs.map (·.1)).Nodup → ((mergeK kvs more).map (·.1)).Nodup ∧ ∀ x, x ∈ (mergeK kvs more).map (·.1) ↔ x ∈ kvs.map (·.1) ∨ x ∈ more.map (·.1)
  | [], kvs, hn => ⟨hn, fun x => by simp [mergeK]⟩
  | p :: r, kvs, hn => by
    obtain ⟨h1, h2⟩ := putK_keys kvs p.1 p.2 hn
    obtain ⟨h3, h4⟩ := mergeK_keys r (putK kvs p.1 p.2) h1
    refine ⟨h3, fun x => (h4 x).trans ?_⟩
    rw [h2, List.map_cons, List.mem_cons, or_assoc]
theorem fstOf_cons {x : D} {xs ks : List D} (e : fstOf (x :: xs) = some ks) : ∃ k y r, x = .tup [k, y] ∧ fstOf xs = some r ∧ ks = k :: r := by
  unfold fstOf at e
  split at e
  · rename_i h; cases h
  · rename_i k y r h
    cases h
    split at e
    · rename_i r2 e2
      cases e
      exact ⟨_, _, _, rfl, e2, rfl⟩
    · cases e
  · cases e
theorem keyV_rep {K : PySem.W.Frag} {F : Hp} {ad : List Addr} {v : V} : ∀ {k : Key}, Rep K F ad v (keyD k) → v = kV k
  | .inl _, g => by cases g; rfl
  | .inr _, g => by cases g; rfl
theorem fstOf_reps {K : PySem.W.Frag} {F : Hp} {ad : List Addr} : ∀ {xs ks : List D} {vs : List V}, Reps K F ad vs xs → fstOf xs = some ks → ∀ (ks' : List Key), ks = ks'.map keyD →
    ∃ (ps : List Addr) (kvs : List (Key × V)), vs = ps.map V.ref ∧ Paired (fun p kv => SqT K F p [kV kv.1, kv.2]) ps kvs ∧ kvs.map (·.1) = ks'
  | [], ks, _, .nil, e, ks', ek => by
    cases e
    have : ks' = [] := by cases ks' with
      | nil => rfl
      | cons _ _ => cases ek
    subst this
    exact ⟨[], [], rfl, .nil, rfl⟩
  | x :: xs, ks, v :: vs, .cons h r, e, ks', ek => by
    obtain ⟨k, y, r2, rfl, e2, rfl⟩ := fstOf_cons e
    cases ks' with
    | nil => cases ek
    | cons k' ks' =>
      simp only [List.map_cons, List.cons.injEq] at ek
      obtain ⟨e3, e4⟩ := ek
      obtain ⟨ps, kvs, h1, h2, h3⟩ := fstOf_reps r e2 ks' e4
      cases h with
      | tup hs hr =>
        obtain ⟨v1, v2, rfl, g1, g2⟩ := Reps.two_of hr
        rw [e3] at g1
        rw [keyV_rep g1] at hs
        exact ⟨_ :: ps, (k', v2) :: kvs, by rw [h1]; rfl, .cons hs.1 h2, by rw [List.map_cons, h3]⟩
theorem paired_up {K : PySem.W.Frag} {F F' : Hp} (le : ∀ a o, F a = some o → F' a = some o) : ∀ {ps : List Addr} {kvs : List (Key × V)}, Paired (fun p kv => SqT K F p [kV kv.1, kv.2]) ps kvs → Paired (fun p kv => SqT K F' p [kV kv.1, kv.2]) ps kvs
  | _, _, .nil => .nil
  | _, _, .cons h t => .cons (sqtUp le h) (paired_up le t)
/-! sets of texts -/
def TxO (P : Program) (w : World) (a : Addr) (l : List Str) : HO := .ext fun hp => TxS P w hp a l
theorem txO_ok {w : World} {P : Program} {H : Hp} {hp : Heap} {a : Addr} {l : List Str} (R : TxS P w hp a l) : ObjOk P w H hp a (TxO P w a l) := by
  obtain ⟨D, e, r⟩ := id R
  exact ⟨R, ⟨_, e⟩, fun h1 h2 p k => TxS.mv p k⟩
theorem cr_setX (hc : X.calm = true) : CallR X (.type "set") (fun vs H Q => ∃ (a : Addr) (ns : List Str), vs = [V.ref a] ∧ SqL X.K H a (ns.map V.str) ∧ ns.length ≤ 1000 ∧ ∀ (p : Addr) (l : List Str), H p = none → l.Nodup → l.length ≤ ns.length → (∀ x, x ∈ l ↔ x ∈ ns) → Q (.ref p) (upd H p (TxO X.prog X.w p l))) := by
  intro pins s σ H vs us Q I rv ⟨a, ns, e, hq, hl, q⟩
  subst e
  rw [Vals.ref1 rv]
  obtain ⟨its, rv', pl, _⟩ := Inv.list I hq
  refine set_of_strs ns (I.ok.hd hc) (PlainL.isList pl) rv'.strs (by unfold scanBound; omega) fun hp tk l R1 hn hx k => ?_
  have nd : l.Nodup := by obtain ⟨_, _, _, nd, _⟩ := R1; exact nd
  exact ⟨.ref _, upd H s.heap.objs.size (TxO X.prog X.w s.heap.objs.size l), I.laid (t' := tk) k (Nat.le_refl _) (txO_ok R1), rfl, q _ l (I.hok.fresh (Nat.le_refl _)) nd hn hx⟩
theorem cr_sortedSX (hc : X.calm = true) : CallR X (.builtin "sorted") (fun vs H Q => ∃ (a : Addr) (l : List Str), vs = [V.ref a] ∧ H a = some (TxO X.prog X.w a l) ∧ l.length < 64 ∧ ∀ (ns : List Str) (p : Addr), ns.Perm l → sortedS ns = true → H p = none → Q (.ref p) (upd H p (.lst (ns.map V.str)))) := by
  intro pins s σ H vs us Q I rv ⟨a, l, e, ha, h64, q⟩
  subst e
  have R : TxS X.prog X.w s.heap a l := (I.hok a _ ha).1
  rw [Vals.ref1 rv]
  refine sorted_strset R (I.ok.hd hc) h64 fun s2 p out c ns keep gens os low place texts pm srt => ?_
  have len : (ns.map V.str).length ≤ sizeLine := by rw [List.length_map, pm.length_eq, sizeLine_eq]; omega
  have free : H p = none := I.hok.fresh low
  have J : Inv X pins σ (upd H p (.lst (ns.map V.str))) { s with heap := s2.heap, gens := s2.gens, drawn := s2.drawn, toks := s2.toks } :=
    I.call (ch := []) (Un.laid keep low free) (I.hok.laid keep low ⟨len, out.toList, c, vals_of_strs texts, place⟩) (by rw [gens]; exact I.bare) (fun _ z => nomatch z)
  have same : s2 = { s with heap := s2.heap, gens := s2.gens, drawn := s2.drawn, toks := s2.toks } := by
    cases s2
    cases s
    cases os
    rfl
  rw [same]
  exact ⟨.ref p, _, J, rfl, q ns p pm srt free⟩
theorem mergeK_nd : ∀ (more kvs : List (Key × V)), ((kvs ++ more).map (·.1)).Nodup → mergeK kvs more = kvs ++ more
  | [], kvs, _ => by simp [mergeK]
  | p :: r, kvs, nd => by
    have hp : ¬ (kvs.any fun kv => decide (kv.1 = p.1)) = true := fun z => by
      obtain ⟨x, hx, e⟩ := List.any_eq_true.mp z
      have e := of_decide_eq_true e
      rw [List.map_append, List.map_cons, List.nodup_append] at nd
      exact nd.2.2 x.1 (List.mem_map_of_mem hx) p.1 List.mem_cons_self e
    have e : putK kvs p.1 p.2 = kvs ++ [p] := by
      unfold putK
      rw [if_neg hp]
    show mergeK (putK kvs p.1 p.2) r = _
    rw [e, mergeK_nd r (kvs ++ [p]) (by rw [List.append_assoc]; exact nd), List.append_assoc]
    rfl
end
end MP

/-! How often a bool stands in a list; isinstance of a caught exception. -/
namespace MP
open PySem PySem.Spec PyProof.Rows L2

def eqb (b : Bool) (v : Value) : Bool := match v with
  | .bool c => c == b
  | _ => false
theorem bools_of_vals : ∀ {ns : List Bool} {us : List Value}, Vals (ns.map V.bl) us → us = ns.map Value.bool
  | [], _, r => by cases r; rfl
  | n :: ns, _, r => by
    rw [List.map_cons] at r
    cases r with
    | cons r1 r2 =>
      rw [bools_of_vals r2, show _ = Value.bool n from r1]
      rfl
theorem eqb_count {b : Bool} : ∀ ns : List Bool, (ns.map Value.bool).countP (eqb b) = ns.count b
  | [] => rfl
  | n :: ns => by
    rw [List.map_cons, List.countP_cons, List.count_cons, eqb_count ns]
    rfl
section
variable {X : Cx} {cls : Str → Option Addr} {ew : XK}
def rCntB (K : PySem.W.Frag) : V → List V → Hp → VK → Prop := fun x xs H Q => ∃ (p : Addr) (ns : List Bool) (k : Bool), x = .ref p ∧ xs = [.bl k] ∧ SqL K H p (ns.map V.bl) ∧ Q (.int (ns.count k : Nat)) H
theorem mt_bcount : MtM X "list.count" (rCntB X.K) := by
  intro pins s σ H x xs v us Q I rx rxs h
  obtain ⟨p, ns, k, rfl, rfl, hs, q⟩ := h
  cases rx
  obtain ⟨u, rfl, ru⟩ := Vals.one rxs
  obtain rfl : u = Value.bool k := ru
  obtain ⟨its, rv, ⟨⟨cls, dd, data, sl⟩, n, ho, hc, hdn, hd⟩, hlen⟩ := I.list hs
  simp only at hc hd
  subst hc hd
  have hi := bools_of_vals rv
  subst hi
  refine call_meets PySem.F.slot_list_count ⟨_, ho, rfl⟩ PySem.F.entry_list_count (PySem.F.args_list_count_2 _ _)
    (SeqAt.list_countAt p (ns.map Value.bool).toArray n dd sl (.bool k) (eqb k)) ⟨ho, fun y hy => ?_, ?_⟩
  · have hy : y ∈ ns.map Value.bool := by simpa using hy
    obtain ⟨c, _, rfl⟩ := List.mem_map.mp hy
    exact SeqAt.EqAt.bool_bool c k
  have ec : (ns.map Value.bool).toArray.toList.countP (eqb k) = ns.count k := eqb_count ns
  refine ⟨.int (ns.count k : Nat), H, I.tok _, ⟨s.toks, ?_⟩, q⟩
  show Value.int (((ns.map Value.bool).toArray.toList.countP (eqb k) : Nat) : Int) s.toks = Value.int ((ns.count k : Nat) : Int) s.toks
  rw [ec]
theorem mt_countD : MtM X "list.count" (rMt X.K cls ew .count) := by
  intro pins s σ H x vs v us Q I rx rv ⟨F, ad, st, d, ds, r, hx, hr, ok⟩
  obtain ⟨w, e, rfl, hy, ok⟩ := one_ok ok hr
  have ok : OkV X.K cls ew F ad H (countV d e st) Q := ok
  unfold countV at ok
  split at ok
  · cases hy
    obtain ⟨a, ns, rfl, ha, ok⟩ := onBools_ok ok r hx
    exact mt_bcount pins s σ H _ _ v us Q I rx rv ⟨_, _, _, rfl, rfl, SqL.of ha, ok.val r (.int _)⟩
  · exact ok.elim
/-- isinstance(e, c), e a caught exception that is known -/
def rIsF (K : PySem.W.Frag) : List V → Hp → VK → Prop := fun xs H Q => ∃ (a D : Addr) (oe : Obj) (c : V) (cv : Value) (b : Bool), xs = [.ref a, c] ∧ H a = some (.frz oe (.own a)) ∧ oe.cls = .ref D ∧ oe.dict = none ∧ (∃ vs, oe.data = .fields vs) ∧ ExcC K D ∧ (∀ u, RelV c u → u = cv) ∧ PySem.W.kitOne K (.ref D) cv = some b ∧ Q (.bl b) H
theorem cr_isF : CallR X (.builtin "isinstance") (rIsF X.K) := by
  intro pins s σ H xs us Q I r h
  obtain ⟨a, D, oe, c, cv, b, rfl, hF, h1, h2, ⟨vs, hv⟩, C, hcv, e, q⟩ := h
  cases r with
  | cons rx rr =>
    cases rr with
    | cons rt rr =>
      cases rr
      cases rx
      have ec := hcv _ rt
      subst ec
      obtain ⟨hget, _⟩ := I.hok a _ hF
      have J : PySem.W.InstAt s.heap a oe D none := by
        obtain ⟨oc, od, oda, osl⟩ := oe
        dsimp only at h1 h2 hv
        subst h1 h2 hv
        exact ⟨hget, rfl, rfl, trivial⟩
      exact PySem.W.kia_one (PySem.W.handS_kitx_exc C.hg C.hk C.hs C.hd C.ha C.hn C.ht C.hm) I.kIn J e (fun z => nomatch z) fun tk => ⟨.bl b, H, I.kept (t' := tk) fun _ _ z => z, rfl, q⟩
end
end MP

/-! min of pairs of whole numbers. -/
namespace MP
open PySem PySem.Spec PyProof.Rows L2
section
variable {X : Cx} {cls : Str → Option Addr} {ew : XK}
theorem pairsOf_eq : ∀ {xs : List D} {ps : List (Int × Int)}, pairsOf xs = some ps → xs = ps.map pairD
  | [], ps, h => by
    have h : some [] = some ps := h
    injection h with h
    subst h; rfl
  | x :: xs, ps, h => by
    unfold pairsOf at h
    split at h
    · rename_i e; cases e
    · rename_i i j r e
      injection e with e1 e2
      subst e1
      subst e2
      cases q : pairsOf xs with
      | none => rw [q] at h; cases h
      | some qs =>
        rw [q] at h
        injection h with h
        subst h
        rw [List.map_cons, ← pairsOf_eq q]; rfl
    · cases h
theorem reps_pairs {F : Hp} {ad : List Addr} {H : Hp} {st : Sto} (r : RelS X.K F ad st H) : ∀ {ps : List (Int × Int)} {vs : List V}, Reps X.K F ad vs (ps.map pairD) → DpAll X.K H vs (ps.map PySem.W.Datum.toD)
  | [], vs, h => by
    have h : Reps X.K F ad vs [] := h
    cases h
    exact .nil
  | p :: ps, vs, h => by
    have h : Reps X.K F ad vs (pairD p :: ps.map pairD) := h
    cases h with
    | cons h1 h2 =>
      exact .cons (frz_dp r h1 (t := pairD p) rfl rfl) (reps_pairs r h2)
theorem reps_idp {F : Hp} {ad : List Addr} {H : Hp} {st : Sto} (r : RelS X.K F ad st H) : ∀ {ps : List Int} {vs : List V}, Reps X.K F ad vs (ps.map D.int) → DpAll X.K H vs (ps.map PySem.W.Datum.toD)
  | [], vs, h => by
    have h : Reps X.K F ad vs [] := h
    cases h
    exact .nil
  | p :: ps, vs, h => by
    have h : Reps X.K F ad vs (D.int p :: ps.map D.int) := h
    cases h with
    | cons h1 h2 =>
      exact .cons (frz_dp r h1 (t := D.int p) rfl rfl) (reps_idp r h2)
theorem minI_minOf : ∀ (ps : List Int) (p : Int), minI (p :: ps) = PySem.W.minOf p ps
  | ps, p => by
    show ps.foldl _ p = ps.foldl _ p
    congr 1
    funext a y
    show (if y < a then y else a) = (if decide (y < a) = true then y else a)
    by_cases h : y < a <;> simp [h]
theorem vals_get : ∀ {ws : List V} {us : List Value}, Vals ws us → ∀ (i : Nat) (v : Value), us[i]? = some v → ∃ x, ws[i]? = some x ∧ RelV x v
  | _, _, .nil, i, v, h => by simp at h
  | x :: ws, u :: us, .cons r t, 0, v, h => by
    have h : some u = some v := h
    injection h with h
    subst h
    exact ⟨x, rfl, r⟩
  | x :: ws, u :: us, .cons r t, i + 1, v, h => vals_get t i v h
theorem reps_get {F : Hp} {ad : List Addr} : ∀ {vs : List V} {ds : List D}, Reps X.K F ad vs ds → ∀ (i : Nat) (x : V), vs[i]? = some x → ∃ d, ds[i]? = some d ∧ Rep X.K F ad x d
  | _, _, .nil, i, v, h => by simp at h
  | x :: ws, u :: us, .cons r t, 0, v, h => by
    have h : some x = some v := h
    injection h with h
    subst h
    exact ⟨u, rfl, r⟩
  | x :: ws, u :: us, .cons r t, i + 1, v, h => reps_get t i v h
theorem cr_minTD (hc : X.calm = true) (hu : X.A.units + 65 < cLine) : CallR X (.builtin "min") (rBi X.K cls ew (biV .minT)) := by
  intro pins s σ H vs us Q I rv ⟨F, ad, st, ds, r, hr, ok⟩
  obtain ⟨v, d, rfl, hx, ok⟩ := one_ok ok hr
  unfold minTV at ok
  split at ok
  · rename_i xs e
    obtain ⟨a, ws, rfl, ha, hw⟩ := listOf_rep r hx e
    split at ok
    · rename_i ps en
      rw [pairsOf_eq en] at hw
      obtain ⟨hz, ok⟩ := ite_ok (X := X) ok
      obtain ⟨its, rv2, hl, _⟩ := I.list (SqL.of ha)
      rw [Vals.ref1 rv]
      obtain ⟨as, ra⟩ := Dp.readsAll I _ ws its (reps_pairs r hw) rv2
      cases ps with
      | nil => simp at hz
      | cons p ps =>
        have ha2 : PySem.W.HoldAll s.heap its.toArray.toList (p :: ps) := ⟨as, by simpa using ra⟩
        refine PySem.W.min_list_datum (I.ok.hd hc) hl.isList ha2 (by show X.A.units + 1 + (max 0 0 + 1) < cLine; omega) fun i v h' tk hi hv hk => ?_
        have hi : its[i]? = some v := by simpa using hi
        obtain ⟨x, hx1, hx2⟩ := vals_get rv2 i v hi
        obtain ⟨d, hd1, hd2⟩ := reps_get hw i x hx1
        rw [List.getElem?_map] at hd1
        obtain ⟨q, hq, eq⟩ := Option.map_eq_some_iff.mp hd1
        subst eq
        obtain ⟨bs, rb, _⟩ := PySem.W.readsAll_at ra i v hi
        have eg : (((p :: ps).map PySem.W.Datum.toD).getD i PyData.none) = PySem.W.Datum.toD q := by
          rw [List.getD_eq_getElem?_getD, List.getElem?_map, hq]; rfl
        rw [eg] at rb
        obtain ⟨cs, rc⟩ := hv
        have u := (PySem.W.reads_keeps hk rb)
        have e3 := PyProof.Rows.reads_det (h := h') (h' := h') (fun _ _ z _ => z) u rc
        have e4 : PyData.tuple [.int (PySem.W.minOf p ps).1, .int (PySem.W.minOf p ps).2] = PyData.tuple [.int q.1, .int q.2] := e3.1
        have e5 : PySem.W.minOf p ps = q := by
          injection e4 with e4
          injection e4 with e6 e7
          injection e6 with e6
          injection e7 with e7 _
          injection e7 with e7
          exact Prod.ext e6 e7
        have e6 : minP (p :: ps) = q := e5
        rw [e6] at ok
        exact ⟨x, H, I.kept hk, hx2, ok.val r hd2⟩
    · exact ok.elim
  · split at ok
    · rename_i xs
      split at ok
      · rename_i ns en
        obtain ⟨hz, ok⟩ := ite_ok (X := X) ok
        rw [intsOf_eq en] at hx
        cases hx with
        | tup h1 hw =>
          rename_i a ws
          obtain ⟨its, rv2, hl, _⟩ := I.tuple (sqtUp r.sub h1.1)
          rw [Vals.ref1 rv]
          obtain ⟨as, ra⟩ := Dp.readsAll I _ ws its (reps_idp r hw) rv2
          cases ns with
          | nil => simp at hz
          | cons p ps =>
            have ha2 : PySem.W.HoldAll s.heap its.toArray.toList (p :: ps) := ⟨as, by simpa using ra⟩
            refine PySem.W.min_tuple_datum (I.ok.hd hc) hl ha2 (by show X.A.units + 1 + 0 < cLine; omega) fun i v h' tk hi hv hk => ?_
            have hi : its[i]? = some v := by simpa using hi
            obtain ⟨x, hx1, hx2⟩ := vals_get rv2 i v hi
            obtain ⟨d, hd1, hd2⟩ := reps_get hw i x hx1
            rw [List.getElem?_map] at hd1
            obtain ⟨q, hq, eq⟩ := Option.map_eq_some_iff.mp hd1
            subst eq
            obtain ⟨bs, rb, _⟩ := PySem.W.readsAll_at ra i v hi
            have eg : (((p :: ps).map PySem.W.Datum.toD).getD i PyData.none) = PySem.W.Datum.toD q := by
              rw [List.getD_eq_getElem?_getD, List.getElem?_map, hq]; rfl
            rw [eg] at rb
            obtain ⟨cs, rc⟩ := hv
            have u := (PySem.W.reads_keeps hk rb)
            have e3 := PyProof.Rows.reads_det (h := h') (h' := h') (fun _ _ z _ => z) u rc
            have e4 : PyData.int (PySem.W.minOf p ps) = PyData.int q := e3.1
            have e5 : PySem.W.minOf p ps = q := by injection e4
            rw [minI_minOf] at ok
            rw [e5] at ok
            exact ⟨x, H, I.kept hk, hx2, ok.val r hd2⟩
      · exact ok.elim
    · exact ok.elim
end
end MP

/-! sorted of a list of rows of whole numbers. -/
namespace MP
open PySem PySem.Spec PyProof.Rows L2
section
variable {X : Cx} {cls : Str → Option Addr} {ew : XK}
def rowE (r : List Int) : PyData := .list (r.map .int)
theorem rowsOf_eq : ∀ {xs : List D} {rs : List (List Int)}, rowsOf xs = some rs → xs = rs.map rowD
  | [], rs, h => by
    have h : some [] = some rs := h
    injection h with h
    subst h; rfl
  | x :: xs, rs, h => by
    unfold rowsOf at h
    split at h
    · rename_i e; cases e
    · rename_i ys r e
      injection e with e1 e2
      subst e1
      subst e2
      split at h
      · rename_i a b ea eb
        injection h with h
        subst h
        rw [List.map_cons, ← rowsOf_eq eb]
        show D.list ys :: _ = D.list (a.map D.int) :: _
        rw [intsOf_eq ea]
      · cases h
    · cases h
/-- what a value stands for -/
def RowR (X : Cx) (F : Hp) (ad : List Addr) (v : Value) (b : List Int) : Prop := ∃ x, RelV x v ∧ Rep X.K F ad x (rowD b)
theorem rows_each {F : Hp} {ad : List Addr} : ∀ {rs : List (List Int)} {ws : List V} {its : List Value}, Vals ws its → Reps X.K F ad ws (rs.map rowD) → PySem.W.EachIs (RowR X F ad) its rs
  | [], ws, its, rv, h => by
    have h : Reps X.K F ad ws [] := h
    cases h
    cases rv
    exact .nil
  | b :: rs, ws, its, rv, h => by
    have h : Reps X.K F ad ws (rowD b :: rs.map rowD) := h
    cases h with
    | cons h1 h2 =>
      cases rv with
      | cons r1 r2 => exact .cons ⟨_, r1, h1⟩ (rows_each r2 h2)
theorem each_rows {F : Hp} {ad : List Addr} : ∀ {out : List Value} {rs : List (List Int)}, PySem.W.EachIs (RowR X F ad) out rs → ∃ zs, Vals zs out ∧ Reps X.K F ad zs (rs.map rowD)
  | _, _, .nil => ⟨[], .nil, .nil⟩
  | _, _, .cons ⟨x, h1, h2⟩ t => by
    obtain ⟨zs, a, b⟩ := each_rows t
    exact ⟨x :: zs, .cons h1 a, .cons h2 b⟩
theorem rowD_py (p : List Int) : (rowD p).py = rowE p := by
  show PyData.list (pys (p.map D.int)) = _
  have : ∀ l : List Int, pys (l.map D.int) = l.map PyData.int := fun l => by
    induction l with
    | nil => rfl
    | cons x l ih => show PyData.int x :: pys (l.map D.int) = _; rw [ih]; rfl
  rw [this]; rfl
theorem rowD_nr (p : List Int) : (rowD p).noref = true := by
  show norefs (p.map D.int) = true
  induction p with
  | nil => rfl
  | cons x l ih => show (D.noref (.int x) && norefs (l.map D.int)) = true; rw [ih]; rfl
theorem rowD_shp (p : List Int) : (rowD p).shp = true := by
  show SeqAt.shaped (rowD p).py = true
  rw [rowD_py]
  have c : ∀ l : List Int, PyData.canLayAll0 (l.map PyData.int) = true := fun l => by
    induction l with
    | nil => rfl
    | cons x l ih =>
      show PyData.canLayAll0 (PyData.int x :: l.map PyData.int) = true
      simp only [PyData.canLayAll0, ih, Bool.and_true]
      rfl
  unfold SeqAt.shaped rowE
  rw [Bool.and_eq_true, decide_eq_true_eq]
  refine ⟨by simp only [PyData.canLay0]; exact c p, ?_⟩
  show PyData.depthAll (p.map .int) + 1 ≤ 64
  rw [PySem.W.depth_ints]
  decide
theorem rowD_frz (st : Sto) (p : List Int) : frz st (rowD p) = some (rowD p) := by
  unfold frz rowD
  have : ∀ (f : Nat → Option D) (l : List Int), mapRefs f (l.map D.int) = some (l.map D.int) := fun f l => by
    induction l with
    | nil => simp only [List.map_nil, mapRefs]
    | cons x l ih => simp only [List.map_cons, mapRefs, D.mapRef, ih]
  simp only [D.mapRef, this]
theorem reps_rows {F : Hp} {ad : List Addr} {H : Hp} {st : Sto} (r : RelS X.K F ad st H) : ∀ {ps : List (List Int)} {vs : List V}, Reps X.K F ad vs (ps.map rowD) → DpAll X.K H vs (ps.map rowE)
  | [], vs, h => by
    have h : Reps X.K F ad vs [] := h
    cases h
    exact .nil
  | p :: ps, vs, h => by
    have h : Reps X.K F ad vs (rowD p :: ps.map rowD) := h
    cases h with
    | cons h1 h2 =>
      refine .cons ?_ (reps_rows r h2)
      have := frz_dp r h1 (t := rowD p) (rowD_frz st p) (rowD_shp p)
      rw [rowD_py] at this
      exact this
theorem sorted_rows (hc : X.calm = true) (hu : X.A.units + 65 < cLine) : CallR X (.builtin "sorted") (fun vs H Q => ∃ (F : Hp) (ad : List Addr) (st : Sto) (rs : List (List Int)) (a : Addr) (ws : List V), RelS X.K F ad st H ∧ vs = [.ref a] ∧ SqL X.K H a ws ∧ Reps X.K F ad ws (rs.map rowD) ∧ rs.length < 64 ∧ ∀ (zs : List V) (p : Addr), Reps X.K F ad zs ((sortR rs).map rowD) → H p = none → Q (.ref p) (upd H p (.lst zs))) := by
  intro pins s σ H vs us Q I rv ⟨F, ad, st, rs, a, ws, r, e, ha, hw, hz, q⟩
  subst e
  obtain ⟨its, rv2, hl, _⟩ := I.list ha
  rw [Vals.ref1 rv]
  obtain ⟨as, ra⟩ := Dp.readsAll I _ ws its (reps_rows r hw) rv2
  have hs : sizeLine = 16777216 := sizeLine_eq
  refine PySem.W.sorted_data (enc := rowE) (R := RowR X F ad) hl.isList (rows_each rv2 hw) (PySem.W.readsAll_each rowE ra) (PySem.W.AllAlike.of fun b b' => ?_) (PySem.W.Sortable.others fun b => ⟨(by intro z; cases z), (fun xs z => by cases z)⟩) (by rw [hs]; omega) (fun b _ => ?_) fun out ho eo => ?_
  · show PySem.W.alike (.list (b.map .int)) (.list (b'.map .int)) = true
    rw [PySem.W.alike, PySem.W.alike_ints]
  · show X.A.units + 2 + (PyData.depthAll (b.map .int) + 1) < cLine
    rw [PySem.W.depth_ints]
    omega
  · have es : rs.mergeSort (PySem.W.dataLe false rowE) = sortR rs := by
      unfold sortR
      rw [show PySem.W.dataLe false rowE = fun p q : List Int => decide (p ≤ q) from PySem.W.dataLe_rows (fun x => x)]
    rw [es] at eo
    obtain ⟨zs, v1, v2⟩ := each_rows eo
    obtain ⟨c, hc2⟩ := sortedAll_at s.heap its out.toArray
    have hn : H (s.heap.objs.size + 1) = none := I.hok.fresh (Nat.le_succ _)
    refine ⟨.ref (s.heap.objs.size + 1), upd H (s.heap.objs.size + 1) (.lst zs), I.laid (t' := s.toks) (fun b o e => sortedAll_old e) (Nat.le_succ _) ⟨?_, out, c, v1, hc2⟩, rfl, q zs _ v2 hn⟩
    rw [v1.length, ho, hs]; omega
theorem cr_sortedRD (hc : X.calm = true) (hu : X.A.units + 65 < cLine) : CallR X (.builtin "sorted") (rBi X.K cls ew (biV .sortedR)) := by
  intro pins s σ H vs us Q I rv ⟨F, ad, st, ds, r, hr, ok⟩
  obtain ⟨v, d, rfl, hx, ok⟩ := one_ok ok hr
  unfold rowsV at ok
  split at ok
  · rename_i xs e
    obtain ⟨a, ws, rfl, ha, hw⟩ := listOf_rep r hx e
    split at ok
    · rename_i rs en
      rw [rowsOf_eq en] at hw
      obtain ⟨hz, ok⟩ := ite_ok (X := X) ok
      exact sorted_rows hc hu pins s σ H _ us Q I rv ⟨F, ad, st, rs, a, ws, r, rfl, SqL.of ha, hw, hz, fun zs p hz hp => ok.list r hz hp⟩
    · exact ok.elim
  · exact ok.elim
end
end MP

/-! repr of a list, of a tuple. -/
namespace MP
open PySem PySem.Spec PyProof.Rows L2
section
variable {X : Cx} {cls : Str → Option Addr} {ew : XK}
/-- what is shown of a value that stands for data without a dict -/
theorem repr_dp {pins : List (Addr × Obj)} {s : Shared} {σ : L2.St} {H : Hp} {d : D} {v : V} {u : Value} {Q : VK} (I : Inv X pins σ H s) (hg : X.A.guards = some []) (hu : X.A.units + 65 < cLine) (hp : Dp X.K H v d.py) (rv : RelV v u) (hd : repB d = true) (q : Q (.str (PyData.shown d.py)) H) :
    wpAny (model X.prog X.w) X.A (call (.builtin "repr") [u]) (EP X pins σ Q) X.xe s := by
  unfold repB at hd
  simp only [Bool.and_eq_true, decide_eq_true_eq] at hd
  obtain ⟨⟨⟨hb, hs⟩, hw⟩, hz⟩ := hd
  have hs' : (PyData.canLay0 d.py && decide (PyData.depth d.py ≤ 64)) = true := hs
  rw [Bool.and_eq_true, decide_eq_true_eq] at hs'
  obtain ⟨as, ra⟩ := Dp.reads I _ v u hp rv
  have key : ∀ a, u = .ref a → wpAny (model X.prog X.w) X.A (call (.builtin "repr") [u]) (EP X pins σ Q) X.xe s := fun a e => by
    subst e
    refine repr_of_reads' ra hw (noDict_of hs'.1) hg (by omega) (fun _ _ z => z) (fun h' t tk hk => ?_) hz
    exact ⟨.str _, H, I.kept (t' := tk) hk, ⟨t, rfl⟩, q⟩
  cases d with
  | list xs => 
    cases ra with
    | list h1 h2 h3 h4 => exact key _ rfl
  | tup xs =>
    cases ra with
    | tuple h1 h2 h3 h4 => exact key _ rfl
  | _ => cases hb
where
  noDict_of {e : PyData} {as : List Addr} (h : e.canLay0 = true) : e.hasDict = true → sysModules ∉ as := PyData.noDict_hsm (PyData.hasDict_of_canLay e h)
theorem cr_reprD (hg : X.A.guards = some []) (hu : X.A.units + 65 < cLine) : CallR X (.builtin "repr") (rBi X.K cls ew (biV .reprOf)) := by
  intro pins s σ H vs us Q I rv ⟨F, ad, st, ds, r, hr, ok⟩
  obtain ⟨v, d, rfl, hx, ok⟩ := one_ok ok hr
  cases rv with
  | cons r1 r2 =>
    cases r2
    unfold reprV at ok
    split at ok
    · rename_i d' e
      obtain ⟨hd, ok⟩ := ite_ok (X := X) ok
      have hs : d'.shp = true := by
        unfold repB at hd
        simp only [Bool.and_eq_true] at hd
        exact hd.1.1.2
      exact repr_dp I hg hu (frz_dp r hx e hs) r1 hd (ok.val r (.str _))
    · exact ok.elim
end
end MP

/-! Composition; calls. -/
namespace MP
open PySem PySem.Spec PyProof.Rows L2

section
variable {K : PySem.W.Frag} {cls : Str → Option Addr} {ew : XK} {F F1 : Hp} {ad ad1 : List Addr} {H H1 : Hp} {st st1 : Sto} {Q : VK}
theorem OkV.bindX {r : R Val} {f : Val → Sto → R Val} (h : OkV K cls ew F ad H (r.bind f) Q) {Q' : VK}
    (k : ∀ x st' F' ad' H' v, Step F ad H F' ad' H' → RelS K F' ad' st' H' → RepX K H F' ad' H' v x → OkV K cls ew F ad H (f x st') Q → Q' v H') : OkV K cls ew F ad H r Q' := by
  cases r with
  | ok x st' => exact fun F' ad' H' v s r q => k x st' F' ad' H' v s r q h
  | err c st' => exact h
  | stuck => exact h
/-- .. what is made is frozen -/
theorem OkV.bindF {r : R Val} {f : Val → Sto → R Val} (h : OkV K cls ew F ad H (r.bind f) Q) {Q' : VK}
    (k : ∀ x st' F' ad' H' v, Step F ad H F' ad' H' → RelS K F' ad' st' H' → Rep K F' ad' v x.d → OkV K cls ew F' ad' H' (f x st') Q → Q' v H') : OkV K cls ew F ad H r Q' :=
  h.bindX fun x st' F' ad' H' v s r q ok => by
    obtain ⟨F'', s', r', q'⟩ := freezeX s r q
    exact k x st' F'' ad' H' v s' r' q' (ok.step s')
/-- lists of values -/
def OkL (K : PySem.W.Frag) (cls : Str → Option Addr) (ew : XK) (F : Hp) (ad : List Addr) (H : Hp) (r : R (List D)) (Q : List V → Hp → Prop) : Prop := match r with
  | .ok ds st' => ∀ F' ad' H' vs, Step F ad H F' ad' H' → RelS K F' ad' st' H' → Reps K F' ad' vs ds → Q vs H'
  | .err c st' => ∀ F' ad' H' a, Step F ad H F' ad' H' → RelS K F' ad' st' H' → cls c = some a → ew (.ref a) none H'
  | .stuck => False
theorem OkL.step (s : Step F ad H F1 ad1 H1) {r : R (List D)} {Q : List V → Hp → Prop} (h : OkL K cls ew F ad H r Q) : OkL K cls ew F1 ad1 H1 r Q := by
  cases r with
  | ok x st' => exact fun F' ad' H' v s' r' x' => h F' ad' H' v (s.trans s') r' x'
  | err c st' => exact fun F' ad' H' a s' r' e => h F' ad' H' a (s.trans s') r' e
  | stuck => exact h
theorem OkV.bindL {r : R (List D)} {f : List D → Sto → R Val} (h : OkV K cls ew F ad H (r.bind f) Q) {Q' : List V → Hp → Prop}
    (k : ∀ x st' F' ad' H' v, Step F ad H F' ad' H' → RelS K F' ad' st' H' → Reps K F' ad' v x → OkV K cls ew F' ad' H' (f x st') Q → Q' v H') : OkL K cls ew F ad H r Q' := by
  cases r with
  | ok x st' => exact fun F' ad' H' v s r q => k x st' F' ad' H' v s r q (OkV.step s h)
  | err c st' => exact h
  | stuck => exact h
theorem OkL.bindF {r : R Val} {f : Val → Sto → R (List D)} {Q : List V → Hp → Prop} (h : OkL K cls ew F ad H (r.bind f) Q) {Q' : VK}
    (k : ∀ x st' F' ad' H' v, Step F ad H F' ad' H' → RelS K F' ad' st' H' → Rep K F' ad' v x.d → OkL K cls ew F' ad' H' (f x st') Q → Q' v H') : OkV K cls ew F ad H r Q' := by
  cases r with
  | ok x st' =>
    intro F' ad' H' v s r q
    obtain ⟨F'', s', r', q'⟩ := freezeX s r q
    exact k x st' F'' ad' H' v s' r' q' (OkL.step s' h)
  | err c st' => exact h
  | stuck => exact h
theorem OkL.bindL {r : R (List D)} {f : List D → Sto → R (List D)} {Q : List V → Hp → Prop} (h : OkL K cls ew F ad H (r.bind f) Q) {Q' : List V → Hp → Prop}
    (k : ∀ x st' F' ad' H' v, Step F ad H F' ad' H' → RelS K F' ad' st' H' → Reps K F' ad' v x → OkL K cls ew F' ad' H' (f x st') Q → Q' v H') : OkL K cls ew F ad H r Q' := by
  cases r with
  | ok x st' => exact fun F' ad' H' v s r q => k x st' F' ad' H' v s r q (OkL.step s h)
  | err c st' => exact h
  | stuck => exact h
/-- a call's end -/
def OkD (K : PySem.W.Frag) (cls : Str → Option Addr) (ew : XK) (F : Hp) (ad : List Addr) (H : Hp) (r : R D) (Q : VK) : Prop := match r with
  | .ok d st' => ∀ F' ad' H' v, Step F ad H F' ad' H' → RelS K F' ad' st' H' → Rep K F' ad' v d → Q v H'
  | .err c st' => ∀ F' ad' H' a, Step F ad H F' ad' H' → RelS K F' ad' st' H' → cls c = some a → ew (.ref a) none H'
  | .stuck => False
end

/-! ### trees beyond a frame -/
mutual
theorem D.noref_map {g : Nat → Option D} : ∀ {d : D}, d.noref = true → d.mapRef g = some d
  | .none, _ => rfl
  | .bool _, _ => rfl
  | .int _, _ => rfl
  | .str _, _ => rfl
  | .scr _, _ => rfl
  | .exc _, _ => rfl
  | .list xs, h => by
    simp only [D.noref] at h
    simp only [D.mapRef, norefs_map h]
  | .tup xs, h => by
    simp only [D.noref] at h
    simp only [D.mapRef, norefs_map h]
  | .dk ks vs, h => by
    simp only [D.noref] at h
    simp only [D.mapRef, norefs_map h]
  | .dt ks vs, h => by
    simp only [D.noref] at h
    simp only [D.mapRef, norefs_map h]
  | .ref _, h => by cases h
theorem norefs_map {g : Nat → Option D} : ∀ {ds : List D}, norefs ds = true → mapRefs g ds = some ds
  | [], _ => rfl
  | d :: ds, h => by
    simp only [norefs, Bool.and_eq_true] at h
    simp only [mapRefs, D.noref_map h.1, norefs_map h.2]
end
section
variable {K : PySem.W.Frag} {F F' : Hp} {ad ad' : List Addr}
mutual
theorem Rep.cut : ∀ {v : V} {d : D}, Rep K F ad v d → d.noref = true → Rep K F ad' v d
  | _, _, .none, _ => .none
  | _, _, .bool b, _ => .bool b
  | _, _, .int i, _ => .int i
  | _, _, .str x, _ => .str x
  | _, _, .scr h, _ => .scr h
  | _, _, .exc h q, _ => .exc h q
  | _, _, .list h r, n => .list h (Reps.cut r (by simpa only [D.noref] using n))
  | _, _, .tup h r, n => .tup h (Reps.cut r (by simpa only [D.noref] using n))
  | _, _, .ref h, n => by cases n
theorem Reps.cut : ∀ {vs : List V} {ds : List D}, Reps K F ad vs ds → norefs ds = true → Reps K F ad' vs ds
  | _, _, .nil, _ => .nil
  | _, _, .cons h r, n => by
    simp only [norefs, Bool.and_eq_true] at n
    exact .cons (Rep.cut h n.1) (Reps.cut r n.2)
end
mutual
theorem Rep.thaw (g : Nat → Option D) (hg : ∀ (n : Nat) (t : D) (a : Addr), g n = some t → ad[n]? = some a → Rep K F' ad' (.ref a) t) (le : ∀ a o, F a = some o → F' a = some o) : ∀ {v : V} {d t : D}, Rep K F ad v d → d.mapRef g = some t → Rep K F' ad' v t
  | _, _, _, .none, h => by simp only [D.mapRef, Option.some.injEq] at h; subst h; exact .none
  | _, _, _, .bool b, h => by simp only [D.mapRef, Option.some.injEq] at h; subst h; exact .bool b
  | _, _, _, .int b, h => by simp only [D.mapRef, Option.some.injEq] at h; subst h; exact .int b
  | _, _, _, .str b, h => by simp only [D.mapRef, Option.some.injEq] at h; subst h; exact .str b
  | _, _, _, .scr b, h => by simp only [D.mapRef, Option.some.injEq] at h; subst h; exact .scr (sqlUp le b)
  | _, _, _, .exc b q, h => by simp only [D.mapRef, Option.some.injEq] at h; subst h; exact .exc (le _ _ b) q
  | _, .list ds, t, .list hs r, h => by
    simp only [D.mapRef] at h
    cases e : mapRefs g ds with
    | none => rw [e] at h; cases h
    | some ys =>
      rw [e] at h
      simp only [Option.some.injEq] at h
      subst h
      exact .list (le _ _ hs) (Reps.thaw g hg le r e)
  | _, .tup ds, t, .tup hs r, h => by
    simp only [D.mapRef] at h
    cases e : mapRefs g ds with
    | none => rw [e] at h; cases h
    | some ys =>
      rw [e] at h
      simp only [Option.some.injEq] at h
      subst h
      exact .tup (tkUp le hs) (Reps.thaw g hg le r e)
  | _, _, _, .ref ha, h => hg _ _ _ (by simpa only [D.mapRef] using h) ha
theorem Reps.thaw (g : Nat → Option D) (hg : ∀ (n : Nat) (t : D) (a : Addr), g n = some t → ad[n]? = some a → Rep K F' ad' (.ref a) t) (le : ∀ a o, F a = some o → F' a = some o) : ∀ {vs : List V} {ds ts : List D}, Reps K F ad vs ds → mapRefs g ds = some ts → Reps K F' ad' vs ts
  | _, _, _, .nil, h => by simp only [mapRefs, Option.some.injEq] at h; subst h; exact .nil
  | _, d :: ds, _, .cons h1 h2, h => by
    simp only [mapRefs] at h
    cases e1 : d.mapRef g with
    | none => rw [e1] at h; cases h
    | some y =>
      cases e2 : mapRefs g ds with
      | none => rw [e1, e2] at h; cases h
      | some ys =>
        rw [e1, e2] at h
        simp only [Option.some.injEq] at h
        subst h
        exact .cons (Rep.thaw g hg le h1 e1) (Reps.thaw g hg le h2 e2)
end
/-- a tuple's objects alone -/
theorem sqtUpT {a : Addr} {vs : List V} (le : ∀ a, (∀ xs, F a = some (.tup xs) → F' a = some (.tup xs)) ∧ ∀ o xs, F a = some (.frz o (.tup xs)) → F' a = some (.frz o (.tup xs))) (h : SqT K F a vs) : SqT K F' a vs := by
  rcases h with (h | ⟨o, h⟩) | h
  · exact .inl (.inl ((le _).1 _ h))
  · exact .inl (.inr ⟨o, (le _).2 _ _ h⟩)
  · exact .inr h
mutual
theorem Rep.thawT (g : Nat → Option D) (hg : ∀ (n : Nat) (t : D) (a : Addr), g n = some t → ad[n]? = some a → Rep K F' ad' (.ref a) t)
    (le : ∀ a, (∀ xs, F a = some (.tup xs) → F' a = some (.tup xs)) ∧ ∀ o xs, F a = some (.frz o (.tup xs)) → F' a = some (.frz o (.tup xs))) : ∀ {v : V} {d t : D}, Rep K F ad v d → d.mapRef g = some t → d.nolist = true → Rep K F' ad' v t
  | _, _, _, .none, h, _ => by simp only [D.mapRef, Option.some.injEq] at h; subst h; exact .none
  | _, _, _, .bool b, h, _ => by simp only [D.mapRef, Option.some.injEq] at h; subst h; exact .bool b
  | _, _, _, .int b, h, _ => by simp only [D.mapRef, Option.some.injEq] at h; subst h; exact .int b
  | _, _, _, .str b, h, _ => by simp only [D.mapRef, Option.some.injEq] at h; subst h; exact .str b
  | _, _, _, .scr b, h, n => by cases n
  | _, _, _, .exc b q, h, n => by cases n
  | _, .list ds, t, .list hs r, h, n => by cases n
  | _, .tup ds, t, .tup hs r, h, n => by
    simp only [D.mapRef] at h
    cases e : mapRefs g ds with
    | none => rw [e] at h; cases h
    | some ys =>
      rw [e] at h
      simp only [Option.some.injEq] at h
      subst h
      exact .tup ⟨sqtUpT le hs.1, fun i j e => (le _).1 _ (hs.2 i j e)⟩ (Reps.thawT g hg le r e (by simpa only [D.nolist] using n))
  | _, _, _, .ref ha, h, _ => hg _ _ _ (by simpa only [D.mapRef] using h) ha
theorem Reps.thawT (g : Nat → Option D) (hg : ∀ (n : Nat) (t : D) (a : Addr), g n = some t → ad[n]? = some a → Rep K F' ad' (.ref a) t)
    (le : ∀ a, (∀ xs, F a = some (.tup xs) → F' a = some (.tup xs)) ∧ ∀ o xs, F a = some (.frz o (.tup xs)) → F' a = some (.frz o (.tup xs))) : ∀ {vs : List V} {ds ts : List D}, Reps K F ad vs ds → mapRefs g ds = some ts → nolists ds = true → Reps K F' ad' vs ts
  | _, _, _, .nil, h, _ => by simp only [mapRefs, Option.some.injEq] at h; subst h; exact .nil
  | _, d :: ds, _, .cons h1 h2, h, n => by
    simp only [mapRefs] at h
    simp only [nolists, Bool.and_eq_true] at n
    cases e1 : d.mapRef g with
    | none => rw [e1] at h; cases h
    | some y =>
      cases e2 : mapRefs g ds with
      | none => rw [e1, e2] at h; cases h
      | some ys =>
        rw [e1, e2] at h
        simp only [Option.some.injEq] at h
        subst h
        exact .cons (Rep.thawT g hg le h1 e1 n.1) (Reps.thawT g hg le h2 e2 n.2)
end
theorem readN_thaw {st : Sto} {H : Hp} (r : RelS K F ad st H) (le : ∀ a o, F a = some o → F' a = some o) (lc : ∀ a ∈ ad, ∀ o, H a = some o → F' a = some o) :
    ∀ (k n : Nat) (t : D) (a : Addr), readN k st n = some t → ad[n]? = some a → Rep K F' ad' (.ref a) t := by
  intro k
  induction k with
  | zero => intro n t a h; cases h
  | succ k ih =>
    intro n t a h ha
    simp only [readN] at h
    split at h
    · rename_i xs e
      obtain ⟨vs, h1, h2⟩ := r.cell _ _ _ e ha
      split at h
      · rename_i ys e2
        cases h
        exact .list (lc a (List.mem_of_getElem? ha) _ h1) (Reps.thaw _ ih le h2 e2)
      · cases h
    · cases h
theorem readN_thawT {st : Sto} {H : Hp} (r : RelS K F ad st H) (nl : st.all Cell.nolist = true)
    (le : ∀ a, (∀ xs, F a = some (.tup xs) → F' a = some (.tup xs)) ∧ ∀ o xs, F a = some (.frz o (.tup xs)) → F' a = some (.frz o (.tup xs))) (lc : ∀ a ∈ ad, ∀ o, H a = some o → F' a = some o) :
    ∀ (k n : Nat) (t : D) (a : Addr), readN k st n = some t → ad[n]? = some a → Rep K F' ad' (.ref a) t := by
  intro k
  induction k with
  | zero => intro n t a h; cases h
  | succ k ih =>
    intro n t a h ha
    simp only [readN] at h
    split at h
    · rename_i xs e
      obtain ⟨vs, h1, h2⟩ := r.cell _ _ _ e ha
      split at h
      · rename_i ys e2
        cases h
        have q := (List.all_eq_true.mp nl) _ (List.mem_of_getElem? e)
        exact .list (lc a (List.mem_of_getElem? ha) _ h1) (Reps.thawT _ ih le h2 e2 (by simpa only [Cell.nolist] using q))
      · cases h
    · cases h
/-! cells counted on -/
mutual
theorem Rep.shift (ad0 : List Addr) : ∀ {v : V} {d : D}, Rep K F ad v d → Rep K F (ad0 ++ ad) v (d.shift ad0.length)
  | _, _, .none => .none
  | _, _, .bool b => .bool b
  | _, _, .int i => .int i
  | _, _, .str x => .str x
  | _, _, .scr h => .scr h
  | _, _, .exc h q => .exc h q
  | _, _, .list h r => .list h (Reps.shift ad0 r)
  | _, _, .tup h r => .tup h (Reps.shift ad0 r)
  | _, .ref n, .ref h => .ref (by rw [Nat.add_comm, List.getElem?_append_right (Nat.le_add_right _ _), Nat.add_sub_cancel_left]; exact h)
theorem Reps.shift (ad0 : List Addr) : ∀ {vs : List V} {ds : List D}, Reps K F ad vs ds → Reps K F (ad0 ++ ad) vs (shifts ad0.length ds)
  | _, _, .nil => .nil
  | _, _, .cons h r => .cons (Rep.shift ad0 h) (Reps.shift ad0 r)
end
mutual
theorem Rep.lowT {n : Nat} : ∀ {v : V} {d : D}, Rep K F ad v d → d.low n = true → Rep K F (ad.take n) v d
  | _, _, .none, _ => .none
  | _, _, .bool b, _ => .bool b
  | _, _, .int i, _ => .int i
  | _, _, .str x, _ => .str x
  | _, _, .scr h, _ => .scr h
  | _, _, .exc h q, _ => .exc h q
  | _, _, .list h r, l => .list h (Reps.lowT r (by simpa only [D.low] using l))
  | _, _, .tup h r, l => .tup h (Reps.lowT r (by simpa only [D.low] using l))
  | _, _, .ref h, l => .ref (by
    have l' := of_decide_eq_true (by simpa only [D.low] using l)
    rw [List.getElem?_take_of_lt l']; exact h)
theorem Reps.lowT {n : Nat} : ∀ {vs : List V} {ds : List D}, Reps K F ad vs ds → lows n ds = true → Reps K F (ad.take n) vs ds
  | _, _, .nil, _ => .nil
  | _, _, .cons h r, l => by
    simp only [lows, Bool.and_eq_true] at l
    exact .cons (Rep.lowT h l.1) (Reps.lowT r l.2)
end
end

/-! ### the three calls -/
/-- what is frozen behind a call: what was, and what is new -/
def hpNew (F H H2 : Hp) : Hp := fun a => match F a, H a with
  | some o, _ => some o
  | none, none => H2 a
  | none, some (.tup xs) => some (.tup xs)
  | _, _ => none
def hpAll (F : Hp) (ad : List Addr) (H : Hp) : Hp := fun a => match F a with
  | some o => some o
  | none => if a ∈ ad then H a else none
section
variable {K : PySem.W.Frag} {cls : Str → Option Addr} {ew : XK} {F F1 F2 : Hp} {ad ad2 : List Addr} {H H2 : Hp} {st st2 : Sto} {Q : VK}
theorem hpNew_old {a : Addr} {o : HO} (h : F a = some o) : hpNew F H H2 a = some o := by unfold hpNew; rw [h]
theorem hpNew_new {a : Addr} (h : F a = none) (h' : H a = none) : hpNew F H H2 a = H2 a := by unfold hpNew; rw [h, h']
theorem hpNew_tup {a : Addr} {xs : List V} (h : F a = none) (h' : H a = some (.tup xs)) : hpNew F H H2 a = some (.tup xs) := by unfold hpNew; rw [h, h']
theorem hpNew_of {a : Addr} {o : HO} (h : hpNew F H H2 a = some o) : F a = some o ∨ (F a = none ∧ H a = none ∧ H2 a = some o) ∨ (H a = some o ∧ ∃ xs, o = .tup xs) := by
  unfold hpNew at h
  split at h
  · rename_i e; cases h; exact .inl e
  · rename_i e1 e2; exact .inr (.inl ⟨e1, e2, h⟩)
  · rename_i e1 e2; cases h; exact .inr (.inr ⟨e2, _, rfl⟩)
  · cases h
/-- what F2 has beyond F stands in hpNew, where it is new or a tuple -/
theorem hpNew_got {a : Addr} {o : HO} (h0 : F a = none) (z : H a = none ∨ ∃ xs, H a = some (.tup xs)) (keep : ∀ a o, H a = some o → H2 a = some o) (h : H2 a = some o) : hpNew F H H2 a = some o := by
  rcases z with z | ⟨xs, z⟩
  · rw [hpNew_new h0 z]; exact h
  · rw [hpNew_tup h0 z]
    have := keep _ _ z
    rw [h] at this; exact this.symm
theorem not_tup {n : Nat} {a : Addr} {xs : List V} (r : RelS K F ad st H) (h : ad[n]? = some a) (e : H a = some (.tup xs)) : False := by
  have hn : n < st.length := by rw [← r.len]; exact (List.getElem?_eq_some_iff.mp h).1
  have hc := r.cell n st[n] a (List.getElem?_eq_getElem _) h
  cases e5 : st[n] with
  | lst xs => rw [e5] at hc; obtain ⟨vs, h1, _⟩ := hc; rw [h1] at e; cases e
  | dk ks xs => rw [e5] at hc; obtain ⟨vs, h1, _⟩ := hc; rw [h1] at e; cases e
  | dt ks xs => rw [e5] at hc; obtain ⟨vs, h1, _⟩ := hc; rw [h1] at e; cases e
  | dead => rw [e5] at hc; obtain ⟨vs, _, h1⟩ := hc; rw [h1] at e; cases e
theorem back_step (r : RelS K F ad st H) (keep : ∀ a o, H a = some o → H2 a = some o) (dom : ∀ a, H2 a = none → H a = none) : Step F ad H (hpNew F H H2) ad H2 where
  le := fun a o h => hpNew_old h
  pre := ⟨[], by simp⟩
  newF := fun a h1 h2 => by
    cases e : H a with
    | none => exact .inl rfl
    | some o =>
      cases e2 : hpNew F H H2 a with
      | none => exact absurd e2 h2
      | some o2 =>
        rcases hpNew_of e2 with z | ⟨_, z, _⟩ | ⟨z, xs, z2⟩
        · rw [h1] at z; cases z
        · rw [e] at z; cases z
        · rw [e] at z; cases z; exact .inr (.inr ⟨xs, by rw [z2]⟩)
  newA := fun a h1 h2 => absurd h1 h2
  keep := fun a o _ h => keep a o h
  dom := dom
theorem back_rel (r : RelS K F ad st H) (keep : ∀ a o, H a = some o → H2 a = some o) : RelS K (hpNew F H H2) ad st H2 where
  sub := fun a o h => by
    rcases hpNew_of h with h | ⟨_, _, h⟩ | ⟨h, _⟩
    · exact keep a o (r.sub a o h)
    · exact h
    · exact keep a o h
  nd := r.nd
  out := fun n a h hd => by
    cases e2 : hpNew F H H2 a with
    | none => rfl
    | some o2 =>
      rcases hpNew_of e2 with z | ⟨_, z, _⟩ | ⟨z, xs, z2⟩
      · rw [r.out n a h hd] at z; cases z
      · exact absurd z (r.live a (List.mem_of_getElem? h))
      · rw [z2] at z; exact (not_tup r h z).elim
  len := r.len
  live := fun a h => by
    cases e : H a with
    | none => exact absurd e (r.live a h)
    | some o => rw [keep a o e]; simp
  cell := fun n c a h1 h2 => (r.cell n c a h1 h2).up (fun a o h => hpNew_old h) (fun _ _ h => h) (keep a)
/-- the callee's frozen part at its start -/
theorem start_rel (le : ∀ a o, F1 a = some o → H a = some o) : RelS K F1 [] [] H :=
  ⟨le, List.nodup_nil, fun n a h => absurd h (by simp), rfl, fun a h => absurd h (by simp), fun n c a h => by simp at h⟩
theorem callP_ok {cf : CF} {f : Nat} {ds : List D} {vs : List V} (ok : OkV K cls ew F ad H (callP cf f ds st) Q) (r : RelS K F ad st H) (rs : Reps K F ad vs ds) :
    ∃ F1 ts, RelS K F1 [] [] H ∧ Reps K F1 [] vs ts ∧ OkD K cls ew F1 [] H (cf f ts []) Q := by
  unfold callP at ok
  cases e : frzs st ds with
  | none => rw [e] at ok; exact ok.elim
  | some ts =>
    rw [e] at ok
    simp only at ok
    by_cases hn : norefs ds = true
    · have et : ts = ds := by
        have := norefs_map (g := readN st.length st) hn
        unfold frzs at e
        rw [this] at e; exact (Option.some.inj e).symm
      subst et
      refine ⟨F, ts, start_rel r.sub, rs.cut hn, ?_⟩
      cases q : cf f ts [] with
      | stuck => rw [q] at ok; exact ok
      | err c st' =>
        rw [q] at ok
        intro F' ad' H' a s' r' ec
        have keep : ∀ a o, H a = some o → H' a = some o := fun a o h => s'.keep a o (by simp) h
        exact ok _ _ _ a (back_step r keep s'.dom) (back_rel r keep) ec
      | ok d st' =>
        rw [q] at ok
        simp only [hn, Bool.true_or, if_true] at ok
        cases q2 : frz st' d with
        | none => rw [q2] at ok; exact ok.elim
        | some t =>
          rw [q2] at ok
          intro F2 ad2 H2 v s2 r2 v2
          have keep : ∀ a o, H a = some o → H2 a = some o := fun a o h => s2.keep a o (by simp) h
          have le : ∀ a o, F2 a = some o → hpNew F H H2 a = some o := fun a o h => by
            cases e1 : F a with
            | some o' =>
              have := s2.le a o' e1
              rw [h] at this
              rw [hpNew_old e1]; exact this.symm
            | none =>
              have := (s2.newF a e1 (by rw [h]; simp)).imp_right fun z => z.resolve_left (by simp)
              exact hpNew_got e1 this keep (r2.sub a o h)
          have lc : ∀ a ∈ ad2, ∀ o, H2 a = some o → hpNew F H H2 a = some o := fun a ha o h => by
            have z := s2.newA a ha (by simp)
            have z2 : F a = none := by
              cases e1 : F a with
              | none => rfl
              | some o' => rw [r.sub a o' e1] at z; cases z
            rw [hpNew_new z2 z]; exact h
          exact ok _ _ _ v (back_step r keep s2.dom) (back_rel r keep) (Rep.thaw _ (readN_thaw r2 le lc _) le v2 q2)
    · have hF : ∀ a o, F a = some o → hpAll F ad H a = some o := fun a o h => by unfold hpAll; rw [h]
      have hA : ∀ a ∈ ad, ∀ o, H a = some o → hpAll F ad H a = some o := fun a ha o h => by
        unfold hpAll
        cases e : F a with
        | some o' => rw [← h, r.sub a o' e]
        | none => simp only; rw [if_pos ha]; exact h
      have hof : ∀ a o, hpAll F ad H a = some o → F a = some o ∨ (a ∈ ad ∧ H a = some o) := fun a o h => by
        unfold hpAll at h
        split at h
        · rename_i e1; cases h; exact .inl e1
        · split at h
          · rename_i ha; exact .inr ⟨ha, h⟩
          · cases h
      have hsub : ∀ a o, hpAll F ad H a = some o → H a = some o := fun a o h => by
        rcases hof a o h with h | h
        · exact r.sub a o h
        · exact h.2
      refine ⟨hpAll F ad H, ts, start_rel hsub, Reps.thaw _ (readN_thaw r hF hA _) hF rs e, ?_⟩
      cases q : cf f ts [] with
      | stuck => rw [q] at ok; exact ok
      | err c st' =>
        rw [q] at ok
        intro F' ad' H' a s' r' ec
        have keep : ∀ a o, H a = some o → H' a = some o := fun a o h => s'.keep a o (by simp) h
        exact ok _ _ _ a (back_step r keep s'.dom) (back_rel r keep) ec
      | ok d st' =>
        rw [q] at ok
        simp only [hn, Bool.false_or, Bool.not_eq_true] at ok
        by_cases hfd : flatD d = true
        · rw [hfd, Bool.true_or, if_pos rfl] at ok
          cases q2 : frz st' d with
          | none => rw [q2] at ok; exact ok.elim
          | some t =>
            rw [q2] at ok
            intro F2 ad2 H2 v s2 r2 v2
            have keep : ∀ a o, H a = some o → H2 a = some o := fun a o h => s2.keep a o (by simp) h
            refine ok _ _ _ v (back_step r keep s2.dom) (back_rel r keep) ?_
            cases v2 with
            | none => cases q2; exact .none
            | bool b => cases q2; exact .bool b
            | int i => cases q2; exact .int i
            | str x => cases q2; exact .str x
            | scr _ => cases hfd
            | exc _ _ => cases hfd
            | list _ _ => cases hfd
            | tup _ _ => cases hfd
            | ref _ => cases hfd
        rw [Bool.not_eq_true] at hfd
        rw [hfd, Bool.false_or] at ok
        by_cases hl : (d.nolist && st'.all Cell.nolist) = true
        · rw [if_pos hl] at ok
          rw [Bool.and_eq_true] at hl
          cases q2 : frz st' d with
          | none => rw [q2] at ok; exact ok.elim
          | some t =>
            rw [q2] at ok
            intro F2 ad2 H2 v s2 r2 v2
            have keep : ∀ a o, H a = some o → H2 a = some o := fun a o h => s2.keep a o (by simp) h
            have notcell : ∀ a o, a ∈ ad → H a = some o → (∀ xs, o ≠ .tup xs) ∧ ∀ ob xs, o ≠ .frz ob (.tup xs) := fun a o ha h => by
              obtain ⟨n, hn1, hn2⟩ := List.mem_iff_getElem.mp ha
              have hlen := r.len
              have hc := r.cell n st[n] a (List.getElem?_eq_getElem _) (by rw [← hn2]; exact List.getElem?_eq_getElem _)
              cases e5 : st[n] with
              | lst xs =>
                rw [e5] at hc
                obtain ⟨vs, h1, _⟩ := hc
                rw [h1] at h; cases h
                exact ⟨fun _ z => (nomatch z), fun _ _ z => (nomatch z)⟩
              | dk ks xs =>
                rw [e5] at hc
                obtain ⟨vs, h1, _⟩ := hc
                rw [h1] at h; cases h
                exact ⟨fun _ z => (nomatch z), fun _ _ z => (nomatch z)⟩
              | dt ks xs =>
                rw [e5] at hc
                obtain ⟨vs, h1, _⟩ := hc
                rw [h1] at h; cases h
                exact ⟨fun _ z => (nomatch z), fun _ _ z => (nomatch z)⟩
              | dead =>
                rw [e5] at hc
                obtain ⟨vs, _, h1⟩ := hc
                rw [h1] at h; cases h
                exact ⟨fun _ z => (nomatch z), fun _ _ z => (nomatch z)⟩
            have key : ∀ a o, F2 a = some o → (∀ ob, a ∈ ad → H a ≠ some ob) ∨ ¬ (a ∈ ad) → hpNew F H H2 a = some o := fun a o h hna => by
              cases e1 : hpAll F ad H a with
              | some o' =>
                have z := s2.le a o' e1
                rw [h] at z
                cases z
                rcases hof a o e1 with e2 | ⟨e2, e3⟩
                · exact hpNew_old e2
                · rcases hna with hna | hna
                  · exact absurd e3 (hna o e2)
                  · exact absurd e2 hna
              | none =>
                have z := (s2.newF a e1 (by rw [h]; simp)).imp_right fun z => z.resolve_left (by simp)
                have z2 : F a = none := by
                  cases e2 : F a with
                  | none => rfl
                  | some o' =>
                    have e3 := hF a o' e2
                    rw [e1] at e3; cases e3
                exact hpNew_got z2 z keep (r2.sub a o h)
            have inad : ∀ a o, F2 a = some o → a ∈ ad → H a = some o := fun a o h ha => by
              cases e6 : H a with
              | none => exact absurd e6 (r.live a ha)
              | some o' =>
                have z := s2.le a o' (hA a ha o' e6)
                rw [h] at z
                exact z.symm
            have le : ∀ a, (∀ xs, F2 a = some (.tup xs) → hpNew F H H2 a = some (.tup xs)) ∧ ∀ o xs, F2 a = some (.frz o (.tup xs)) → hpNew F H H2 a = some (.frz o (.tup xs)) := fun a => by
              refine ⟨fun xs h => key a _ h (.inr fun ha => ?_), fun o xs h => key a _ h (.inr fun ha => ?_)⟩
              · exact (notcell a _ ha (inad a _ h ha)).1 _ rfl
              · exact (notcell a _ ha (inad a _ h ha)).2 _ _ rfl
            have lc : ∀ a ∈ ad2, ∀ o, H2 a = some o → hpNew F H H2 a = some o := fun a ha o h => by
              have z := s2.newA a ha (by simp)
              have z2 : F a = none := by
                cases e1 : F a with
                | none => rfl
                | some o' => rw [r.sub a o' e1] at z; cases z
              rw [hpNew_new z2 z]; exact h
            exact ok _ _ _ v (back_step r keep s2.dom) (back_rel r keep) (Rep.thawT _ (readN_thawT r2 hl.2 le lc _) le v2 q2 hl.1)
        · rw [if_neg hl] at ok
          exact ok.elim
mutual
theorem Rep.ren {K : PySem.W.Frag} {F : Hp} {ad ad' : List Addr} (g : Nat → Option D) (hg : ∀ (n : Nat) (t : D) (a : Addr), g n = some t → ad[n]? = some a → Rep K F ad' (.ref a) t) : ∀ {v : V} {d t : D}, Rep K F ad v d → d.mapRef g = some t → Rep K F ad' v t
  | _, _, _, .none, h => by simp only [D.mapRef, Option.some.injEq] at h; subst h; exact .none
  | _, _, _, .bool b, h => by simp only [D.mapRef, Option.some.injEq] at h; subst h; exact .bool b
  | _, _, _, .int b, h => by simp only [D.mapRef, Option.some.injEq] at h; subst h; exact .int b
  | _, _, _, .str b, h => by simp only [D.mapRef, Option.some.injEq] at h; subst h; exact .str b
  | _, _, _, .scr b, h => by simp only [D.mapRef, Option.some.injEq] at h; subst h; exact .scr b
  | _, _, _, .exc b q, h => by simp only [D.mapRef, Option.some.injEq] at h; subst h; exact .exc b q
  | _, .list ds, t, .list hs r, h => by
    simp only [D.mapRef] at h
    cases e : mapRefs g ds with
    | none => rw [e] at h; cases h
    | some ys =>
      rw [e] at h
      simp only [Option.some.injEq] at h
      subst h
      exact .list hs (Reps.ren g hg r e)
  | _, .tup ds, t, .tup hs r, h => by
    simp only [D.mapRef] at h
    cases e : mapRefs g ds with
    | none => rw [e] at h; cases h
    | some ys =>
      rw [e] at h
      simp only [Option.some.injEq] at h
      subst h
      exact .tup hs (Reps.ren g hg r e)
  | _, _, _, .ref ha, h => hg _ _ _ (by simpa only [D.mapRef] using h) ha
theorem Reps.ren {K : PySem.W.Frag} {F : Hp} {ad ad' : List Addr} (g : Nat → Option D) (hg : ∀ (n : Nat) (t : D) (a : Addr), g n = some t → ad[n]? = some a → Rep K F ad' (.ref a) t) : ∀ {vs : List V} {ds ts : List D}, Reps K F ad vs ds → mapRefs g ds = some ts → Reps K F ad' vs ts
  | _, _, _, .nil, h => by simp only [mapRefs, Option.some.injEq] at h; subst h; exact .nil
  | _, d :: ds, _, .cons h1 h2, h => by
    simp only [mapRefs] at h
    cases e1 : d.mapRef g with
    | none => rw [e1] at h; cases h
    | some y =>
      cases e2 : mapRefs g ds with
      | none => rw [e1, e2] at h; cases h
      | some ys =>
        rw [e1, e2] at h
        simp only [Option.some.injEq] at h
        subst h
        exact .cons (Rep.ren g hg h1 e1) (Reps.ren g hg h2 e2)
end
theorem keepC_at {st : Sto} : ∀ {js : List Nat} {st2 : Sto}, keepC st js = some st2 → st2.length = js.length ∧ (∀ j ∈ js, ∃ c, st[j]? = some c ∧ c ≠ .dead) ∧ ∀ (n : Nat) (c : Cell), st2[n]? = some c → ∃ j, js[n]? = some j ∧ st[j]? = some c ∧ keepB c = true
  | [], _, h => by
    cases h
    exact ⟨rfl, fun j h => by simp at h, fun n c h => by simp at h⟩
  | j :: js, st2, h => by
    have key : ∀ c0 : Cell, st[j]? = some c0 → c0 ≠ .dead → keepB c0 = true → ∀ r, keepC st js = some r → (c0 :: r).length = (j :: js).length ∧ (∀ i ∈ j :: js, ∃ c, st[i]? = some c ∧ c ≠ .dead) ∧ ∀ (n : Nat) (c : Cell), (c0 :: r)[n]? = some c → ∃ i, (j :: js)[n]? = some i ∧ st[i]? = some c ∧ keepB c = true := fun c0 e nd kb r e2 => by
      obtain ⟨h1, h2, h3⟩ := keepC_at e2
      refine ⟨by simp [h1], fun i hi => ?_, fun n c hc => ?_⟩
      · rcases List.mem_cons.mp hi with rfl | hi
        · exact ⟨c0, e, nd⟩
        · exact h2 i hi
      · cases n with
        | zero =>
          have : c0 = c := by simpa using hc
          subst this
          exact ⟨j, rfl, e, kb⟩
        | succ n => exact h3 n c (by simpa using hc)
    unfold keepC at h
    split at h
    · rename_i ds e
      split at h
      · rename_i hn
        split at h
        · rename_i r e2
          cases h
          exact key _ e (by simp) hn r e2
        · cases h
      · cases h
    · rename_i ks ds e
      split at h
      · rename_i hn
        split at h
        · rename_i r e2
          cases h
          exact key _ e (by simp) hn r e2
        · cases h
      · cases h
    · cases h
theorem relay_ok {F : Hp} {ad : List Addr} {st : Sto} {H : Hp} {v : V} {d d2 : D} {st2 : Sto} (r : RelS K F ad st H) (hv : Rep K F ad v d) (e : relay d st = some (d2, st2)) :
    ∃ ad2, (∀ a ∈ ad2, a ∈ ad) ∧ RelS K F ad2 st2 H ∧ Rep K F ad2 v d2 := by
  unfold relay at e
  split at e
  · rename_i hnd
    split at e
    · rename_i x1 x2 e1 e2
      cases e
      obtain ⟨k1, k2, k3⟩ := keepC_at e1
      have lt : ∀ j ∈ refsOf d, j < ad.length := fun j hj => by
        obtain ⟨c, h, _⟩ := k2 j hj
        rw [r.len]
        exact (List.getElem?_eq_some_iff.mp h).1
      have at_ : ∀ j ∈ refsOf d, ad[j]? = some (ad.getD j 0) := fun j hj => by
        rw [List.getD_eq_getElem?_getD, List.getElem?_eq_getElem (lt j hj)]; rfl
      have inj : ∀ i ∈ refsOf d, ∀ j ∈ refsOf d, ad.getD i 0 = ad.getD j 0 → i = j := fun i hi j hj h => by
        have h1 := at_ i hi
        have h2 := at_ j hj
        rw [h] at h1
        exact (List.getElem?_inj (lt i hi) r.nd).mp (h1.trans h2.symm)
      refine ⟨(refsOf d).map fun j => ad.getD j 0, fun a ha => ?_, ⟨r.sub, ?_, fun n a h hd => ?_, by rw [List.length_map, k1], fun a h => ?_, fun n c a h1 h2 => ?_⟩, Rep.ren _ (fun n t a h1 h2 => ?_) hv e2⟩
      · obtain ⟨j, hj, rfl⟩ := List.mem_map.mp ha
        exact List.mem_of_getElem? (at_ j hj)
      · unfold List.Nodup
        rw [List.pairwise_map]
        exact List.Pairwise.imp_of_mem (fun {i j} hi hj hne he => hne (inj i hi j hj he)) hnd
      · rw [List.getElem?_map] at h
        cases e3 : (refsOf d)[n]? with
        | none => rw [e3] at h; cases h
        | some j =>
          rw [e3] at h
          have hj := List.mem_of_getElem? e3
          obtain ⟨c, h4, h5⟩ := k2 j hj
          exact r.out j a ((at_ j hj).trans h) (by rw [h4]; simpa using h5)
      · obtain ⟨j, hj, rfl⟩ := List.mem_map.mp h
        exact r.live _ (List.mem_of_getElem? (at_ j hj))
      · obtain ⟨j, h4, h5, h6⟩ := k3 n c h1
        rw [List.getElem?_map, h4] at h2
        have hj := List.mem_of_getElem? h4
        have hc := r.cell j _ a h5 ((at_ j hj).trans h2)
        cases c with
        | lst ds => obtain ⟨vs, g1, g2⟩ := hc; exact ⟨vs, g1, g2.cut h6⟩
        | dt ks ds => obtain ⟨vs, g1, g2, g3⟩ := hc; exact ⟨vs, g1, g2, g3.cut h6⟩
        | _ => cases h6
      · unfold ren at h1
        split at h1
        · rename_i hc
          cases h1
          have hm : n ∈ refsOf d := by simpa using hc
          refine .ref ?_
          rw [List.getElem?_map, List.getElem?_eq_getElem (List.idxOf_lt_length_of_mem hm), List.getElem_idxOf]
          exact (at_ n hm).symm.trans h2
        · cases h1
    · cases e
  · cases e
mutual
theorem mapRef_id : ∀ d : D, d.mapRef (fun n => some (.ref n)) = some d
  | .none => rfl
  | .bool _ => rfl
  | .int _ => rfl
  | .str _ => rfl
  | .scr _ => rfl
  | .exc _ => rfl
  | .ref _ => rfl
  | .list xs => by simp only [D.mapRef, mapRefs_id xs]
  | .tup xs => by simp only [D.mapRef, mapRefs_id xs]
  | .dk _ xs => by simp only [D.mapRef, mapRefs_id xs]
  | .dt _ xs => by simp only [D.mapRef, mapRefs_id xs]
theorem mapRefs_id : ∀ ds : List D, mapRefs (fun n => some (.ref n)) ds = some ds
  | [] => rfl
  | d :: ds => by simp only [mapRefs, mapRef_id d, mapRefs_id ds]
end
theorem relay_lst {d d2 : D} {st st2 : Sto} (e : relay d st = some (d2, st2)) : ∀ (n : Nat) (c : Cell), st2[n]? = some c → keepB c = true := by
  unfold relay at e
  split at e
  · split at e
    · rename_i x1 x2 e1 e2
      cases e
      intro n c h
      obtain ⟨j, _, _, h4⟩ := (keepC_at e1).2.2 n c h
      exact h4
    · cases e
  · cases e
theorem callC_ok {cf : CF} {f : Nat} {ds : List D} {vs : List V} (ok : OkV K cls ew F ad H (callC cf f ds st) Q) (r : RelS K F ad st H) (rs : Reps K F ad vs ds) :
    ∃ F1 ts, RelS K F1 [] [] H ∧ Reps K F1 [] vs ts ∧ OkD K cls ew F1 [] H (cf f ts []) Q := by
  unfold callC at ok
  cases e0 : frzs st ds with
  | none => rw [e0] at ok; exact ok.elim
  | some ts0 =>
  rw [e0] at ok
  simp only at ok
  by_cases hn : norefs ds = true
  · have et : ts0 = ds := by
      have := norefs_map (g := readN st.length st) hn
      unfold frzs at e0
      rw [this] at e0; exact (Option.some.inj e0).symm
    subst et
    simp only [hn, Bool.true_or, if_true] at ok
    refine ⟨F, ts0, start_rel r.sub, rs.cut hn, ?_⟩
    cases q : cf f ts0 [] with
    | stuck => rw [q] at ok; exact ok
    | err c st' =>
      rw [q] at ok
      intro F' ad' H' a s' r' ec
      have keep : ∀ a o, H a = some o → H' a = some o := fun a o h => s'.keep a o (by simp) h
      exact ok _ _ _ a (back_step r keep s'.dom) (back_rel r keep) ec
    | ok d st' =>
      rw [q] at ok
      intro F2 ad0 H2 v s2 r0 v0
      dsimp only at ok
      cases hre : relay d st' with
      | none => rw [hre] at ok; exact ok.elim
      | some p =>
      obtain ⟨d2, st2⟩ := p
      rw [hre] at ok
      obtain ⟨ad2, sb, r2, v2⟩ := relay_ok r0 v0 hre
      have keep : ∀ a o, H a = some o → H2 a = some o := fun a o h => s2.keep a o (by simp) h
      have hlen := r.len
      have new : ∀ a ∈ ad2, H a = none := fun a ha => s2.newA a (sb a ha) (by simp)
      have stp : Step F ad H F2 (ad ++ ad2) H2 :=
        ⟨s2.le, ⟨ad2, rfl⟩, fun a h1 h2 => (s2.newF a h1 h2).imp_right fun z => .inr (z.resolve_left (by simp)), fun a h1 h2 => by
          rcases List.mem_append.mp h1 with z | z
          · exact absurd z h2
          · exact new a z, fun a o _ h => keep a o h, s2.dom⟩
      refine ok F2 (ad ++ ad2) H2 v stp ?_ (by rw [← hlen]; exact Rep.shift ad v2)
      refine ⟨r2.sub, ?_, fun n a h hd => ?_, by simp [hlen, r2.len], fun a h => ?_, fun n c a h1 h2 => ?_⟩
      · rw [List.nodup_append]
        exact ⟨r.nd, r2.nd, fun a ha b hb e => by
          subst e
          exact r.live a ha (new a hb)⟩
      · by_cases hlt : n < st.length
        · rw [List.getElem?_append_left hlt] at hd
          rw [List.getElem?_append_left (by omega)] at h
          cases e1 : F2 a with
          | none => rfl
          | some o =>
            have z1 := r.out n a h hd
            rcases (s2.newF a z1 (by rw [e1]; simp)).imp_right fun z => z.resolve_left (by simp) with z2 | ⟨xs, z2⟩
            · exact absurd z2 (r.live a (List.mem_of_getElem? h))
            · exact (not_tup r h z2).elim
        · rw [List.getElem?_append_right (by omega)] at hd
          rw [List.getElem?_append_right (by omega), hlen] at h
          refine r2.out _ a h fun e => hd ?_
          rw [List.getElem?_map, e]; rfl
      · rcases List.mem_append.mp h with z | z
        · cases e1 : H a with
          | none => exact absurd e1 (r.live a z)
          | some o => rw [keep a o e1]; simp
        · exact r2.live a z
      · by_cases hlt : n < st.length
        · rw [List.getElem?_append_left hlt] at h1
          rw [List.getElem?_append_left (by omega)] at h2
          exact (r.cell n c a h1 h2).up s2.le (fun m b hb => by rw [List.getElem?_append_left (List.getElem?_eq_some_iff.mp hb).1]; exact hb) (keep a)
        · rw [List.getElem?_append_right (by omega)] at h1
          rw [List.getElem?_append_right (by omega), hlen] at h2
          rw [List.getElem?_map] at h1
          cases e3 : st2[n - st.length]? with
          | none => rw [e3] at h1; cases h1
          | some c' =>
            rw [e3] at h1
            have e4 : c = Cell.shift st.length c' := (Option.some.inj h1).symm
            subst e4
            have hc := r2.cell _ c' a e3 h2
            cases c' with
            | lst xs =>
              obtain ⟨vs, g1, g2⟩ := hc
              exact ⟨vs, g1, by rw [← hlen]; exact Reps.shift ad g2⟩
            | dk ks xs =>
              obtain ⟨vs, g1, g2, g3⟩ := hc
              exact ⟨vs, g1, g2, by rw [← hlen]; exact Reps.shift ad g3⟩
            | dt ks xs =>
              obtain ⟨vs, g1, g2, g3⟩ := hc
              exact ⟨vs, g1, g2, by rw [← hlen]; exact Reps.shift ad g3⟩
            | dead => exact hc
  · have hF : ∀ a o, F a = some o → hpAll F ad H a = some o := fun a o h => by unfold hpAll; rw [h]
    have hA : ∀ a ∈ ad, ∀ o, H a = some o → hpAll F ad H a = some o := fun a ha o h => by
      unfold hpAll
      cases e : F a with
      | some o' => rw [← h, r.sub a o' e]
      | none => simp only; rw [if_pos ha]; exact h
    have hof : ∀ a o, hpAll F ad H a = some o → F a = some o ∨ (a ∈ ad ∧ H a = some o) := fun a o h => by
      unfold hpAll at h
      split at h
      · rename_i e1; cases h; exact .inl e1
      · split at h
        · rename_i ha; exact .inr ⟨ha, h⟩
        · cases h
    have hsub : ∀ a o, hpAll F ad H a = some o → H a = some o := fun a o h => by
      rcases hof a o h with h | h
      · exact r.sub a o h
      · exact h.2
    refine ⟨hpAll F ad H, ts0, start_rel hsub, Reps.thaw _ (readN_thaw r hF hA _) hF rs e0, ?_⟩
    cases q : cf f ts0 [] with
    | stuck => rw [q] at ok; exact ok
    | err c st' =>
      rw [q] at ok
      intro F' ad' H' a s' r' ec
      have keep : ∀ a o, H a = some o → H' a = some o := fun a o h => s'.keep a o (by simp) h
      exact ok _ _ _ a (back_step r keep s'.dom) (back_rel r keep) ec
    | ok d st' =>
      rw [q] at ok
      intro F2 ad0 H2 v s2 r0 v0
      dsimp only at ok
      cases hre : relay d st' with
      | none => rw [hre] at ok; exact ok.elim
      | some p =>
      obtain ⟨d2, st2⟩ := p
      rw [hre] at ok
      simp only [hn, Bool.false_or] at ok
      have hl : (d2.nolist && st2.all Cell.nolist) = true := by
        cases h : (d2.nolist && st2.all Cell.nolist) with
        | true => rfl
        | false => rw [h, if_neg Bool.false_ne_true] at ok; exact ok.elim
      rw [if_pos hl] at ok
      rw [Bool.and_eq_true] at hl
      obtain ⟨ad2, sb, r2, v2⟩ := relay_ok r0 v0 hre
      have lst := relay_lst hre
      have keep : ∀ a o, H a = some o → H2 a = some o := fun a o h => s2.keep a o (by simp) h
      have hlen := r.len
      have new : ∀ a ∈ ad2, H a = none := fun a ha => s2.newA a (sb a ha) (by simp)
      have newF2 : ∀ a ∈ ad2, F2 a = none := fun a ha => by
        obtain ⟨n, hn1, hn2⟩ := List.mem_iff_getElem.mp ha
        have h1 : ad2[n]? = some a := by rw [← hn2]; exact List.getElem?_eq_getElem _
        refine r2.out n a h1 fun h => ?_
        have h3 := lst n _ h
        cases h3
      have notcell : ∀ a o, a ∈ ad → H a = some o → (∀ xs, o ≠ .tup xs) ∧ ∀ ob xs, o ≠ .frz ob (.tup xs) := fun a o ha h => by
        obtain ⟨n, hn1, hn2⟩ := List.mem_iff_getElem.mp ha
        have hlen := r.len
        have hc := r.cell n st[n] a (List.getElem?_eq_getElem _) (by rw [← hn2]; exact List.getElem?_eq_getElem _)
        cases e5 : st[n] with
        | lst xs =>
          rw [e5] at hc
          obtain ⟨vs, h1, _⟩ := hc
          rw [h1] at h; cases h
          exact ⟨fun _ z => (nomatch z), fun _ _ z => (nomatch z)⟩
        | dk ks xs =>
          rw [e5] at hc
          obtain ⟨vs, h1, _⟩ := hc
          rw [h1] at h; cases h
          exact ⟨fun _ z => (nomatch z), fun _ _ z => (nomatch z)⟩
        | dt ks xs =>
          rw [e5] at hc
          obtain ⟨vs, h1, _⟩ := hc
          rw [h1] at h; cases h
          exact ⟨fun _ z => (nomatch z), fun _ _ z => (nomatch z)⟩
        | dead =>
          rw [e5] at hc
          obtain ⟨vs, _, h1⟩ := hc
          rw [h1] at h; cases h
          exact ⟨fun _ z => (nomatch z), fun _ _ z => (nomatch z)⟩
      have key : ∀ a o, F2 a = some o → (∀ ob, a ∈ ad → H a ≠ some ob) ∨ ¬ (a ∈ ad) → hpNew F H H2 a = some o := fun a o h hna => by
        cases e1 : hpAll F ad H a with
        | some o' =>
          have z := s2.le a o' e1
          rw [h] at z
          cases z
          rcases hof a o e1 with e2 | ⟨e2, e3⟩
          · exact hpNew_old e2
          · rcases hna with hna | hna
            · exact absurd e3 (hna o e2)
            · exact absurd e2 hna
        | none =>
          have z := (s2.newF a e1 (by rw [h]; simp)).imp_right fun z => z.resolve_left (by simp)
          have z2 : F a = none := by
            cases e2 : F a with
            | none => rfl
            | some o' =>
              have e3 := hF a o' e2
              rw [e1] at e3; cases e3
          exact hpNew_got z2 z keep (r2.sub a o h)
      have inad : ∀ a o, F2 a = some o → a ∈ ad → H a = some o := fun a o h ha => by
        cases e6 : H a with
        | none => exact absurd e6 (r.live a ha)
        | some o' =>
          have z := s2.le a o' (hA a ha o' e6)
          rw [h] at z
          exact z.symm
      have le : ∀ a, (∀ xs, F2 a = some (.tup xs) → hpNew F H H2 a = some (.tup xs)) ∧ ∀ o xs, F2 a = some (.frz o (.tup xs)) → hpNew F H H2 a = some (.frz o (.tup xs)) := fun a => by
        refine ⟨fun xs h => key a _ h (.inr fun ha => ?_), fun o xs h => key a _ h (.inr fun ha => ?_)⟩
        · exact (notcell a _ ha (inad a _ h ha)).1 _ rfl
        · exact (notcell a _ ha (inad a _ h ha)).2 _ _ rfl
      obtain ⟨F', hF'⟩ : ∃ F' : Hp, F' = fun a => if a ∈ ad2 then none else hpNew F H H2 a := ⟨_, rfl⟩
      have inF : ∀ a, a ∈ ad2 → F' a = none := fun a ha => by rw [hF']; exact if_pos ha
      have outF : ∀ a, a ∉ ad2 → F' a = hpNew F H H2 a := fun a ha => by rw [hF']; exact if_neg ha
      have leF : ∀ a o, F a = some o → F' a = some o := fun a o h => by
        rw [outF a fun ha => by have := new a ha; rw [r.sub a o h] at this; cases this]
        exact hpNew_old h
      have le2 : ∀ a, (∀ xs, F2 a = some (.tup xs) → F' a = some (.tup xs)) ∧ ∀ o xs, F2 a = some (.frz o (.tup xs)) → F' a = some (.frz o (.tup xs)) := fun a =>
        ⟨fun xs h => by rw [outF a fun ha => by rw [newF2 a ha] at h; cases h]; exact (le a).1 xs h,
         fun o xs h => by rw [outF a fun ha => by rw [newF2 a ha] at h; cases h]; exact (le a).2 o xs h⟩
      have stp : Step F ad H F' (ad ++ ad2) H2 :=
        ⟨leF, ⟨ad2, rfl⟩, fun a h1 h2 => by
          by_cases ha : a ∈ ad2
          · exact .inl (new a ha)
          · rw [outF a ha] at h2
            exact (back_step r keep s2.dom).newF a h1 h2, fun a h1 h2 => by
          rcases List.mem_append.mp h1 with z | z
          · exact absurd z h2
          · exact new a z, fun a o _ h => keep a o h, s2.dom⟩
      have v3 : Rep K F' ad2 v d2 := Rep.thawT _ (fun n t a h1 h2 => by cases h1; exact .ref h2) le2 v2 (mapRef_id d2) hl.1
      refine ok F' (ad ++ ad2) H2 v stp ?_ (by rw [← hlen]; exact Rep.shift ad v3)
      refine ⟨fun a o h => ?_, ?_, fun n a h hd => ?_, by simp [hlen, r2.len], fun a h => ?_, fun n c a h1 h2 => ?_⟩
      · by_cases ha : a ∈ ad2
        · rw [inF a ha] at h; cases h
        · rw [outF a ha] at h
          exact (back_rel r keep).sub a o h
      · rw [List.nodup_append]
        exact ⟨r.nd, r2.nd, fun a ha b hb e => by
          subst e
          exact r.live a ha (new a hb)⟩
      · by_cases hlt : n < st.length
        · rw [List.getElem?_append_left hlt] at hd
          rw [List.getElem?_append_left (by omega)] at h
          by_cases ha : a ∈ ad2
          · exact inF a ha
          · rw [outF a ha]
            exact (back_rel r keep).out n a h hd
        · rw [List.getElem?_append_right (by omega)] at h
          exact inF a (List.mem_of_getElem? h)
      · rcases List.mem_append.mp h with z | z
        · cases e1 : H a with
          | none => exact absurd e1 (r.live a z)
          | some o => rw [keep a o e1]; simp
        · exact r2.live a z
      · by_cases hlt : n < st.length
        · rw [List.getElem?_append_left hlt] at h1
          rw [List.getElem?_append_left (by omega)] at h2
          exact (r.cell n c a h1 h2).up leF (fun m b hb => by rw [List.getElem?_append_left (List.getElem?_eq_some_iff.mp hb).1]; exact hb) (keep a)
        · rw [List.getElem?_append_right (by omega)] at h1
          rw [List.getElem?_append_right (by omega), hlen] at h2
          rw [List.getElem?_map] at h1
          cases e3 : st2[n - st.length]? with
          | none => rw [e3] at h1; cases h1
          | some c' =>
            rw [e3] at h1
            have e4 : c = Cell.shift st.length c' := (Option.some.inj h1).symm
            subst e4
            have hc := r2.cell _ c' a e3 h2
            have hnl : c'.nolist = true := List.all_eq_true.mp hl.2 c' (List.mem_of_getElem? e3)
            have hkb := lst _ c' e3
            cases c' with
            | lst xs =>
              obtain ⟨vs, g1, g2⟩ := hc
              have g3 : Reps K F' ad2 vs xs := Reps.thawT (fun n => some (.ref n)) (fun n t a h1 h2 => by cases h1; exact .ref h2) le2 g2 (mapRefs_id xs) (by simpa only [Cell.nolist] using hnl)
              exact ⟨vs, g1, by rw [← hlen]; exact Reps.shift ad g3⟩
            | dt ks xs =>
              obtain ⟨vs, g1, gl, g2⟩ := hc
              have g3 : Reps K F' ad2 vs xs := Reps.thawT (fun n => some (.ref n)) (fun n t a h1 h2 => by cases h1; exact .ref h2) le2 g2 (mapRefs_id xs) (by simpa only [Cell.nolist] using hnl)
              exact ⟨vs, g1, gl, by rw [← hlen]; exact Reps.shift ad g3⟩
            | _ => cases hkb
theorem callS_ok {cf : CF} {f : Nat} {ds : List D} (ok : OkV K cls ew F ad H (callS cf f ds st) Q) : OkD K cls ew F ad H (cf f ds st) Q := by
  unfold callS at ok
  cases q : cf f ds st with
  | stuck => rw [q] at ok; exact ok
  | err c st' => rw [q] at ok; exact ok
  | ok d st' => rw [q] at ok; exact ok
end
end MP

/-! The readings of the terms; targets; walks. -/
namespace MP
open PySem PySem.Spec PyProof.Rows L2

/-- what is fixed for a claim -/
structure Con where
  T : Nat → Option Def
  cls : Str → Option Addr
  G : Str → Option D
  k : Nat
/-- a def's promise -/
def spF (C : Con) (K : PySem.W.Frag) (k f : Nat) : Sp := fun vs H Q E => ∃ F ad st ds, RelS K F ad st H ∧ Reps K F ad vs ds ∧ OkD K C.cls E F ad H (run C.T k f ds st) Q
def bnames : List Str := ["len", "range", "list", "tuple", "sorted", "sum", "any", "all", "max", "min", "int", "isinstance", "zip", "str", "bool", "repr", "dict", "set"]
/-- a written table of the program's top: texts as keys, whole numbers as values -/
def TabK (K : PySem.W.Frag) (w : World) (a : Addr) (ks : List Str) (vs : List Int) : Prop :=
  (∃ es n, KDict K w a es n) ∧ ∀ z, (∀ i, lookS z ks vs = some i → ∃ t, PySem.W.nsIn K a z = some (some (.int i t))) ∧ (lookS z ks vs = none → PySem.W.nsIn K a z = some none)
def kvOf (e : DictEntry) : Option (Str × Int) := match e.key, e.val with
  | .str x _, .int i _ => some (x, i)
  | _, _ => none
def tabB (K : PySem.W.Frag) (a : Addr) (ks : List Str) (vs : List Int) : Bool := match List.lookup a K with
  | some o => (match o.data with
    | .dict es _ => decide (es.toList.map kvOf = (ks.zip vs).map some)
    | _ => false)
  | none => false
theorem kvOf_some {e : DictEntry} {x : Str} {i : Int} (h : kvOf e = some (x, i)) : (∃ t, e.key = .str x t) ∧ ∃ t, e.val = .int i t := by
  unfold kvOf at h
  split at h
  · rename_i h1 h2
    cases h
    exact ⟨⟨_, h1⟩, ⟨_, h2⟩⟩
  · cases h
theorem tab_find (z : Str) : ∀ {es : List DictEntry} {ks : List Str} {vs : List Int}, es.map kvOf = (ks.zip vs).map some →
    (∀ i, lookS z ks vs = some i → ∃ e t, es.find? (fun x => x.key.isStr z) = some e ∧ e.val = .int i t) ∧ (lookS z ks vs = none → es.find? (fun x => x.key.isStr z) = none) ∧ es.any (fun x => x.refKey) = false
  | [], ks, vs, h => by
    have : lookS z ks vs = none := by
      cases ks with
      | nil => cases vs <;> rfl
      | cons k ks => cases vs with
        | nil => rfl
        | cons v vs => simp at h
    exact ⟨fun i e => (by rw [this] at e; cases e), fun _ => rfl, rfl⟩
  | e :: es, [], vs, h => by simp at h
  | e :: es, k :: ks, [], h => by simp at h
  | e :: es, k :: ks, v :: vs, h => by
    simp only [List.map_cons, List.zip_cons_cons, List.cons.injEq] at h
    obtain ⟨⟨t, hk⟩, ⟨t', hv⟩⟩ := kvOf_some h.1
    obtain ⟨h1, h2, h3⟩ := tab_find z h.2
    have e1 : e.key.isStr z = (k == z) := by rw [hk]; rfl
    have e2 : e.refKey = false := by unfold DictEntry.refKey; rw [hk]
    unfold lookS
    rw [List.find?_cons, e1, List.any_cons, e2]
    cases q : k == z with
    | true =>
      rw [if_pos rfl]
      exact ⟨fun i ei => (by cases ei; exact ⟨e, t', rfl, hv⟩), fun ei => (by cases ei), h3⟩
    | false =>
      rw [if_neg (by decide)]
      exact ⟨h1, h2, h3⟩
theorem tabK_of {K : PySem.W.Frag} {w : World} {a : Addr} {ks : List Str} {vs : List Int} {es : Array DictEntry} {n : Nat} (kd : KDict K w a es n) (h : tabB K a ks vs = true) : TabK K w a ks vs := by
  unfold tabB at h
  rw [kd.at_] at h
  have h := of_decide_eq_true h
  refine ⟨⟨es, n, kd⟩, fun z => ?_⟩
  obtain ⟨h1, h2, h3⟩ := tab_find z h
  unfold PySem.W.nsIn
  rw [kd.at_]
  dsimp only
  constructor
  · intro i ei
    obtain ⟨e, t, e1, e2⟩ := h1 i ei
    refine ⟨t, ?_⟩
    rw [e1]
    show some (some e.val) = _
    rw [e2]
  · intro ei
    rw [h2 ei, h3]; rfl
/-- a name of the top that stands for a table, or for the exceptions' classes -/
def D.isDk : D → Bool
  | .dk _ _ => true
  | .exc _ => true
  | _ => false
def tabG (G : Str → Option D) (g : Str) (ks : List Str) (vs : List Int) : Bool := match G g with
  | some (.dk k' v') => decide (k' = ks.map Sum.inr) && decide (intsOf v' = some vs)
  | _ => false
theorem tabG_of {G : Str → Option D} {g : Str} {ks : List Str} {vs : List Int} (h : tabG G g ks vs = true) : G g = some (.dk (ks.map Sum.inr) (vs.map D.int)) := by
  unfold tabG at h
  split at h
  · rename_i k' v' e
    simp only [Bool.and_eq_true, decide_eq_true_eq] at h
    rw [e, h.1, intsOf_eq h.2]
  · cases h
/-- a name of the top that stands for an exception class -/
def isExG : Option D → Bool
  | some (.exc _) => true
  | _ => false
/-- what is known of the exception classes, where a def catches -/
structure ExW (K : PySem.W.Frag) (mg : Str → Option Value) (C : Con) : Prop where
  hall : ∃ h, mg "HallError" = some (.ref h) ∧ ∀ c a, kn c = true → excA K c = some a → PySem.W.exmOne K (.ref a) (.ref h) = some true
  at_ : ∀ c a, C.cls c = some a → kn c = true ∧ excA K c = some a
  ex : ∀ c a, kn c = true → excA K c = some a → ExcC K a
  one : ∀ g, isExG (C.G g) = true → ∃ b, mg g = some (.ref b) ∧ ∀ c a, kn c = true → excA K c = some a → PySem.W.kitOne K (.ref a) (.ref b) = some (isSub c g)
  ve : ∀ c a, kn c = true → excA K c = some a → PySem.W.kitOne K (.ref a) (.type "ValueError") = some true
  nv : mg "ValueError" = none
/-- an exception is handled; its object is known, its context is None -/
def HotF (A : Around) (H : Hp) : Prop := ∃ (a : Addr) (oe : Obj) (vs : Array Value), A.handled = some (.ref a) ∧ H a = some (.frz oe (.own a)) ∧ oe.data = .fields vs ∧ vs[2]? = some .none
/-- a def that may be called within an except suite -/
structure FnG (P : Program) (w : World) (K : PySem.W.Frag) (mg : Str → Option Value) (base : Heap) (CX : CXT) (k : Nat) (f : Addr) (fd : FuncData) (ps : List Str) (sp : Sp) : Prop where
  len : ∀ vs H Q E, sp vs H Q E → vs.length = ps.length
  run : ∀ (A : Around) (outer : List PySem.Env) (s : Shared) (H : Hp) (args : Args) (us : List Value) (vs : List V) (Q : VK) (E : XK), L2H.RoomH k A → HotF A H → Env0 P w K mg base A outer s H → BindsTo s fd args (ps.zip us) → Vals vs us → sp vs H Q E →
    codeAny (model P w) A (.call (.ref f) args) (CR CX outer P w H s Q E) s
mutual
def hotE (T : Nat → Option Def) (hot : Def → Bool) : E → Bool
  | .var _ => true
  | .lit _ => true
  | .tup es => hotEs T hot es
  | .list es => hotEs T hot es
  | .bin _ a b => hotE T hot a && hotE T hot b
  | .cmp _ a b => hotE T hot a && hotE T hot b
  | .land a b => hotE T hot a && hotE T hot b
  | .lor a b => hotE T hot a && hotE T hot b
  | .lnot a => hotE T hot a
  | .ite c a b => hotE T hot c && hotE T hot a && hotE T hot b
  | .ix a b => hotE T hot a && hotE T hot b
  | .bi f es => (match f with
    | .isE _ => hotEs T hot es
    | _ => false)
  | .mt m o es => (match m with
    | .count => hotE T hot o && hotEs T hot es
    | .index => hotE T hot o && hotEs T hot es
    | _ => false)
  | .call f es => (match T f with
    | some d => hot d && hotEs T hot es
    | Option.none => false)
  | .comp elt tg it cond _ => (match tg with
    | .one _ => true
    | _ => false) && hotI T hot it && hotE T hot elt && hotE T hot cond
  | _ => false
def hotI (T : Nat → Option Def) (hot : Def → Bool) : It → Bool
  | .range1 a => hotE T hot a
  | _ => false
def hotEs (T : Nat → Option Def) (hot : Def → Bool) : Es → Bool
  | .nil => true
  | .cons e es => hotE T hot e && hotEs T hot es
end
def isCo : E → Bool
  | .comp _ _ _ _ _ => true
  | _ => false
mutual
def hotS (T : Nat → Option Def) (hot : Def → Bool) : S → Bool
  | .set _ e => hotE T hot e && !isCo e
  | .ife c a b => hotE T hot c && hotL T hot a && hotL T hot b
  | .ret e => hotE T hot e
  | _ => false
def hotL (T : Nat → Option Def) (hot : Def → Bool) : List S → Bool
  | [] => true
  | s :: ss => hotS T hot s && hotL T hot ss
end
/-- a def without calls and loops -/
def hotD (T : Nat → Option Def) (d : Def) : Bool := hotL T (fun _ => false) d.body
structure Facts (P : Program) (w : World) (K : PySem.W.Frag) (mg : Str → Option Value) (base : Heap) (C : Con) : Prop where
  fns : ∀ f d, C.T f = some d → ∃ a fd, FnOk P w K mg base (L2N.CX P w) C.k a fd d.pars (spF C K C.k f) ∧ mg d.name = some (.ref a) ∧ PySem.W.keepIn K (.ref a) = true ∧ Binds K fd d.pars []
  glo : ∀ x d, C.G x = some d → d.isDk = false → ∃ u v, mg x = some u ∧ RelV v u ∧ ∀ F ad, Rep K F ad v d
  tab : ∀ x ks vs, C.G x = some (.dk (ks.map Sum.inr) (vs.map D.int)) → ∃ a, mg x = some (.ref a) ∧ TabK K w a ks vs
  blt : ∀ x, x ∈ bnames → mg x = none
  exw : isExG (C.G "HallError") = true → ExW K mg C
  hot : ∀ f d, C.T f = some d → hotD C.T d = true → ∃ a fd, FnG P w K mg base (L2N.CX P w) C.k a fd d.pars (spF C K C.k f) ∧ mg d.name = some (.ref a) ∧ PySem.W.keepIn K (.ref a) = true ∧ Binds K fd d.pars []
/-- the mark that nothing is being shown when the def runs -/
def isRp : Option D → Bool
  | some (.dk [] [.none]) => true
  | _ => false
structure Good (C : Con) (N : List Str) (X : Cx) (sc : Scope) (ow : Str → Bool) (ew : L2.St → XK) : Prop where
  hN : X.N = N
  nd : N.Nodup
  sc : X.env.scope = sc
  calm : X.calm = true
  room : Room C.k X.A
  pass : ∀ σ, PassesAt (L2N.CX X.prog X.w) X σ (ew σ)
  ow : ∀ x, ow x = true → X.fn x = true
  facts : Facts X.prog X.w X.K X.mg X.base C
  gd : isRp (C.G "repr") = true → X.A.guards = some []

def tX (C : Con) (X : Cx) (ew : L2.St → XK) (e : E) : TE := fun σ H Q => ∃ F ad env st, RelS X.K F ad st H ∧ EnvRel X.K F ad env σ ∧ OkV X.K C.cls (ew σ) F ad H (evX (run C.T C.k) e env st) Q
def tXs (C : Con) (X : Cx) (ew : L2.St → XK) (es : Es) : TA := fun σ H Q => ∃ F ad env st, RelS X.K F ad st H ∧ EnvRel X.K F ad env σ ∧ OkL X.K C.cls (ew σ) F ad H (evXs (run C.T C.k) es env st) Q

theorem _root_.L2.PE.imp {X : Cx} {e : Expr} {t t' : TE} (h : PE X e t) (i : ∀ σ H Q, t' σ H Q → t σ H Q) : PE X e t' := ⟨fun pins s σ H Q I q => h.run pins s σ H Q I (i _ _ _ q)⟩
theorem _root_.L2.PT.imp {X : Cx} {e : Expr} {t t' : TT} (h : PT X e t) (i : ∀ σ H Q, t' σ H Q → t σ H Q) : PT X e t' := ⟨fun pins s σ H Q I q => h.run pins s σ H Q I (i _ _ _ q)⟩
theorem _root_.L2.PW.imp {X : Cx} {e : Expr} {t t' : TT} (h : PW X e t) (i : ∀ σ H Q, t' σ H Q → t σ H Q) : PW X e t' := ⟨fun wh pins s σ H Q I q => h.run wh pins s σ H Q I (i _ _ _ q)⟩
theorem _root_.L2.PA.imp {X : Cx} {e : List Expr} {t t' : TA} (h : PA X e t) (i : ∀ σ H Q, t' σ H Q → t σ H Q) : PA X e t' := ⟨fun pos pins s σ H Q I q => h.run pos pins s σ H Q I (i _ _ _ q)⟩

/-- a test that is not asked in its own way -/
def plainB : Expr → Bool
  | .UnaryOp .Not _ _ => false
  | .BoolOp _ _ _ => false
  | .IfExp _ _ _ _ => false
  | .Compare _ _ _ _ => false
  | _ => true
theorem plain_true {e : Expr} {env : PySem.Env} (h : plainB e = true) : ∀ whole, isTrue e env whole = (do let v ← whole; standAt e.pos; holding [v] (truthy v)) := by
  intro whole
  cases e <;> first
    | rfl
    | (cases h; done)
    | (rename_i op x p; cases op <;> first | rfl | (cases h; done))
def tokB : Expr → Bool
  | _ => true
/-- a if c else b as a test -/
def tIfT (tc ta tb : TT) : TT := fun σ H Q => tc σ H fun c H1 => if c = true then ta σ H1 Q else tb σ H1 Q
theorem pt_ifx {X : Cx} {pc pa pb : Expr} {pos : Pos} {tc ta tb : TT} (hc : PT X pc tc) (ha : PT X pa ta) (hb : PT X pb tb) : PT X (.IfExp pc pa pb pos) (tIfT tc ta tb) := by
  refine ⟨fun pins s σ H Q I h => ?_⟩
  refine isTrue_IfExp (thn (hc.run pins s σ H _ I h) fun c s1 ⟨H1, I1, q1⟩ => ?_)
  cases c with
  | true => exact ha.run pins s1 σ H1 Q I1 q1
  | false => exact hb.run pins s1 σ H1 Q I1 q1
def isBo : Expr → Bool
  | .BoolOp _ _ _ => true
  | _ => false
theorem plain_bo {e : Expr} (h : plainB e = true) : isBo e = false := by
  cases e <;> first | rfl | cases h
structure Sd (C : Con) (X : Cx) (ew : L2.St → XK) (e : E) (pe : Expr) : Prop where
  ex : PE X pe (tX C X ew e)
  tst : tokB pe = true → PT X pe (tB (tX C X ew e))
  who : isBo pe = true → PW X pe (tB (tX C X ew e))
theorem Sd.plain {C : Con} {X : Cx} {ew : L2.St → XK} {e : E} {p : Expr} (h : PE X p (tX C X ew e)) (hp : plainB p = true) : Sd C X ew e p :=
  ⟨h, fun _ => pt_val h (plain_true hp), fun q => by rw [plain_bo hp] at q; cases q⟩

/-! ### targets -/
def gNames : List Nat → TGs
  | [] => gNil
  | i :: is => gCons (gName i) (gNames is)
def tT (K : PySem.W.Frag) : Tg → TG
  | .one i => gName i
  | .many is => gTup K is.length (gNames is)
theorem gNames_ok {K : PySem.W.Frag} {F : Hp} {ad : List Addr} {H : Hp} : ∀ {is : List Nat} {vs : List V} {ds : List D} {env : Env} {σ : L2.St} {Q : L2.St → Hp → Prop}, Reps K F ad vs ds → is.length = ds.length → EnvRel K F ad env σ →
    (∀ σ', EnvRel K F ad (bindT.bindAll env is ds) σ' → (∀ ws, (∀ i ∈ is, i ∈ ws) → wipe σ' ws = wipe σ ws) → Q σ' H) → gNames is vs σ H Q
  | [], _, _, _, σ, Q, .nil, _, en, q => ⟨rfl, q σ en fun _ _ => rfl⟩
  | i :: is, _, _, env, σ, Q, .cons (v := v) (d := d) h r, l, en, q => by
    refine ⟨v, _, rfl, ?_⟩
    refine gNames_ok r (by simpa using l) (en.set i h) fun σ' en' hw => q σ' en' fun ws hi => ?_
    rw [hw ws fun j hj => hi j (List.mem_cons_of_mem _ hj)]
    exact wipe_set (hi i List.mem_cons_self)
  | [], _, _, _, _, _, .cons _ _, l, _, _ => by simp at l
  | _ :: _, _, _, _, _, _, .nil, l, _, _ => by simp at l
where
  wipe_set {σ : L2.St} {i : Nat} {x : Option V} : ∀ {ws : List Nat}, i ∈ ws → wipe (σ.set i x) ws = wipe σ ws
    | w :: ws, h => by
      unfold wipe
      by_cases hi : i ∈ ws
      · rw [wipe_set hi]
      · have e : i = w := by
          rcases List.mem_cons.mp h with e | e
          · exact e
          · exact absurd e hi
        subst e
        rw [wipe_comm hi, List.set_set]
  wipe_comm {σ : L2.St} {i : Nat} {x : Option V} : ∀ {ws : List Nat}, i ∉ ws → wipe (σ.set i x) ws = (wipe σ ws).set i x
    | [], _ => rfl
    | w :: ws, h => by
      unfold wipe
      rw [wipe_comm (fun e => h (List.mem_cons_of_mem _ e))]
      rw [List.set_comm]
      intro e
      exact h (by rw [e]; exact List.mem_cons_self)
theorem wipe_wipe (σ : L2.St) (vs : List Nat) : wipe (wipe σ vs) vs = wipe σ vs := by
  apply List.ext_getElem?
  intro i
  by_cases h : i ∈ vs
  · by_cases hl : i < σ.length
    · rw [wipe_at h (by rw [wipe_length]; exact hl), wipe_at h hl]
    · rw [List.getElem?_eq_none (by rw [wipe_length, wipe_length]; omega), List.getElem?_eq_none (by rw [wipe_length]; omega)]
  · rw [wipe_keeps h]
where
  wipe_at {σ : L2.St} {i : Nat} : ∀ {vs : List Nat}, i ∈ vs → i < σ.length → (wipe σ vs)[i]? = some none
    | w :: vs, h, hl => by
      unfold wipe
      by_cases e : w = i
      · subst e
        rw [List.getElem?_set_self (by rw [wipe_length]; exact hl)]
      · rw [List.getElem?_set_ne e]
        rcases List.mem_cons.mp h with q | q
        · exact absurd q.symm e
        · exact wipe_at q hl
def tgIx : Tg → List Nat
  | .one i => [i]
  | .many is => is
theorem tT_ok {K : PySem.W.Frag} {F : Hp} {ad : List Addr} {H : Hp} {st : Sto} {tg : Tg} {v : V} {d : D} {env env' : Env} {σ : L2.St} {Q : L2.St → Hp → Prop} (r : RelS K F ad st H) (h : Rep K F ad v d) (en : EnvRel K F ad env σ) (e : bindT env tg d = some env')
    (q : ∀ σ', EnvRel K F ad env' σ' → (∀ ws, (∀ i ∈ tgIx tg, i ∈ ws) → wipe σ' ws = wipe σ ws) → Q σ' H) : tT K tg v σ H Q := by
  cases tg with
  | one i =>
    simp only [bindT, Option.some.injEq] at e
    subst e
    exact q _ (en.set i h) fun ws hi => gNames_ok.wipe_set (hi i (by simp [tgIx]))
  | many is =>
    cases h with
    | tup hs hr =>
      simp only [bindT] at e
      split at e
      · rename_i hl
        cases e
        exact ⟨_, _, rfl, sqtUp r.sub hs.1, by rw [hr.length, hl], gNames_ok hr hl en q⟩
      · cases e
    | _ => simp only [bindT] at e; cases e

/-! ### walks -/
structure JOk (K : PySem.W.Frag) (J : L2.It) (src : D) (ds : List D) (F : Hp) (ad : List Addr) (H : Hp) : Prop where
  go : ∀ i F' ad' st' H', Step F ad H F' ad' H' → RelS K F' ad' st' H' → stands src ds st' = true → i < ds.length → J.go i H' ∧
    ∀ x H2, J.yld i H' x H2 → ∃ F2, Step F' ad' H' F2 ad' H2 ∧ RelS K F2 ad' st' H2 ∧ ∃ d, ds[i]? = some d ∧ Rep K F2 ad' x d
  stop : ∀ i F' ad' st' H', Step F ad H F' ad' H' → RelS K F' ad' st' H' → stands src ds st' = true → ds.length ≤ i → J.stop i H'
def OkI (K : PySem.W.Frag) (cls : Str → Option Addr) (ew : XK) (F : Hp) (ad : List Addr) (H : Hp) (r : R (D × List D)) (Q : MP.D → List MP.D → Hp → List Addr → Hp → Prop) : Prop := match r with
  | .ok x st' => ∀ F' ad' H', Step F ad H F' ad' H' → RelS K F' ad' st' H' → Q x.1 x.2 F' ad' H'
  | .err c st' => ∀ F' ad' H' a, Step F ad H F' ad' H' → RelS K F' ad' st' H' → cls c = some a → ew (.ref a) none H'
  | .stuck => False
def tI (C : Con) (X : Cx) (ew : L2.St → XK) (it : It) : TI := fun σ H R => ∃ F ad env st, RelS X.K F ad st H ∧ EnvRel X.K F ad env σ ∧
  OkI X.K C.cls (ew σ) F ad H (evI (run C.T C.k) it env st) fun src ds F' ad' H' => ∀ J, JOk X.K J src ds F' ad' H' → R J H'
mutual
theorem D.same_eq : ∀ {a b : D}, a.same b = true → a = b
  | .none, b, h => by cases b <;> first | rfl | (simp [D.same] at h)
  | .bool x, b, h => by cases b <;> first | (simp [D.same] at h; done) | (simp only [D.same, beq_iff_eq] at h; rw [h])
  | .int x, b, h => by cases b <;> first | (simp [D.same] at h; done) | (simp only [D.same, beq_iff_eq] at h; rw [h])
  | .str x, b, h => by cases b <;> first | (simp [D.same] at h; done) | (simp only [D.same, decide_eq_true_eq] at h; rw [h])
  | .list x, b, h => by cases b <;> first | (simp [D.same] at h; done) | (simp only [D.same] at h; rw [sames_eq h])
  | .tup x, b, h => by cases b <;> first | (simp [D.same] at h; done) | (simp only [D.same] at h; rw [sames_eq h])
  | .ref x, b, h => by cases b <;> first | (simp [D.same] at h; done) | (simp only [D.same, beq_iff_eq] at h; rw [h])
  | .dk _ _, b, h => by cases b <;> simp [D.same] at h
  | .dt _ _, b, h => by cases b <;> simp [D.same] at h
  | .scr _, b, h => by cases b <;> simp [D.same] at h
  | .exc _, b, h => by cases b <;> simp [D.same] at h
theorem sames_eq : ∀ {a b : List D}, sames a b = true → a = b
  | [], [], _ => rfl
  | [], _ :: _, h => by simp [sames] at h
  | _ :: _, [], h => by simp [sames] at h
  | x :: xs, y :: ys, h => by
    simp only [sames, Bool.and_eq_true] at h
    rw [D.same_eq h.1, sames_eq h.2]
end
section
variable {K : PySem.W.Frag} {F F' : Hp} {ad ad' : List Addr} {H H' : Hp} {st st' : Sto}
theorem get_reps {vs : List V} {ds : List D} (h : Reps K F ad vs ds) {i : Nat} (hi : i < ds.length) : ∃ v d, vs[i]? = some v ∧ ds[i]? = some d ∧ Rep K F ad v d := by
  obtain ⟨v, h1, h2⟩ := h.get (i := i) (d := ds[i]) (List.getElem?_eq_getElem hi)
  exact ⟨v, _, h1, List.getElem?_eq_getElem hi, h2⟩
theorem jok_list {a : Addr} {vs : List V} {ds : List D} {src : D} (hq : ∀ F' ad' st' H', Step F ad H F' ad' H' → RelS K F' ad' st' H' → stands src ds st' = true → ∃ ws, SqL K H' a ws ∧ Reps K F' ad' ws ds) : JOk K (Itl K a) src ds F ad H where
  go := fun i F' ad' st' H' s r hs hi => by
    obtain ⟨ws, h1, h2⟩ := hq F' ad' st' H' s r hs
    obtain ⟨v, d, g1, g2, g3⟩ := get_reps h2 hi
    refine ⟨⟨ws, v, h1, g1⟩, fun x H2 ⟨e, y⟩ => ?_⟩
    subst e
    have z := y ws h1
    rw [g1] at z
    cases z
    exact ⟨F', Step.refl _ _ _, r, d, g2, g3⟩
  stop := fun i F' ad' st' H' s r hs hi => by
    obtain ⟨ws, h1, h2⟩ := hq F' ad' st' H' s r hs
    exact ⟨ws, h1, by rw [h2.length]; exact hi⟩
theorem jok_tup {a : Addr} {ws : List V} {ds : List D} {src : D} (h1 : SqT K F a ws) (h2 : Reps K F ad ws ds) : JOk K (Itt K a) src ds F ad H where
  go := fun i F' ad' st' H' s r hs hi => by
    obtain ⟨v, d, g1, g2, g3⟩ := get_reps h2 hi
    have h1' := sqtUp r.sub (sqtUp s.le h1)
    refine ⟨⟨ws, v, h1', g1⟩, fun x H2 ⟨e, y⟩ => ?_⟩
    subst e
    have z := y ws h1'
    rw [g1] at z
    cases z
    exact ⟨F', Step.refl _ _ _, r, d, g2, g3.step s⟩
  stop := fun i F' ad' st' H' s r hs hi => ⟨ws, sqtUp r.sub (sqtUp s.le h1), by rw [h2.length]; exact hi⟩
theorem jok_str {z : Str} {src : D} : JOk K (Its z) src (signs z) F ad H where
  go := fun i F' ad' st' H' s r hs hi => by
    have hi' : i < z.cps.size := by simpa [signs] using hi
    refine ⟨hi', fun x H2 ⟨e, c, h1, h2⟩ => ?_⟩
    subst e
    subst h2
    refine ⟨F', Step.refl _ _ _, r, sgn c, ?_, .str _⟩
    unfold signs
    rw [List.getElem?_map, Array.getElem?_toList, h1]; rfl
  stop := fun i F' ad' st' H' s r hs hi => by
    show z.cps.size ≤ i
    simpa [signs] using hi
theorem jok_range {lo : Int} {n : Nat} {src : D} : JOk K (Itr lo n) src ((rangeI lo n).map D.int) F ad H where
  go := fun i F' ad' st' H' s r hs hi => by
    have hi' : i < n := by simpa [rangeI] using hi
    refine ⟨hi', fun x H2 ⟨e, h2⟩ => ?_⟩
    subst e
    subst h2
    refine ⟨F', Step.refl _ _ _, r, .int (lo + i), ?_, .int _⟩
    simp [rangeI, hi']
  stop := fun i F' ad' st' H' s r hs hi => by
    show n ≤ i
    simpa [rangeI] using hi
theorem reps_zip {vs ws : List V} {xs ys : List D} (h1 : Reps K F ad vs xs) (h2 : Reps K F ad ws ys) {i : Nat} {d : D} (hd : (List.zipWith (fun x y => D.tup [x, y]) xs ys)[i]? = some d) : ∃ v w x y, vs[i]? = some v ∧ ws[i]? = some w ∧ Rep K F ad v x ∧ Rep K F ad w y ∧ d = .tup [x, y] := by
  rw [List.getElem?_zipWith] at hd
  split at hd
  · rename_i x y e1 e2
    obtain ⟨v, g1, g2⟩ := h1.get e1
    obtain ⟨w, g3, g4⟩ := h2.get e2
    exact ⟨v, w, x, y, g1, g3, g2, g4, (Option.some.inj hd).symm⟩
  · cases hd
theorem jok_zip {a b : Addr} {vs ws : List V} {xs ys : List D} {src : D} (h1 : F a = some (.lst vs)) (h2 : Reps K F ad vs xs) (h3 : F b = some (.lst ws)) (h4 : Reps K F ad ws ys) : JOk K (Itz K a b) src (List.zipWith (fun x y => D.tup [x, y]) xs ys) F ad H where
  go := fun i F' ad' st' H' s r hs hi => by
    obtain ⟨v, w, x, y, g1, g2, g3, g4, g5⟩ := reps_zip h2 h4 (List.getElem?_eq_getElem hi)
    have q1 : SqL K H' a vs := SqL.of (r.sub _ _ (s.le _ _ h1))
    have q2 : SqL K H' b ws := SqL.of (r.sub _ _ (s.le _ _ h3))
    refine ⟨⟨vs, ws, v, w, q1, q2, g1, g2⟩, fun z H2 ⟨T, x', y', e1, e2, e3, e4, e5⟩ => ?_⟩
    subst e1
    subst e3
    have z1 := e4 vs q1
    rw [g1] at z1
    cases z1
    have z2 := e5 ws q2
    rw [g2] at z2
    cases z2
    have hf : F' T = none := by
      cases e : F' T with
      | none => rfl
      | some o => rw [r.sub T o e] at e2; cases e2
    have ha : T ∉ ad' := fun hm => r.live T hm e2
    refine ⟨upd F' T (.tup [v, w]), (Step.beside e2).frozen hf e2, (r.beside e2).frozen upd_same hf ha, .tup [x, y], by rw [← g5]; exact List.getElem?_eq_getElem hi, ?_⟩
    exact .tup (tkNew upd_same) (.cons ((g3.step s).up (up_frozen hf) fun _ _ h => h) (.cons ((g4.step s).up (up_frozen hf) fun _ _ h => h) .nil))
  stop := fun i F' ad' st' H' s r hs hi => by
    refine ⟨vs, ws, SqL.of (r.sub _ _ (s.le _ _ h1)), SqL.of (r.sub _ _ (s.le _ _ h3)), ?_⟩
    rw [h2.length, h4.length]
    have : min xs.length ys.length ≤ i := by simpa using hi
    omega
/-- a value's items, walked -/
theorem items_jok {v : V} {d : D} {ds : List D} (r : RelS K F ad st H) (h : Rep K F ad v d) (e : items st d = some ds) :
    (∃ a ws, v = .ref a ∧ SqL K H a ws ∧ JOk K (Itl K a) d ds F ad H) ∨ (∃ a ws, v = .ref a ∧ SqT K H a ws ∧ JOk K (Itt K a) d ds F ad H) ∨ ∃ z, v = .str z ∧ JOk K (Its z) d ds F ad H := by
  cases h with
  | str z =>
    simp only [items, Option.some.injEq] at e
    subst e
    exact .inr (.inr ⟨z, rfl, jok_str⟩)
  | list hs hr =>
    simp only [items, seqOf, Option.some.injEq] at e
    subst e
    exact .inl ⟨_, _, rfl, SqL.of (r.sub _ _ hs), jok_list (vs := []) fun F' ad' st' H' s r' _ => ⟨_, SqL.of (r'.sub _ _ (s.le _ _ hs)), hr.step s⟩⟩
  | scr hs =>
    simp only [items, seqOf, Option.some.injEq] at e
    subst e
    exact .inl ⟨_, _, rfl, sqlUp r.sub hs, jok_list (vs := []) fun F' ad' st' H' s r' _ => ⟨_, sqlUp r'.sub (sqlUp s.le hs), reps_ints _⟩⟩
  | tup hs hr =>
    simp only [items, seqOf, Option.some.injEq] at e
    subst e
    exact .inr (.inl ⟨_, _, rfl, sqtUp r.sub hs.1, jok_tup hs.1 hr⟩)
  | ref ha =>
    rename_i a n
    simp only [items, seqOf] at e
    split at e
    · rename_i xs hx
      cases e
      obtain ⟨vs, h1, h2⟩ := r.cell _ _ _ hx ha
      refine .inl ⟨_, vs, rfl, SqL.of h1, jok_list (vs := []) fun F' ad' st' H' s r' hst => ?_⟩
      simp only [stands] at hst
      split at hst
      · rename_i ys hy
        obtain ⟨ws, g1, g2⟩ := r'.cell _ _ _ hy (s.pa _ _ ha)
        rw [sames_eq hst] at g2
        exact ⟨ws, SqL.of g1, g2⟩
      · cases hst
    · cases e
  | none => simp only [items, seqOf] at e; cases e
  | exc _ _ => simp only [items, seqOf] at e; cases e
  | bool _ => simp only [items, seqOf] at e; cases e
  | int _ => simp only [items, seqOf] at e; cases e
end
def iSeq (K : PySem.W.Frag) (t : TE) : TI := fun σ H R => t σ H fun x H1 => (∃ a ws, x = .ref a ∧ SqL K H1 a ws ∧ R (Itl K a) H1) ∨ (∃ a ws, x = .ref a ∧ SqT K H1 a ws ∧ R (Itt K a) H1) ∨ ∃ z, x = .str z ∧ R (Its z) H1
theorem pi_seq {X : Cx} {tg l : Expr} {tl : TE} (hl : PE X l tl) : PI X tg l (iSeq X.K tl) := by
  refine ⟨fun pins s σ H R I h => ?_⟩
  refine thn (hl.run pins s σ H _ I h) fun v s1 ⟨x, H1, I1, r1, q1⟩ => ?_
  rcases q1 with ⟨a, xs, e, hq, q⟩ | ⟨a, xs, e, hq, q⟩ | ⟨z, e, q⟩
  · subst e
    cases r1
    obtain ⟨its, rv, p, hz⟩ := I1.list hq
    refine wpAny_pyIter_list p.isList ?_
    refine ⟨s1.heap.objs.size, [s1.heap.objs.size], _, _, H1, rfl, I1.kept (t' := s1.toks) fun b o e => Heap.get?_push_of_some _ e, turn_list a _, ⟨_, Heap.get?_push_size _ rfl, rfl, rfl⟩, fun b hb => ?_, q⟩
    have e : b = s1.heap.objs.size := by simpa using hb
    subst e
    exact I1.fpOk (Nat.le_refl _) (I1.hok.fresh (Nat.le_refl _))
  · subst e
    cases r1
    obtain ⟨its, rv, p, hz⟩ := I1.tuple hq
    refine wpAny_pyIter_tuple (show s1.heap.IsTuple a its.toArray from p) ?_
    refine ⟨s1.heap.objs.size, [s1.heap.objs.size], _, _, H1, rfl, I1.kept (t' := s1.toks) fun b o e => Heap.get?_push_of_some _ e, turn_tuple a _, ⟨_, Heap.get?_push_size _ rfl, rfl, rfl⟩, fun b hb => ?_, q⟩
    have e : b = s1.heap.objs.size := by simpa using hb
    subst e
    exact I1.fpOk (Nat.le_refl _) (I1.hok.fresh (Nat.le_refl _))
  · subst e
    obtain ⟨t, rfl⟩ := r1
    cases ha : z.cps.all (· < 128)
    · exact wpAny_pyIter_wide ha (pi_one (tk := s1.toks) I1 _ (turn_str _ z t "str_iterator" (.inr rfl)) ⟨_, Heap.get?_push_size _ rfl, rfl, rfl⟩ q)
    · exact wpAny_pyIter_ascii ha (pi_one (tk := s1.toks) I1 _ (turn_str _ z t "str_ascii_iterator" (.inl rfl)) ⟨_, Heap.get?_push_size _ rfl, rfl, rfl⟩ q)
theorem _root_.L2.PI.imp {X : Cx} {tg e : Expr} {t t' : TI} (h : PI X tg e t) (i : ∀ σ H R, t' σ H R → t σ H R) : PI X tg e t' := ⟨fun pins s σ H R I q => h.run pins s σ H R I (i _ _ _ q)⟩
end MP

/-! The program's text against the terms; expressions. -/
namespace MP
open PySem PySem.Spec PyProof.Rows L2

def visB (sc : Scope) (x : Str) : Bool := match sc.names.lookup x with
  | some .local => true
  | some .cell => true
  | some .free => true
  | _ => false
def glB (sc : Scope) (x : Str) : Bool := match sc.names.lookup x with
  | some .globalImplicit => true
  | _ => false
def locB (sc : Scope) (ow : Str → Bool) (x : Str) : Bool := match sc.names.lookup x with
  | some .local => true
  | some .cell => ow x
  | _ => false
def okN (x : Str) : Bool := !(x == ("__debug__" : Str)) && !(x == ("__classdict__" : Str))
theorem vis_of {sc : Scope} {x : Str} (h : visB sc x = true) : Vis sc x := by
  unfold visB at h
  split at h
  · exact .inl (by assumption)
  · exact .inr (.inl (by assumption))
  · exact .inr (.inr (by assumption))
  · cases h
theorem gl_of {X : Cx} {sc : Scope} {x : Str} (e : X.env.scope = sc) (h : glB sc x = true) : Gl X x := by
  subst e
  unfold glB at h
  split at h
  · assumption
  · cases h
theorem ok1 {x : Str} (h : okN x = true) : (x == ("__debug__" : Str)) = false ∧ (x == ("__classdict__" : Str)) = false := by
  unfold okN at h
  rw [Bool.and_eq_true] at h
  exact ⟨by simpa using h.1, by simpa using h.2⟩
def litB : D → Expr → Bool
  | .int i, pe => (match pe with
    | .Constant (.int j) _ _ => i == j
    | .UnaryOp .USub (.Constant (.int j) _ _) _ => i == -j
    | _ => false)
  | .bool b, pe => (match pe with
    | .Constant (.bool c) _ _ => b == c
    | _ => false)
  | .none, pe => (match pe with
    | .Constant .none _ _ => true
    | _ => false)
  | .str x, pe => (match pe with
    | .Constant (.str y) _ _ => x == y
    | _ => false)
  | _, _ => false
def dlitB : List Str → List Int → List (Option Expr) → List Expr → Bool
  | [], [], [], [] => true
  | k :: ks, v :: vs, some pk :: keys, pv :: vals => litB (.str k) pk && litB (.int v) pv && dlitB ks vs keys vals
  | _, _, _, _ => false
def starB : Expr → Bool
  | .Starred _ _ => true
  | _ => false
def plainIxB : Expr → Bool
  | .Slice _ _ _ _ => false
  | _ => true
def setB : Expr → Bool
  | .Set _ _ _ => true
  | _ => false
def callB : Expr → Bool
  | .Call _ _ _ _ => true
  | _ => false
theorem star_each {e : Expr} {es : List Expr} {env : PySem.Env} (h : starB e = false) : starEach (e :: es) env = (false, eval e env) :: starEach es env := by
  cases e <;> first | rfl | cases h
theorem plain_ix {e : Expr} (h : plainIxB e = true) : PlainIx e := by
  intro o i
  cases e <;> first | rfl | cases h
theorem not_set {e : Expr} {env : PySem.Env} (h : setB e = false) : ∀ x, foldedSetIterable e env x = pure x := by
  intro x
  cases e <;> first | rfl | cases h
theorem att_base {e : Expr} {f : Str} {env : PySem.Env} (h : callB e = false) : attributeBase e f env (eval e env) = eval e env := by
  cases e <;> first | rfl | cases h
/-- which built-in function a name is -/
def chkBI (f : BI) (x : Str) : Bool := match f with
  | .len => x == "len"
  | .listOf => x == "list"
  | .dkeys => x == "list"
  | .tupleOf => x == "tuple"
  | .sorted => x == "sorted"
  | .sortedX => x == "sorted"
  | .sortedR => x == "sorted"
  | .sum => x == "sum"
  | .any => x == "any"
  | .all => x == "all"
  | .max2 => x == "max"
  | .maxL => x == "max"
  | .minL => x == "min"
  | .minT => x == "min"
  | .toInt => x == "int"
  | .toStr => x == "str"
  | _ => false
def chkTy (T : String) (x : Str) : Bool := (T == "bool" && x == "bool") || (T == "int" && x == "int") || (T == "str" && x == "str") || (T == "list" && x == "list") || (T == "tuple" && x == "tuple")
def mtName : MT → Option (Str × Bool)
  | .append => some ("append", false)
  | .extend => some ("extend", false)
  | .pop0 => some ("pop", true)
  | .popAt => some ("pop", false)
  | .insert => some ("insert", false)
  | .remove => some ("remove", false)
  | .reverse => some ("reverse", true)
  | .clear => some ("clear", true)
  | .index => some ("index", false)
  | .count => some ("count", false)
  | .sindex => some ("index", false)
  | .join => some ("join", false)
  | .islower => some ("islower", true)
  | .split => some ("split", false)
  | .find => some ("find", false)
  | .countS => some ("count", false)
  | .endswith => some ("endswith", false)
  | .rfind3 => some ("rfind", false)
  | _ => none
def esLen : Es → Nat
  | .nil => 0
  | .cons _ es => esLen es + 1
def fewB (cpos : Pos) (n : Nat) : Bool := decide (n < 30)

def chkNames (N : List Str) (sc : Scope) (ow : Str → Bool) : List Nat → List Expr → Bool
  | [], [] => true
  | i :: is, .Name x _ :: ps => (N[i]? == some x) && locB sc ow x && chkNames N sc ow is ps
  | _, _ => false
def chkTg (N : List Str) (sc : Scope) (ow : Str → Bool) : Tg → Expr → Bool
  | .one i, pe => (match pe with
    | .Name x _ => (N[i]? == some x) && locB sc ow x
    | _ => false)
  | .many is, pe => (match pe with
    | .Tuple ps _ _ => chkNames N sc ow is ps
    | _ => false)
def tupB : Expr → Bool
  | .Tuple _ _ _ => true
  | _ => false
def owB (scope : Scope) (x : Str) : Bool := scope.names.lookup x == some .cell
def ownP (N : List Str) (own : List Nat) : List (Str × Nat) := own.map fun i => ((N[i]?).getD "", i)
def isTrueLit : E → Bool
  | .lit (.bool true) => true
  | _ => false
mutual
def chkE (T : Nat → Option Def) (G : Str → Option D) (N : List Str) (sc : Scope) (ow : Str → Bool) : E → Expr → Bool
  | .var i, pe => (match pe with
    | .Name x _ => (N[i]? == some x) && visB sc x && okN x
    | _ => false)
  | .lit d, pe => litB d pe
  | .glob x d, pe => (match pe with
    | .Name y _ => x == y && glB sc y && okN y && (match G x with
      | some d' => d.same d'
      | none => false)
    | _ => false)
  | .bin o a b, pe => (match pe with
    | .BinOp pa op pb _ => decide (op = bopOf o) && chkE T G N sc ow a pa && chkE T G N sc ow b pb
    | _ => false)
  | .cmp o a b, pe => (match pe with
    | .Compare pa [op] [pb] _ => decide (op = copOf o) && !behindInMarks op pb && chkE T G N sc ow a pa && chkE T G N sc ow b pb
    | _ => false)
  | .chain o p a b c, pe => (match pe with
    | .Compare pa [op, op'] [pb, pc] _ => decide (op = copOf o) && decide (op' = copOf p) && !lastMarks [op, op'] [pb, pc] && chkE T G N sc ow a pa && chkE T G N sc ow b pb && chkE T G N sc ow c pc
    | _ => false)
  | .land a b, pe => (match pe with
    | .BoolOp .And [pa, pb] _ => tokB pa && tokB pb && chkE T G N sc ow a pa && chkE T G N sc ow b pb
    | .BoolOp .And (pa :: pb :: pc :: r) pos => tokB pa && chkE T G N sc ow a pa && chkE T G N sc ow b (.BoolOp .And (pb :: pc :: r) pos)
    | _ => false)
  | .lor a b, pe => (match pe with
    | .BoolOp .Or [pa, pb] _ => tokB pa && tokB pb && chkE T G N sc ow a pa && chkE T G N sc ow b pb
    | .BoolOp .Or (pa :: pb :: pc :: r) pos => tokB pa && chkE T G N sc ow a pa && chkE T G N sc ow b (.BoolOp .Or (pb :: pc :: r) pos)
    | _ => false)
  | .lnot a, pe => (match pe with
    | .UnaryOp .Not pa _ => tokB pa && chkE T G N sc ow a pa
    | _ => false)
  | .ite c a b, pe => (match pe with
    | .IfExp pc pa pb _ => tokB pc && chkE T G N sc ow c pc && chkE T G N sc ow a pa && chkE T G N sc ow b pb
    | _ => false)
  | .tup es, pe => (match pe with
    | .Tuple ps _ _ => chkEs T G N sc ow es ps
    | _ => false)
  | .list es, pe => (match pe with
    | .List ps _ => chkEs T G N sc ow es ps
    | _ => false)
  | .ix a b, pe => (match pe with
    | .Subscript pa pb _ => plainIxB pb && chkE T G N sc ow a pa && chkE T G N sc ow b pb
    | _ => false)
  | .sl a lo hi, pe => (match pe with
    | .Subscript pa (.Slice plo phi none _) _ => chkE T G N sc ow a pa && (match plo with
        | none => isNoneLit lo
        | some p => !isNoneLit lo && chkE T G N sc ow lo p) && (match phi with
        | none => isNoneLit hi
        | some p => !isNoneLit hi && chkE T G N sc ow hi p)
    | _ => false)
  | .call f es, pe => (match pe with
    | .Call (.Name x _) ps [] _ => (match T f with
      | some d => d.name == x && okN x && glB sc x && chkEs T G N sc ow es ps
      | none => false)
    | _ => false)
  | .callC f es, pe => (match pe with
    | .Call (.Name x _) ps [] _ => (match T f with
      | some d => d.name == x && okN x && glB sc x && chkEs T G N sc ow es ps
      | none => false)
    | _ => false)
  | .callS f es, pe => (match pe with
    | .Call (.Name x _) ps [] _ => (match T f with
      | some d => d.name == x && okN x && glB sc x && chkEs T G N sc ow es ps
      | none => false)
    | _ => false)
  | .bi f es, pe => (match f with
    | .range1 => (match pe with
      | .Call (.Name x _) [.Call (.Name y _) [pa] [] _] [] _ => x == "list" && y == "range" && glB sc x && glB sc y && !starB pa && (match es with
        | .cons e .nil => chkE T G N sc ow e pa
        | _ => false)
      | _ => false)
    | .isinst Ty => (match pe with
      | .Call (.Name x _) [pa, .Name y _] [] _ => x == "isinstance" && chkTy Ty y && glB sc x && glB sc y && !starB pa && (match es with
        | .cons e .nil => chkE T G N sc ow e pa
        | _ => false)
      | _ => false)
    | .neg => (match pe with
      | .UnaryOp .USub pa _ => (match es with
        | .cons e .nil => chkE T G N sc ow e pa
        | _ => false)
      | _ => false)
    | .isE g => (match pe with
      | .Call (.Name x _) [pa, .Name y _] [] _ => x == "isinstance" && y == g && glB sc x && glB sc y && okN y && isExG (G "HallError") && (g == "ValueError" || isExG (G g)) && !starB pa && (match es with
        | .cons e .nil => chkE T G N sc ow e pa
        | _ => false)
      | _ => false)
    | .tabIn neg x ks vs => (match pe with
      | .Compare pa [op] [.Name y _] _ => decide (op = copOf (if neg then .notin else .isin)) && x == y && glB sc y && okN y && tabG G y ks vs && (match es with
        | .cons e .nil => chkE T G N sc ow e pa
        | _ => false)
      | _ => false)
    | .tabGet x ks vs => (match pe with
      | .Subscript (.Name y _) pb _ => x == y && glB sc y && okN y && tabG G y ks vs && plainIxB pb && (match es with
        | .cons e .nil => chkE T G N sc ow e pb
        | _ => false)
      | _ => false)
    | .maxD0 => (match pe with
      | .Call (.Name x _) [pa] [⟨some y, pv, _⟩] _ => x == "max" && y == "default" && litB (.int 0) pv && glB sc x && !starB pa && (match es with
        | .cons e .nil => chkE T G N sc ow e pa
        | _ => false)
      | _ => false)
    | .range2 => (match pe with
      | .Call (.Name x _) [.Call (.Name y _) [pa, pb] [] _] [] _ => x == "list" && y == "range" && glB sc x && glB sc y && !starB pa && !starB pb && (match es with
        | .cons e (.cons f .nil) => chkE T G N sc ow e pa && chkE T G N sc ow f pb
        | _ => false)
      | _ => false)
    | .dget => (match pe with
      | .Subscript pa pb _ => plainIxB pb && (match es with
        | .cons e (.cons f .nil) => chkE T G N sc ow e pa && chkE T G N sc ow f pb
        | _ => false)
      | _ => false)
    | .dgetT => (match pe with
      | .Subscript pa (.Tuple ps _ _) _ => (match es with
        | .cons e (.cons (.tup fs) .nil) => chkE T G N sc ow e pa && chkEs T G N sc ow fs ps
        | _ => false)
      | _ => false)
    | .dhas neg => (match pe with
      | .Compare pa [o] [pb] _ => decide (o = copOf (if neg then .notin else .isin)) && !behindInMarks o pb && (match es with
        | .cons e (.cons f .nil) => chkE T G N sc ow e pa && chkE T G N sc ow f pb
        | _ => false)
      | _ => false)
    | .reprOf => (match pe with
      | .Call (.Name x _) [pa] [] _ => x == "repr" && isRp (G "repr") && glB sc x && !starB pa && chkEs T G N sc ow es [pa]
      | _ => false)
    | .setI => (match pe with
      | .Call (.Name x _) [.Call (.Name y _) [pa] [] _] [] _ => x == "sorted" && y == "set" && glB sc x && glB sc y && !starB pa && (match es with
        | .cons e .nil => chkE T G N sc ow e pa
        | _ => false)
      | _ => false)
    | .dkI => (match pe with
      | .Call (.Name x _) [.Call (.Name y _) [.Call (.Name z _) [pa] [] _] [] _] [] _ => x == "sorted" && y == "list" && z == "dict" && glB sc x && glB sc y && glB sc z && !starB pa && (match es with
        | .cons e .nil => chkE T G N sc ow e pa
        | _ => false)
      | _ => false)
    | .revL => (match pe with
      | .Subscript pa (.Slice none none (some (.UnaryOp .USub (.Constant (.int 1) _ _) _)) _) _ => (match es with
        | .cons e .nil => chkE T G N sc ow e pa
        | _ => false)
      | _ => false)
    | .dkX => (match pe with
      | .Call (.Name x _) [.Call (.Name y _) [.Call (.Name z _) [pa] [] _] [] _] [] _ => x == "sorted" && y == "list" && z == "dict" && glB sc x && glB sc y && glB sc z && !starB pa && (match es with
        | .cons e .nil => chkE T G N sc ow e pa
        | _ => false)
      | _ => false)
    | .tabGetD x ks vs => (match pe with
      | .Call (.Attribute (.Name y _) z apos) [pa, pd] [] cpos => x == y && z == "get" && glB sc x && okN x && tabG G x ks vs && (apos.endLine == cpos.line) && !starB pa && !starB pd && (match es with
        | .cons e (.cons (.lit (.int k)) .nil) => litB (.int k) pd && chkE T G N sc ow e pa
        | _ => false)
      | _ => false)
    | .setX => (match pe with
      | .Call (.Name x _) [.Call (.Name y _) [pa] [] _] [] _ => x == "sorted" && y == "set" && glB sc x && glB sc y && !starB pa && (match es with
        | .cons e .nil => chkE T G N sc ow e pa
        | _ => false)
      | _ => false)
    | .dlitX ks vs => (match pe with
      | .Dict keys vals _ => dlitB ks vs keys vals && (match es with
        | .nil => true
        | _ => false)
      | _ => false)
    | _ => (match pe with
      | .Call (.Name x _) (p :: ps) [] _ => chkBI f x && glB sc x && !starB p && chkEs T G N sc ow es (p :: ps)
      | _ => false))
  | .mt m o es, pe => (match pe with
    | .Call (.Attribute po y apos) ps [] cpos => (match mtName m with
      | some (n, z) => n == y && !callB po && chkE T G N sc ow o po && (apos.endLine == cpos.line) && decide (ps.length < 30) && (z == ps.isEmpty) && chkEs T G N sc ow es ps
      | none => (match m with
        | .get => y == "get" && !callB po && chkE T G N sc ow o po && (apos.endLine == cpos.line) && (match es with
          | .cons (.tup fs) (.cons f .nil) => (match ps with
            | [.Tuple qs _ _, pz] => chkEs T G N sc ow fs qs && chkE T G N sc ow f pz && !starB pz
            | _ => false)
          | _ => false)
        | _ => false))
    | _ => false)
  | .comp elt tg it cond own, pe => (match pe with
    | .ListComp pelt [⟨ptg, pit, pifs, 0⟩] scope _ => blkC N sc scope (ownP N own) && chkI T G N sc ow (tupB ptg) it pit && !setB pit && (tgIx tg).all (fun i => own.contains i) &&
        chkTg N (relS scope sc) (owB scope) tg ptg && chkE T G N (relS scope sc) (owB scope) elt pelt && (match pifs with
        | [] => isTrueLit cond
        | [pc] => tokB pc && chkE T G N (relS scope sc) (owB scope) cond pc
        | _ => false)
    | _ => false)
  | .cell e, pe => chkE T G N sc ow e pe
  | .dnew t, pe => (match pe with
    | .Dict [] [] _ => true
    | _ => false)
def chkEs (T : Nat → Option Def) (G : Str → Option D) (N : List Str) (sc : Scope) (ow : Str → Bool) : Es → List Expr → Bool
  | .nil, ps => ps.isEmpty
  | .cons e es, ps => (match ps with
    | p :: ps => !starB p && chkE T G N sc ow e p && chkEs T G N sc ow es ps
    | [] => false)
def chkI (T : Nat → Option Def) (G : Str → Option D) (N : List Str) (sc : Scope) (ow : Str → Bool) (tup : Bool) : It → Expr → Bool
  | .seq e, pe => chkE T G N sc ow e pe
  | .range1 a, pe => (match pe with
    | .Call (.Name x _) [pa] [] _ => x == "range" && glB sc x && !starB pa && chkE T G N sc ow a pa
    | _ => false)
  | .range2 a b, pe => (match pe with
    | .Call (.Name x _) [pa, pb] [] _ => x == "range" && glB sc x && !starB pa && !starB pb && chkE T G N sc ow a pa && chkE T G N sc ow b pb
    | _ => false)
  | .zip a b, pe => (match pe with
    | .Call (.Name x _) [pa, pb] [] _ => tup && x == "zip" && glB sc x && !starB pa && !starB pb && chkE T G N sc ow a pa && chkE T G N sc ow b pb
    | _ => false)
end
end MP

/-! The expressions are sound, one form after another. -/
namespace MP
open PySem PySem.Spec PyProof.Rows L2

section
variable {C : Con} {N : List Str} {X : Cx} {sc : Scope} {ow : Str → Bool} {ew : L2.St → XK}
/-- what a mild context tells, too -/
structure Mild (C : Con) (N : List Str) (X : Cx) (sc : Scope) : Prop where
  hN : X.N = N
  nd : N.Nodup
  sc : X.env.scope = sc
  un : X.A.units + 65 < cLine
  facts : Facts X.prog X.w X.K X.mg X.base C
theorem units_ok (g : Good C N X sc ow ew) : X.A.units + 65 < cLine := by
  have := g.room.un
  omega
theorem Good.mild (g : Good C N X sc ow ew) : Mild C N X sc := ⟨g.hN, g.nd, g.sc, units_ok g, g.facts⟩
theorem sd_var {i : Nat} {pe : Expr} (g : Mild C N X sc) (h : chkE C.T C.G N sc ow (.var i) pe = true) : Sd C X ew (.var i) pe := by
  unfold chkE at h
  split at h
  · rename_i x pos
    simp only [Bool.and_eq_true, beq_iff_eq] at h
    obtain ⟨⟨h1, h2⟩, h3⟩ := h
    refine Sd.plain ((pe_var (i := i) (by rw [g.hN]; exact h1) (by rw [g.sc]; exact vis_of h2) (ok1 h3).1 (ok1 h3).2).imp fun σ H Q ⟨F, ad, env, st, r, en, ok⟩ => ?_) rfl
    unfold evX at ok
    split at ok
    · rename_i d e
      obtain ⟨v, e1, e2⟩ := en.at_ i d e
      exact ⟨v, e1, ok.val r e2⟩
    · exact ok.elim
  · cases h
theorem sd_lit {d : D} {pe : Expr} (h : litB d pe = true) : Sd C X ew (.lit d) pe := by
  have key : ∀ {pe : Expr} {v : V}, PE X pe (tC v) → (∀ F ad, Rep X.K F ad v d) → PE X pe (tX C X ew (.lit d)) := fun hp hr => hp.imp fun σ H Q ⟨F, ad, env, st, r, en, ok⟩ => by
    unfold evX at ok
    exact ok.val r (hr F ad)
  unfold litB at h
  split at h
  · split at h
    · rw [beq_iff_eq] at h
      subst h
      exact Sd.plain (key pe_int fun _ _ => .int _) rfl
    · rw [beq_iff_eq] at h
      subst h
      refine Sd.plain ((pe_un un_neg pe_int).imp fun σ H Q ⟨F, ad, env, st, r, en, ok⟩ => ?_) rfl
      unfold evX at ok
      exact ⟨_, rfl, ok.val r (.int _)⟩
    · cases h
  · split at h
    · rw [beq_iff_eq] at h
      subst h
      exact Sd.plain (key pe_bl fun _ _ => .bool _) rfl
    · cases h
  · split at h
    · exact Sd.plain (key pe_non fun _ _ => .none) rfl
    · cases h
  · split at h
    · rw [beq_iff_eq] at h
      subst h
      exact Sd.plain (key pe_str fun _ _ => .str _) rfl
    · cases h
  · cases h
theorem sd_glob {x : Str} {d : D} {pe : Expr} (g : Good C N X sc ow ew) (h : chkE C.T C.G N sc ow (.glob x d) pe = true) : Sd C X ew (.glob x d) pe := by
  unfold chkE at h
  split at h
  · rename_i y pos
    simp only [Bool.and_eq_true, beq_iff_eq] at h
    obtain ⟨⟨⟨h1, h2⟩, h3⟩, h4⟩ := h
    subst h1
    split at h4
    · rename_i d' e
      have hdk : d'.isDk = false := by cases d <;> cases d' <;> first | rfl | (simp [D.same] at h4)
      obtain ⟨u, v, e1, e2, e3⟩ := g.facts.glo _ _ e hdk
      refine Sd.plain ((pe_glob (gl_of g.sc h2) e1 e2 (ok1 h3).1).imp fun σ H Q ⟨F, ad, env, st, r, en, ok⟩ => ?_) rfl
      unfold evX at ok
      rw [D.same_eq h4] at ok
      exact ok.val r (e3 F ad)
    · cases h4
  · cases h
theorem sd_bin {o : BOp} {a b : E} {pa pb : Expr} {pos : Pos} (ha : Sd C X ew a pa) (hb : Sd C X ew b pb) : Sd C X ew (.bin o a b) (.BinOp pa (bopOf o) pb pos) := by
  refine Sd.plain ((pe_op (fun pins s σ H x y v u Q I rx ry (q : ∃ σ : L2.St, rBin X.K C.cls (ew σ) (binV o) x y H Q) => ?_) ha.ex hb.ex).imp fun σ H Q ⟨F, ad, env, st, r, en, ok⟩ => ?_) rfl
  · obtain ⟨σ', q⟩ := q
    exact op_bin (cls := C.cls) (ew := ew σ') o pins s σ H x y v u Q I rx ry q
  · unfold evX at ok
    refine ⟨F, ad, env, st, r, en, ok.bindF fun x st1 F1 ad1 H1 v s1 r1 x1 ok1 => ?_⟩
    refine ⟨F1, ad1, env, st1, r1, en.step s1, ok1.bindF fun y st2 F2 ad2 H2 w s2 r2 y2 ok2 => ?_⟩
    exact ⟨σ, F2, ad2, st2, x.d, y.d, r2, x1.step s2, y2, ok2⟩
theorem sd_cmp {o : COp} {a b : E} {pa pb : Expr} {pos : Pos} (g : Mild C N X sc) (ha : Sd C X ew a pa) (hb : Sd C X ew b pb) (hm : behindInMarks (copOf o) pb = false) : Sd C X ew (.cmp o a b) (.Compare pa [copOf o] [pb] pos) := by
  have key : ∀ {σ : L2.St} {H : Hp} {Q : VK}, tX C X ew (.cmp o a b) σ H Q → tOp (rCmp X.K o) (tX C X ew a) (tX C X ew b) σ H Q := fun {σ H Q} ⟨F, ad, env, st, r, en, ok⟩ => by
    unfold evX at ok
    refine ⟨F, ad, env, st, r, en, ok.bindF fun x st1 F1 ad1 H1 v s1 r1 x1 ok1 => ?_⟩
    refine ⟨F1, ad1, env, st1, r1, en.step s1, ok1.bindF fun y st2 F2 ad2 H2 w s2 r2 y2 ok2 => ?_⟩
    refine ⟨F2, ad2, st2, x.d, y.d, r2, x1.step s2, y2, ?_⟩
    split at ok2
    · rename_i c e
      exact ⟨c, e, ok2.val r2 (.bool c)⟩
    · exact ok2.elim
  refine ⟨(pe_cmpR (op_cmp g.un o) ha.ex hb.ex hm).imp fun σ H Q q => key q, fun _ => (pt_cmpR (op_cmp g.un o) ha.ex hb.ex hm).imp fun σ H Q q => key q, fun q => by cases q⟩
theorem sd_chain {o p : COp} {a b c : E} {pa pb pc : Expr} {pos : Pos} (g : Good C N X sc ow ew) (ha : Sd C X ew a pa) (hb : Sd C X ew b pb) (hc : Sd C X ew c pc) (hm : lastMarks [copOf o, copOf p] [pb, pc] = false) : Sd C X ew (.chain o p a b c) (.Compare pa [copOf o, copOf p] [pb, pc] pos) := by
  have key : ∀ {σ : L2.St} {H : Hp} {Q : VK}, tX C X ew (.chain o p a b c) σ H Q → tChain (rCmp X.K o) (rCmp X.K p) (tX C X ew a) (tX C X ew b) (tX C X ew c) σ H Q := fun {σ H Q} ⟨F, ad, env, st, r, en, ok⟩ => by
    unfold evX at ok
    refine ⟨F, ad, env, st, r, en, ok.bindF fun x st1 F1 ad1 H1 v s1 r1 x1 ok1 => ?_⟩
    refine ⟨F1, ad1, env, st1, r1, en.step s1, ok1.bindF fun y st2 F2 ad2 H2 w s2 r2 y2 ok2 => ?_⟩
    split at ok2
    · rename_i e
      refine ⟨F2, ad2, st2, x.d, y.d, r2, x1.step s2, y2, true, e, true, rfl, ?_⟩
      rw [if_pos rfl]
      refine ⟨F2, ad2, env, st2, r2, (en.step s1).step s2, ok2.bindF fun z st3 F3 ad3 H3 u s3 r3 z3 ok3 => ?_⟩
      refine ⟨F3, ad3, st3, y.d, z.d, r3, y2.step s3, z3, ?_⟩
      split at ok3
      · rename_i k e'
        exact ⟨k, e', ok3.val r3 (.bool k)⟩
      · exact ok3.elim
    · rename_i e
      refine ⟨F2, ad2, st2, x.d, y.d, r2, x1.step s2, y2, false, e, false, rfl, ?_⟩
      rw [if_neg (by decide)]
      exact ok2.val r2 (.bool false)
    · exact ok2.elim
  refine ⟨(pe_chain (op_cmp (units_ok g) o) (op_cmp (units_ok g) p) ha.ex hb.ex hc.ex hm).imp fun σ H Q q => key q, fun _ => (pt_chain (op_cmp (units_ok g) o) (op_cmp (units_ok g) p) ha.ex hb.ex hc.ex hm).imp fun σ H Q q => key q, fun q => by cases q⟩

/-- a reading as a test -/
theorem tB_of {t : TE} {σ : L2.St} {H : Hp} {Q : Bool → Hp → Prop} (h : t σ H fun x H1 => ∃ c, x = .bl c ∧ Q c H1) : tB t σ H Q := h
/-- and: the first part, then the second -/
theorem land_key {a b : E} {σ : L2.St} {H : Hp} {Q : VK} (h : tX C X ew (.land a b) σ H Q) : tX C X ew a σ H fun x H1 => ∃ c, x = .bl c ∧ if c = true then tX C X ew b σ H1 Q else Q (.bl false) H1 := by
  obtain ⟨F, ad, env, st, r, en, ok⟩ := h
  unfold evX at ok
  refine ⟨F, ad, env, st, r, en, ok.bindF fun x st1 F1 ad1 H1 v s1 r1 x1 ok1 => ?_⟩
  split at ok1
  · cases x1
    exact ⟨true, rfl, by rw [if_pos rfl]; exact ⟨F1, ad1, env, st1, r1, en.step s1, ok1⟩⟩
  · cases x1
    exact ⟨false, rfl, by rw [if_neg (by decide)]; exact ok1.val r1 (.bool false)⟩
  · exact ok1.elim
theorem orV_is (b : E) (d : D) (st : Sto) : (∃ k, b = .lit (.int k) ∧ ((d = .none ∧ orV b d st = .ok (.v (.int k)) st) ∨ ∃ j, d = .int j ∧ orV b d st = .ok (.v (.int (if j = 0 then k else j))) st)) ∨ orV b d st = .stuck := by
  unfold orV
  split
  · exact .inl ⟨_, rfl, .inl ⟨rfl, rfl⟩⟩
  · exact .inl ⟨_, rfl, .inr ⟨_, rfl, rfl⟩⟩
  · exact .inr rfl
theorem lor_key {a b : E} {σ : L2.St} {H : Hp} {Q : Bool → Hp → Prop} (h : tX C X ew (.lor a b) σ H fun x H1 => ∃ c, x = .bl c ∧ Q c H1) : tX C X ew a σ H fun x H1 => ∃ c, x = .bl c ∧ if c = true then Q true H1 else tX C X ew b σ H1 fun x H1 => ∃ c, x = .bl c ∧ Q c H1 := by
  obtain ⟨F, ad, env, st, r, en, ok⟩ := h
  unfold evX at ok
  refine ⟨F, ad, env, st, r, en, ok.bindF fun x st1 F1 ad1 H1 v s1 r1 x1 ok1 => ?_⟩
  split at ok1
  · cases x1
    exact ⟨false, rfl, by rw [if_neg (by decide)]; exact ⟨F1, ad1, env, st1, r1, en.step s1, ok1⟩⟩
  · cases x1
    obtain ⟨c, e, q⟩ := ok1.val r1 (.bool true)
    cases e
    exact ⟨true, rfl, by rw [if_pos rfl]; exact q⟩
  · rename_i d _ _
    rcases orV_is b d st1 with ⟨k, e, ⟨_, z⟩ | ⟨j, _, z⟩⟩ | z
    · rw [z] at ok1
      obtain ⟨c, e, q⟩ := ok1.val r1 (.int _)
      cases e
    · rw [z] at ok1
      obtain ⟨c, e, q⟩ := ok1.val r1 (.int _)
      cases e
    · rw [z] at ok1
      exact ok1.elim
  · exact ok1.elim
/-- .. as a value, by truth -/
theorem lor_keyT {a b : E} {σ : L2.St} {H : Hp} {Q : VK} (h : tX C X ew (.lor a b) σ H Q) : tX C X ew a σ H fun x H1 => ∃ k, TruV X.K x H1 k ∧ if k = true then Q x H1 else tX C X ew b σ H1 Q := by
  obtain ⟨F, ad, env, st, r, en, ok⟩ := h
  unfold evX at ok
  refine ⟨F, ad, env, st, r, en, ok.bindF fun x st1 F1 ad1 H1 v s1 r1 x1 ok1 => ?_⟩
  split at ok1
  · cases x1
    exact ⟨false, rfl, by rw [if_neg (by decide)]; exact ⟨F1, ad1, env, st1, r1, en.step s1, ok1⟩⟩
  · cases x1
    exact ⟨true, rfl, by rw [if_pos rfl]; exact ok1.val r1 (.bool true)⟩
  · rename_i d _ _
    rcases orV_is b d st1 with ⟨k, e, ⟨y, z⟩ | ⟨j, y, z⟩⟩ | z
    · rw [z] at ok1
      subst e
      subst y
      cases x1
      refine ⟨false, rfl, ?_⟩
      rw [if_neg (by decide)]
      refine ⟨F1, ad1, env, st1, r1, en.step s1, ?_⟩
      rw [evX]
      exact ok1
    · rw [z] at ok1
      subst e
      subst y
      cases x1
      by_cases z : j = 0
      · subst z
        refine ⟨false, rfl, ?_⟩
        rw [if_neg (by decide)]
        refine ⟨F1, ad1, env, st1, r1, en.step s1, ?_⟩
        rw [evX]
        rw [if_pos rfl] at ok1
        exact ok1
      · refine ⟨true, ?_, ?_⟩
        · show true = (j != 0)
          exact (by simpa using z : (j != 0) = true).symm
        · rw [if_pos rfl]
          rw [if_neg z] at ok1
          exact ok1.val r1 (.int j)
    · rw [z] at ok1
      exact ok1.elim
  · exact ok1.elim
theorem ite_mono {c : Bool} {A B A' B' : Prop} (h : if c = true then A else B) (h1 : A → A') (h2 : B → B') : if c = true then A' else B' := by
  cases c with
  | true => rw [if_pos rfl] at h ⊢; exact h1 h
  | false => rw [if_neg (by decide)] at h ⊢; exact h2 h
/-- the wanted end weakened -/
theorem tX_mono {e : E} {σ : L2.St} {H : Hp} {Q Q' : VK} (h : tX C X ew e σ H Q) (i : ∀ x H1, Q x H1 → Q' x H1) : tX C X ew e σ H Q' := by
  obtain ⟨F, ad, env, st, r, en, ok⟩ := h
  refine ⟨F, ad, env, st, r, en, ?_⟩
  cases q : evX (run C.T C.k) e env st with
  | ok x st' => rw [q] at ok; exact fun F' ad' H' v s r' x' => i _ _ (ok F' ad' H' v s r' x')
  | err c st' => rw [q] at ok; exact ok
  | stuck => rw [q] at ok; exact ok
theorem sd_land {a b : E} {pa pb : Expr} {rest : List Expr} {pos : Pos} (ha : Sd C X ew a pa) (ta : tokB pa = true)
    (hb : PE X (.BoolOp .And (pb :: rest) pos) (tX C X ew b)) (hw : PW X (.BoolOp .And (pb :: rest) pos) (tB (tX C X ew b))) : Sd C X ew (.land a b) (.BoolOp .And (pa :: pb :: rest) pos) := by
  have w : PW X (.BoolOp .And (pa :: pb :: rest) pos) (tB (tX C X ew (.land a b))) := (pw_and (ha.tst ta) hw).imp fun σ H Q h => by
    refine tX_mono (land_key h) fun x H1 ⟨c, e, q⟩ => ⟨c, e, ite_mono q (fun z => z) fun ⟨c', e', z⟩ => by cases e'; exact z⟩
  exact ⟨(pe_and ha.ex hb).imp fun σ H Q h => land_key h, fun _ => w.pt, fun _ => w⟩
theorem sd_lor {a b : E} {pa pb : Expr} {rest : List Expr} {pos : Pos} (ha : Sd C X ew a pa) (ta : tokB pa = true)
    (hb : PE X (.BoolOp .Or (pb :: rest) pos) (tX C X ew b)) (hw : PW X (.BoolOp .Or (pb :: rest) pos) (tB (tX C X ew b))) : Sd C X ew (.lor a b) (.BoolOp .Or (pa :: pb :: rest) pos) := by
  have w : PW X (.BoolOp .Or (pa :: pb :: rest) pos) (tB (tX C X ew (.lor a b))) := (pw_or (ha.tst ta) hw).imp fun σ H Q h => lor_key h
  exact ⟨(pe_orT ha.ex hb).imp fun σ H Q h => lor_keyT h, fun _ => w.pt, fun _ => w⟩
theorem sd_lnot {a : E} {pa : Expr} {pos : Pos} (ha : Sd C X ew a pa) (ta : tokB pa = true) : Sd C X ew (.lnot a) (.UnaryOp .Not pa pos) := by
  have key : ∀ {σ : L2.St} {H : Hp} {Q : VK}, tX C X ew (.lnot a) σ H Q → tX C X ew a σ H fun x H1 => ∃ c, x = .bl c ∧ Q (.bl (!c)) H1 := fun {σ H Q} ⟨F, ad, env, st, r, en, ok⟩ => by
    unfold evX at ok
    refine ⟨F, ad, env, st, r, en, ok.bindF fun x st1 F1 ad1 H1 v s1 r1 x1 ok1 => ?_⟩
    split at ok1
    · cases x1
      exact ⟨_, rfl, ok1.val r1 (.bool _)⟩
    · exact ok1.elim
  refine ⟨(pe_not ha.ex).imp fun σ H Q h => key h, fun _ => (pt_not (ha.tst ta)).imp fun σ H Q h => ?_, fun q => by cases q⟩
  exact tX_mono (key h) fun x H1 ⟨c, e, c', e', q⟩ => ⟨c, e, by cases e'; exact q⟩
theorem sd_ite {c a b : E} {pc pa pb : Expr} {pos : Pos} (hc : Sd C X ew c pc) (tc : tokB pc = true) (ha : Sd C X ew a pa) (hb : Sd C X ew b pb) : Sd C X ew (.ite c a b) (.IfExp pc pa pb pos) := by
  have key : ∀ {σ : L2.St} {H : Hp} {Q : VK}, tX C X ew (.ite c a b) σ H Q → tX C X ew c σ H fun x H1 => ∃ k, x = .bl k ∧ if k = true then tX C X ew a σ H1 Q else tX C X ew b σ H1 Q := fun {σ H Q} ⟨F, ad, env, st, r, en, ok⟩ => by
    unfold evX at ok
    refine ⟨F, ad, env, st, r, en, ok.bindF fun x st1 F1 ad1 H1 v s1 r1 x1 ok1 => ?_⟩
    split at ok1
    · cases x1
      exact ⟨true, rfl, iteT ⟨F1, ad1, env, st1, r1, en.step s1, ok1⟩⟩
    · cases x1
      exact ⟨false, rfl, iteF ⟨F1, ad1, env, st1, r1, en.step s1, ok1⟩⟩
    · exact ok1.elim
  refine ⟨(pe_ifExp (hc.tst tc) ha.ex hb.ex).imp fun σ H Q h => key h, fun _ => (pt_ifx (hc.tst tc) (ha.tst rfl) (hb.tst rfl)).imp fun σ H Q h => ?_, fun q => by cases q⟩
  exact tX_mono (key h) fun x H1 ⟨k, e, q⟩ => ⟨k, e, q⟩
/-! lists of expressions -/
theorem sd_nil : PA X [] (tXs C X ew .nil) := pa_nil.imp fun σ H Q ⟨F, ad, env, st, r, en, ok⟩ => by
  unfold evXs at ok
  exact ok F ad H [] (Step.refl _ _ _) r .nil
theorem sd_cons {e : E} {es : Es} {p : Expr} {ps : List Expr} (h : Sd C X ew e p) (hs : PA X ps (tXs C X ew es)) (hst : starB p = false) : PA X (p :: ps) (tXs C X ew (.cons e es)) :=
  (pa_cons h.ex hs (star_each hst)).imp fun σ H Q ⟨F, ad, env, st, r, en, ok⟩ => by
    unfold evXs at ok
    refine ⟨F, ad, env, st, r, en, ok.bindF fun x st1 F1 ad1 H1 v s1 r1 x1 ok1 => ?_⟩
    refine ⟨F1, ad1, env, st1, r1, en.step s1, ok1.bindL fun xs st2 F2 ad2 H2 vs s2 r2 xs2 ok2 => ?_⟩
    exact ok2 F2 ad2 H2 _ (Step.refl _ _ _) r2 (.cons (x1.step s2) xs2)
theorem sd_tup {es : Es} {ps : List Expr} {x1} {pos : Pos} (hs : PA X ps (tXs C X ew es)) : Sd C X ew (.tup es) (.Tuple ps x1 pos) := by
  refine Sd.plain ((pe_tup hs).imp fun σ H Q ⟨F, ad, env, st, r, en, ok⟩ => ?_) rfl
  unfold evX at ok
  refine ⟨F, ad, env, st, r, en, ok.bindL fun xs st2 F2 ad2 H2 vs s2 r2 xs2 ok2 => ?_⟩
  obtain ⟨hl, ok2⟩ := ite_ok (X := X) ok2
  exact ⟨by rw [xs2.length]; exact hl, fun p hp => ok2.tuple r2 xs2 hp⟩
theorem sd_list {es : Es} {ps : List Expr} {pos : Pos} (hs : PA X ps (tXs C X ew es)) : Sd C X ew (.list es) (.List ps pos) := by
  refine Sd.plain ((pe_lst hs).imp fun σ H Q ⟨F, ad, env, st, r, en, ok⟩ => ?_) rfl
  unfold evX at ok
  refine ⟨F, ad, env, st, r, en, ok.bindL fun xs st2 F2 ad2 H2 vs s2 r2 xs2 ok2 => ?_⟩
  obtain ⟨hl, ok2⟩ := ite_ok (X := X) ok2
  exact ⟨by rw [xs2.length]; exact hl, fun p hp => ok2.list r2 xs2 hp⟩
theorem sd_ix {a b : E} {pa pb : Expr} {pos : Pos} (ha : Sd C X ew a pa) (hb : Sd C X ew b pb) (hi : plainIxB pb = true) : Sd C X ew (.ix a b) (.Subscript pa pb pos) := by
  refine Sd.plain ((pe_ix ix_D ha.ex hb.ex (plain_ix hi)).imp fun σ H Q ⟨F, ad, env, st, r, en, ok⟩ => ?_) rfl
  unfold evX at ok
  refine ⟨F, ad, env, st, r, en, ok.bindF fun x st1 F1 ad1 H1 v s1 r1 x1 ok1 => ?_⟩
  refine ⟨F1, ad1, env, st1, r1, en.step s1, ok1.bindF fun y st2 F2 ad2 H2 w s2 r2 y2 ok2 => ?_⟩
  split at ok2
  · rename_i d e
    exact ⟨F2, ad2, st2, x.d, y.d, d, r2, x1.step s2, y2, e, fun v hv => ok2.val r2 hv⟩
  · exact ok2.elim
/-- a slice's part -/
theorem po_of {e : E} {po : Option Expr} (h : match po with
    | none => isNoneLit e = true
    | some p => isNoneLit e = false ∧ Sd C X ew e p) : PO X po (fun σ H R => tX C X ew e σ H fun x H1 => if isNoneLit e = true then R none H1 else ∃ i, x = .int i ∧ R (some i) H1) := by
  cases po with
  | none =>
    refine ⟨fun pins s σ H R I q => ?_⟩
    refine po_none.run pins s σ H R I ?_
    have h : isNoneLit e = true := h
    obtain ⟨F, ad, env, st, r, en, ok⟩ := q
    unfold isNoneLit at h
    split at h
    · unfold evX at ok
      have z := ok.val r .none
      exact z
    · cases h
  | some p =>
    obtain ⟨h1, h2⟩ := h
    refine ⟨fun pins s σ H R I q => ?_⟩
    refine (po_some h2.ex).run pins s σ H R I ?_
    refine tX_mono q fun x H1 z => ?_
    rw [h1] at z
    exact z
theorem sd_sl {a lo hi : E} {pa : Expr} {plo phi : Option Expr} {p2 pos : Pos} (ha : Sd C X ew a pa) (hl : match plo with
    | none => isNoneLit lo = true
    | some p => isNoneLit lo = false ∧ Sd C X ew lo p) (hh : match phi with
    | none => isNoneLit hi = true
    | some p => isNoneLit hi = false ∧ Sd C X ew hi p) : Sd C X ew (.sl a lo hi) (.Subscript pa (.Slice plo phi none p2) pos) := by
  refine Sd.plain ((pe_slice (r := fun x l u H Q => rSlD X.K C.cls (fun _ _ _ => True) x l u H Q ∨ ∃ σ, rSlD X.K C.cls (ew σ) x l u H Q) (SlR.or sl_D fun pins s σ H x v vl vu l u sl Q I rx hs pl pu ⟨σ', q⟩ => sl_D (cls := C.cls) (ew := ew σ') pins s σ H x v vl vu l u sl Q I rx hs pl pu q) ha.ex (po_of hl) (po_of hh)).imp fun σ H Q ⟨F, ad, env, st, r, en, ok⟩ => ?_) rfl
  unfold evX at ok
  refine ⟨F, ad, env, st, r, en, ok.bindF fun x st1 F1 ad1 H1 v s1 r1 x1 ok1 => ?_⟩
  refine ⟨F1, ad1, env, st1, r1, en.step s1, ok1.bindF fun y st2 F2 ad2 H2 w s2 r2 y2 ok2 => ?_⟩
  have main : ∀ l, partOf lo y.d = some l → tX C X ew hi σ H2 fun x' H3 => if isNoneLit hi = true then (rSlD X.K C.cls (fun _ _ _ => True) v l none H3 Q ∨ ∃ σ, rSlD X.K C.cls (ew σ) v l none H3 Q) else ∃ i, x' = .int i ∧ (rSlD X.K C.cls (fun _ _ _ => True) v l (some i) H3 Q ∨ ∃ σ, rSlD X.K C.cls (ew σ) v l (some i) H3 Q) := fun l el => by
    rw [el] at ok2
    refine ⟨F2, ad2, env, st2, r2, (en.step s1).step s2, ok2.bindF fun z st3 F3 ad3 H3 u s3 r3 z3 ok3 => ?_⟩
    unfold partOf at ok3
    by_cases hn : isNoneLit hi = true
    · rw [if_pos hn] at ok3 ⊢
      exact .inr ⟨σ, F3, ad3, st3, x.d, r3, (x1.step s2).step s3, ok3⟩
    · rw [if_neg hn] at ok3 ⊢
      generalize hz : z.d = zd at *
      cases z3 with
      | int i => exact ⟨i, rfl, .inr ⟨σ, F3, ad3, st3, x.d, r3, (x1.step s2).step s3, ok3⟩⟩
      | _ => exact ok3.elim
  have main2 := main
  unfold partOf at main2
  by_cases hn : isNoneLit lo = true
  · rw [if_pos hn]
    exact main2 none (by rw [if_pos hn])
  · rw [if_neg hn]
    have ok2' := ok2
    unfold partOf at ok2'
    rw [if_neg hn] at ok2'
    generalize hy : y.d = yd at *
    cases y2 with
    | int i => exact ⟨i, rfl, main2 (some i) (by rw [if_neg hn])⟩
    | _ => exact ok2'.elim
end
end MP

/-! Calls of the defs, of built-in functions, of lists' methods. -/
namespace MP
open PySem PySem.Spec PyProof.Rows L2

def nostar : List Expr → Bool
  | [] => true
  | e :: es => !starB e && nostar es
theorem back_any {pos : Pos} {env : PySem.Env} : ∀ {es : List Expr}, nostar es = true → (backTo pos (starEach es env)).any (·.1) = false
  | [], _ => rfl
  | e :: es, h => by
    unfold nostar at h
    simp only [Bool.and_eq_true, Bool.not_eq_true'] at h
    rw [star_each h.1]
    show (false || (backTo pos (starEach es env)).any (·.1)) = false
    rw [back_any h.2]; rfl
theorem back_all {pos : Pos} {env : PySem.Env} : ∀ {es : List Expr}, nostar es = true → (backTo pos (starEach es env)).all (fun x => !x.1) = true
  | [], _ => rfl
  | e :: es, h => by
    unfold nostar at h
    simp only [Bool.and_eq_true, Bool.not_eq_true'] at h
    rw [star_each h.1]
    show (true && (backTo pos (starEach es env)).all (fun x => !x.1)) = true
    rw [back_all h.2]; rfl
section
variable {C : Con} {N : List Str} {X : Cx} {sc : Scope} {ow : Str → Bool} {ew : L2.St → XK}
theorem pe_callS0 {CX : CXT} {k : Nat} {f : Addr} {fd : FuncData} {ps : List Str} {sp : Sp} {E : L2.St → XK} {x : Str} {p pos : Pos} (F : FnOk X.prog X.w X.K X.mg X.base CX k f fd ps sp) (hr : Room k X.A) (hg : Gl X x) (hm : X.mg x = some (.ref f)) (hk : PySem.W.keepIn X.K (.ref f) = true) (hb : Binds X.K fd ps []) (hx : ∀ σ, PassesAt CX X σ (E σ))
    (hdb : (x == ("__debug__" : Str)) = false) : PE X (.Call (.Name x p) [] [] pos) (tCallS sp E tNil) := by
  refine ⟨fun pins s σ H Q I h => ?_⟩
  refine wpAny_Call_Name_kw (ld_glob I hg hm ?_ hdb)
  exact PySem.W.callWith_K0 I.kIn hk (run_fnS (us := []) F hr hb (hx σ) I .nil h)
theorem sd_callG {e : E} {f : Nat} {d : Def} {es : Es} {x : Str} {p pos : Pos} {ps : List Expr} (g : Good C N X sc ow ew) (hT : C.T f = some d) (hn : d.name = x) (ho : okN x = true) (hs : glB sc x = true) (ha : PA X ps (tXs C X ew es)) (ns : nostar ps = true) (hz : ps = [] → es = .nil)
    (key : ∀ σ H Q, tX C X ew e σ H Q → tXs C X ew es σ H fun vs H1 => spF C X.K C.k f vs H1 Q (ew σ)) : Sd C X ew e (.Call (.Name x p) ps [] pos) := by
  obtain ⟨a, fd, F, hm, hk, hb⟩ := g.facts.fns f d hT
  rw [hn] at hm
  refine Sd.plain ?_ rfl
  cases ps with
  | nil =>
    refine (pe_callS0 F g.room (gl_of g.sc hs) hm hk hb g.pass (ok1 ho).1).imp fun σ H Q q => ?_
    have q1 := key σ H Q q
    rw [hz rfl] at q1
    obtain ⟨F, ad, env, st, r, en, ok⟩ := q1
    unfold evXs at ok
    exact ok F ad H [] (Step.refl _ _ _) r .nil
  | cons p0 ps =>
    unfold nostar at ns
    simp only [Bool.and_eq_true, Bool.not_eq_true'] at ns
    exact (pe_callS F g.room (gl_of g.sc hs) hm hk hb g.pass ha (ok1 ho).1 (star_each ns.1) (back_any ns.2)).imp fun σ H Q q => key σ H Q q
theorem key_call {f : Nat} {es : Es} {σ : L2.St} {H : Hp} {Q : VK} (h : tX C X ew (.call f es) σ H Q) : tXs C X ew es σ H fun vs H1 => spF C X.K C.k f vs H1 Q (ew σ) := by
  obtain ⟨F, ad, env, st, r, en, ok⟩ := h
  unfold evX at ok
  refine ⟨F, ad, env, st, r, en, ok.bindL fun xs st2 F2 ad2 H2 vs s2 r2 xs2 ok2 => ?_⟩
  obtain ⟨F1, ts, h1, h2, h3⟩ := callP_ok ok2 r2 xs2
  exact ⟨F1, [], [], ts, h1, h2, h3⟩
theorem key_callC {f : Nat} {es : Es} {σ : L2.St} {H : Hp} {Q : VK} (h : tX C X ew (.callC f es) σ H Q) : tXs C X ew es σ H fun vs H1 => spF C X.K C.k f vs H1 Q (ew σ) := by
  obtain ⟨F, ad, env, st, r, en, ok⟩ := h
  unfold evX at ok
  refine ⟨F, ad, env, st, r, en, ok.bindL fun xs st2 F2 ad2 H2 vs s2 r2 xs2 ok2 => ?_⟩
  obtain ⟨F1, ts, h1, h2, h3⟩ := callC_ok ok2 r2 xs2
  exact ⟨F1, [], [], ts, h1, h2, h3⟩
theorem key_callS {f : Nat} {es : Es} {σ : L2.St} {H : Hp} {Q : VK} (h : tX C X ew (.callS f es) σ H Q) : tXs C X ew es σ H fun vs H1 => spF C X.K C.k f vs H1 Q (ew σ) := by
  obtain ⟨F, ad, env, st, r, en, ok⟩ := h
  unfold evX at ok
  refine ⟨F, ad, env, st, r, en, ok.bindL fun xs st2 F2 ad2 H2 vs s2 r2 xs2 ok2 => ?_⟩
  exact ⟨F2, ad2, st2, xs, r2, xs2, callS_ok ok2⟩
/-! the keys of a dict whose keys are tuples -/
theorem reps_keys {F : Hp} {ad : List Addr} : ∀ k : List L2.Key, Reps X.K F ad (k.map kV) (k.map keyD)
  | [] => .nil
  | .inl i :: r => .cons (.int i) (reps_keys r)
  | .inr x :: r => .cons (.str x) (reps_keys r)
theorem keys_reps {F : Hp} {ad : List Addr} : ∀ {vs : List V} {es : List D} {k : List L2.Key}, Reps X.K F ad vs es → keysOf es = some k → vs = k.map kV
  | _, _, _, .nil, h => by cases h; rfl
  | _, _, _, .cons (vs := vs) (ds := ds) hv r, h => by
    cases hv with
    | int i =>
      cases e : keysOf ds with
      | none => unfold keysOf at h; rw [e] at h; cases h
      | some k' =>
        unfold keysOf at h; rw [e] at h; cases h
        rw [keys_reps r e]; rfl
    | str x =>
      cases e : keysOf ds with
      | none => unfold keysOf at h; rw [e] at h; cases h
      | some k' =>
        unfold keysOf at h; rw [e] at h; cases h
        rw [keys_reps r e]; rfl
    | _ => unfold keysOf at h; cases h
theorem cr_dkeysD {cls : Str → Option Addr} {ew : XK} (hc : X.calm = true) : CallR X (.type "list") (rBi X.K cls ew (biV .dkeys)) := by
  intro pins s σ H vs us Q I rv ⟨F, ad, st, ds, r, hr, ok⟩
  obtain ⟨v, d, rfl, hx, ok⟩ := one_ok ok hr
  unfold dkeysV at ok
  split at ok
  · rename_i n
    split at ok
    · rename_i ks xs e
      cases hx with
      | ref ha =>
      rename_i a
      obtain ⟨ws, h1, h2, h3⟩ := r.cell _ _ _ e ha
      refine call_list_dT hc pins s σ H _ us Q I rv ⟨a, ks.zip ws, rfl, .inl h1, fun p bs hp hk => ?_⟩
      have hb : ∀ b ∈ bs, ∃ k : List L2.Key, H b = some (.tup (k.map kV)) := by
        intro b hb
        have go : ∀ {l : List (List L2.Key × V)} {bs : List Addr}, IsKeys H l bs → b ∈ bs → ∃ k : List L2.Key, H b = some (.tup (k.map kV)) := by
          intro l bs h
          induction h with
          | nil => intro z; cases z
          | cons h t ih =>
            intro z
            rcases List.mem_cons.mp z with rfl | z
            · exact ⟨_, h⟩
            · exact ih z
        exact go hk hb
      obtain ⟨F', hF'⟩ : ∃ F' : Hp, F' = fun a => match F a with
        | some o => some o
        | none => if a ∈ bs then H a else none := ⟨_, rfl⟩
      have old : ∀ b o, F b = some o → F' b = some o := fun b o h => by rw [hF']; dsimp only; rw [h]
      have new : ∀ b, F b = none → b ∈ bs → F' b = H b := fun b h hb => by rw [hF']; dsimp only; rw [h]; dsimp only; rw [if_pos hb]
      have out : ∀ b, F b = none → b ∉ bs → F' b = none := fun b h hb => by rw [hF']; dsimp only; rw [h]; dsimp only; rw [if_neg hb]
      have s1 : Step F ad H F' ad H := ⟨old, ⟨[], by simp⟩, fun b n1 n2 => by
        by_cases hm : b ∈ bs
        · obtain ⟨k, e⟩ := hb b hm
          exact .inr (.inr ⟨_, e⟩)
        · exact absurd (out b n1 hm) n2, fun b h1 h2 => absurd h1 h2, fun _ _ _ h => h, fun _ h => h⟩
      have sub1 : ∀ b o, F' b = some o → H b = some o := fun b o h => by
        cases e1 : F b with
        | some o' =>
          rw [old b o' e1] at h; cases h; exact r.sub b o e1
        | none =>
          by_cases hm : b ∈ bs
          · rw [new b e1 hm] at h; exact h
          · rw [out b e1 hm] at h; cases h
      have r1 : RelS X.K F' ad st H := ⟨sub1, r.nd, fun m b hm hd => by
        by_cases hmem : b ∈ bs
        · obtain ⟨k, e⟩ := hb b hmem
          exact (not_tup r hm e).elim
        · exact out b (r.out m b hm hd) hmem, r.len, r.live, fun m c b h1 h2 => (r.cell m c b h1 h2).up old (fun _ _ h => h) fun _ h => h⟩
      have q : Reps X.K F' ad (bs.map V.ref) (ks.map fun k => .tup (k.map keyD)) := by
        have go : ∀ {ks : List (List L2.Key)} {ws : List V} {cs : List Addr}, ks.length = ws.length → IsKeys H (ks.zip ws) cs → (∀ b ∈ cs, b ∈ bs) → Reps X.K F' ad (cs.map V.ref) (ks.map fun k => .tup (k.map keyD)) := by
          intro ks
          induction ks with
          | nil =>
            intro ws cs hl h _
            rw [List.zip_nil_left] at h
            cases h
            exact .nil
          | cons k ks ih =>
            intro ws cs hl h hm
            cases ws with
            | nil => cases hl
            | cons w ws =>
              rw [List.zip_cons_cons] at h
              cases h with
              | cons h t =>
              rename_i b cs
              have e : H b = some (.tup (k.map kV)) := h
              refine .cons (.tup (tkNew ?_) (reps_keys k)) (ih (by simpa using hl) t fun b hb => hm b (List.mem_cons_of_mem _ hb))
              cases e1 : F b with
              | some o =>
                have e2 := r.sub b o e1
                rw [e] at e2; cases e2
                exact old b _ e1
              | none => rw [new b e1 (hm b List.mem_cons_self)]; exact e
        exact go h2 hk fun _ h => h
      exact (OkV.step s1 ok).list r1 q hp
    · exact ok.elim
  · exact ok.elim
/-! built-in functions -/
theorem bi_call {f : BI} {x : Str} (hc : X.calm = true) (hu : X.A.units + 65 < cLine) (h : chkBI f x = true) : x ∈ bnames ∧ x ≠ "__name__" ∧ (x == ("__debug__" : Str)) = false ∧
    ((∃ id, bootBuiltins x = some (.builtin id) ∧ ∀ cls ew, CallR X (.builtin id) (rBi X.K cls ew (biV f))) ∨ ∃ T, bootBuiltins x = some (.type T) ∧ ∀ cls ew, CallR X (.type T) (rBi X.K cls ew (biV f))) := by
  cases f with
  | len => have e : x = "len" := beq_iff_eq.mp h; subst e; exact ⟨by decide, by decide, by decide, .inl ⟨_, by decide +kernel, fun cls ew => cr_lenD⟩⟩
  | listOf => have e : x = "list" := beq_iff_eq.mp h; subst e; exact ⟨by decide, by decide, by decide, .inr ⟨_, boot_list, fun cls ew => cr_listD hc⟩⟩
  | dkeys => have e : x = "list" := beq_iff_eq.mp h; subst e; exact ⟨by decide, by decide, by decide, .inr ⟨_, boot_list, fun cls ew => cr_dkeysD hc⟩⟩
  | tupleOf => have e : x = "tuple" := beq_iff_eq.mp h; subst e; exact ⟨by decide, by decide, by decide, .inr ⟨_, boot_tuple, fun cls ew => cr_tupleD⟩⟩
  | sorted => have e : x = "sorted" := beq_iff_eq.mp h; subst e; exact ⟨by decide, by decide, by decide, .inl ⟨_, boot_sorted, fun cls ew => cr_sortedD⟩⟩
  | sortedX => have e : x = "sorted" := beq_iff_eq.mp h; subst e; exact ⟨by decide, by decide, by decide, .inl ⟨_, boot_sorted, fun cls ew => cr_sortedXD⟩⟩
  | sortedR => have e : x = "sorted" := beq_iff_eq.mp h; subst e; exact ⟨by decide, by decide, by decide, .inl ⟨_, boot_sorted, fun cls ew => cr_sortedRD hc hu⟩⟩
  | sum => have e : x = "sum" := beq_iff_eq.mp h; subst e; exact ⟨by decide, by decide, by decide, .inl ⟨_, boot_sum, fun cls ew => cr_sumD hc⟩⟩
  | any => have e : x = "any" := beq_iff_eq.mp h; subst e; exact ⟨by decide, by decide, by decide, .inl ⟨_, boot_any, fun cls ew => cr_anyD hc⟩⟩
  | all => have e : x = "all" := beq_iff_eq.mp h; subst e; exact ⟨by decide, by decide, by decide, .inl ⟨_, boot_all, fun cls ew => cr_allD hc⟩⟩
  | max2 => have e : x = "max" := beq_iff_eq.mp h; subst e; exact ⟨by decide, by decide, by decide, .inl ⟨_, boot_max, fun cls ew => cr_max2D hc⟩⟩
  | maxL => have e : x = "max" := beq_iff_eq.mp h; subst e; exact ⟨by decide, by decide, by decide, .inl ⟨_, boot_max, fun cls ew => cr_maxLD hc⟩⟩
  | minL => have e : x = "min" := beq_iff_eq.mp h; subst e; exact ⟨by decide, by decide, by decide, .inl ⟨_, boot_min, fun cls ew => cr_minLD hc⟩⟩
  | minT => have e : x = "min" := beq_iff_eq.mp h; subst e; exact ⟨by decide, by decide, by decide, .inl ⟨_, boot_min, fun cls ew => cr_minTD hc hu⟩⟩
  | toStr => have e : x = "str" := beq_iff_eq.mp h; subst e; exact ⟨by decide, by decide, by decide, .inr ⟨_, boot_str, fun cls ew => cr_toStrD⟩⟩
  | toInt => have e : x = "int" := beq_iff_eq.mp h; subst e; exact ⟨by decide, by decide, by decide, .inr ⟨_, boot_int, fun cls ew => cr_toIntD⟩⟩
  | _ => cases h
theorem key_bi {f : BI} {es : Es} {σ : L2.St} {H : Hp} {Q : VK} (h : tX C X ew (.bi f es) σ H Q) : tXs C X ew es σ H fun vs H1 => ∃ σ', rBi X.K C.cls (ew σ') (biV f) vs H1 Q := by
  obtain ⟨F, ad, env, st, r, en, ok⟩ := h
  unfold evX at ok
  refine ⟨F, ad, env, st, r, en, ok.bindL fun xs st2 F2 ad2 H2 vs s2 r2 xs2 ok2 => ?_⟩
  exact ⟨σ, F2, ad2, st2, xs, r2, xs2, ok2⟩
theorem sd_bi {f : BI} {es : Es} {x : Str} {p pos : Pos} {p0 : Expr} {ps : List Expr} (g : Good C N X sc ow ew) (hf : chkBI f x = true) (hs : glB sc x = true) (ha : PA X (p0 :: ps) (tXs C X ew es)) (ns : nostar (p0 :: ps) = true) : Sd C X ew (.bi f es) (.Call (.Name x p) (p0 :: ps) [] pos) := by
  unfold nostar at ns
  simp only [Bool.and_eq_true, Bool.not_eq_true'] at ns
  obtain ⟨h1, h2, h3, h4⟩ := bi_call g.calm (units_ok g) hf
  refine Sd.plain ?_ rfl
  rcases h4 with ⟨id, hb, hc⟩ | ⟨T, hb, hc⟩
  · exact (pe_callB (r := fun vs H Q => ∃ σ', rBi X.K C.cls (ew σ') (biV f) vs H Q) (fun pins s σ H xs us Q I rv ⟨σ', q⟩ => hc _ _ pins s σ H xs us Q I rv q) (gl_of g.sc hs) (g.facts.blt x h1) hb ha h2 h3 (star_each ns.1) (back_any ns.2)).imp fun σ H Q q => key_bi q
  · exact (pe_callTy (r := fun vs H Q => ∃ σ', rBi X.K C.cls (ew σ') (biV f) vs H Q) (fun pins s σ H xs us Q I rv ⟨σ', q⟩ => hc _ _ pins s σ H xs us Q I rv q) (gl_of g.sc hs) (g.facts.blt x h1) hb ha h2 h3 (star_each ns.1) (back_any ns.2)).imp fun σ H Q q => key_bi q
theorem chkTy_of {T : String} {y : Str} (h : chkTy T y = true) : (T = "bool" ∨ T = "int" ∨ T = "str" ∨ T = "list" ∨ T = "tuple") ∧ bootBuiltins y = some (.type T) ∧ y ∈ bnames ∧ y ≠ "__name__" ∧ (y == ("__debug__" : Str)) = false := by
  unfold chkTy at h
  simp only [Bool.or_eq_true, Bool.and_eq_true, beq_iff_eq] at h
  rcases h with (((⟨rfl, rfl⟩ | ⟨rfl, rfl⟩) | ⟨rfl, rfl⟩) | ⟨rfl, rfl⟩) | ⟨rfl, rfl⟩
  · exact ⟨by decide, boot_bool, by decide, by decide, by decide⟩
  · exact ⟨by decide, boot_int, by decide, by decide, by decide⟩
  · exact ⟨by decide, boot_str, by decide, by decide, by decide⟩
  · exact ⟨by decide, boot_list, by decide, by decide, by decide⟩
  · exact ⟨by decide, boot_tuple, by decide, by decide, by decide⟩
theorem one_Reps {K : PySem.W.Frag} {cls : Str → Option Addr} {ew : XK} {F : Hp} {ad : List Addr} {H : Hp} {vs : List V} {ds : List D} {f : D → R Val} {Q : VK} (h : Reps K F ad vs ds) (ok : OkV K cls ew F ad H (one ds f) Q) : ∃ v, vs = [v] := by
  cases h with
  | nil => exact ok.elim
  | cons h t =>
    cases t with
    | nil => exact ⟨_, rfl⟩
    | cons _ _ => exact ok.elim
theorem sd_isi {T : String} {e : E} {y : Str} {p q pos : Pos} {pa : Expr} (g : Good C N X sc ow ew) (hT : chkTy T y = true) (hs : glB sc "isinstance" = true) (hy : glB sc y = true) (ha : Sd C X ew e pa) (ns : starB pa = false) : Sd C X ew (.bi (.isinst T) (.cons e .nil)) (.Call (.Name "isinstance" p) [pa, .Name y q] [] pos) := by
  obtain ⟨h1, h2, h3, h4, h5⟩ := chkTy_of hT
  refine Sd.plain ?_ rfl
  have hp : PE X (.Name y q) (tC (.ty T)) := pe_bltn (gl_of g.sc hy) (g.facts.blt y h3) h2 (v := .ty T) rfl h4 h5
  have ha2 : PA X [pa, .Name y q] (tCons (tX C X ew e) (tCons (tC (.ty T)) tNil)) := pa_cons ha.ex (pa_cons hp pa_nil) (star_each ns)
  refine (pe_callB (r := fun vs H Q => ∃ σ', rIsiD X.K C.cls (ew σ') T vs H Q) (fun pins s σ H xs us Q I rv ⟨σ', q⟩ => cr_isiD T h1 pins s σ H xs us Q I rv q) (gl_of g.sc hs) (g.facts.blt "isinstance" (by decide)) boot_isinstance ha2 (by decide) (by decide) (star_each ns) (by rfl)).imp fun σ H Q h => ?_
  obtain ⟨F, ad, env, st, r, en, ok⟩ := h
  unfold evX evXs evXs at ok
  show tX C X ew e σ H fun x H1 => ∃ σ', rIsiD X.K C.cls (ew σ') T [x, .ty T] H1 Q
  refine ⟨F, ad, env, st, r, en, ?_⟩
  cases q : evX (run C.T C.k) e env st with
  | stuck => rw [q] at ok; exact ok
  | err c st' => rw [q] at ok; exact ok
  | ok x st' =>
    rw [q] at ok
    intro F' ad' H' v s r' xr
    obtain ⟨F'', s', r'', xr'⟩ := freezeX s r' xr
    exact ⟨σ, v, rfl, F'', ad', st', [x.d], r'', .cons xr' .nil, OkV.step s' ok⟩
theorem sd_isE {g0 : Str} {e : E} {x y : Str} {p q pos : Pos} {pa : Expr} (g : Mild C N X sc) (hx : x = "isinstance") (hs : glB sc x = true) (hy : glB sc y = true) (hn : okN y = true) (hy0 : y = g0) (hh : isExG (C.G "HallError") = true) (hg : (g0 == "ValueError" || isExG (C.G g0)) = true) (ha : Sd C X ew e pa) (ns : starB pa = false) : Sd C X ew (.bi (.isE g0) (.cons e .nil)) (.Call (.Name x p) [pa, .Name y q] [] pos) := by
  subst hy0 hx
  have W := g.facts.exw hh
  have key : ∃ (c : V) (cv : Value), PE X (.Name y q) (tC c) ∧ (∀ u, RelV c u → u = cv) ∧ ∀ c0 a, kn c0 = true → excA X.K c0 = some a → PySem.W.kitOne X.K (.ref a) cv = some (isSub c0 y) := by
    by_cases q1 : isExG (C.G y) = true
    · obtain ⟨b, h1, h2⟩ := W.one y q1
      exact ⟨.ref b, .ref b, pe_glob (gl_of g.sc hy) h1 rfl (ok1 hn).1, fun u h => h, h2⟩
    · have e1 : y = "ValueError" := by
        rw [Bool.eq_false_iff.mpr q1, Bool.or_false] at hg
        exact beq_iff_eq.mp hg
      subst e1
      refine ⟨.ty "ValueError", .type "ValueError", pe_bltn (gl_of g.sc hy) W.nv (by decide) (v := .ty "ValueError") rfl (by decide +kernel) (by decide), fun u h => h, fun c0 a k e => ?_⟩
      rw [W.ve c0 a k e]
      rfl
  obtain ⟨c, cv, hp, hc, hk⟩ := key
  refine Sd.plain ?_ rfl
  have ha2 : PA X [pa, .Name y q] (tCons (tX C X ew e) (tCons (tC c) tNil)) := pa_cons ha.ex (pa_cons hp pa_nil) (star_each ns)
  refine (pe_callB cr_isF (gl_of g.sc hs) (g.facts.blt "isinstance" (by decide)) boot_isinstance ha2 (by decide) (by decide) (star_each ns) (by rfl)).imp fun σ H Q h => ?_
  obtain ⟨F, ad, env, st, r, en, ok⟩ := h
  unfold evX evXs evXs at ok
  show tX C X ew e σ H fun x H1 => rIsF X.K [x, c] H1 Q
  refine ⟨F, ad, env, st, r, en, ?_⟩
  cases q : evX (run C.T C.k) e env st with
  | stuck => rw [q] at ok; exact ok
  | err c st' => rw [q] at ok; exact ok
  | ok x st' =>
    rw [q] at ok
    intro F' ad' H' v s r' xr
    obtain ⟨F'', s', r'', xr'⟩ := freezeX s r' xr
    have ok2 : OkV X.K C.cls (ew σ) F'' ad' H' (isEV y x.d st') Q := OkV.step s' ok
    generalize x.d = d at *
    unfold isEV at ok2
    split at ok2
    · rename_i c0
      cases xr' with
      | exc hF ho =>
        obtain ⟨k, ⟨D, e1, e2⟩, e3, e4⟩ := ho
        exact ⟨_, D, _, c, cv, _, rfl, r''.sub _ _ hF, e2, e3, e4, W.ex _ _ k e1, hc, hk _ _ k e1, ok2.val r'' (.bool _)⟩
    · exact ok2.elim
/-- repr(x) -/
theorem sd_repr {es : Es} {p pos : Pos} {pa : Expr} (g : Good C N X sc ow ew) (hr : isRp (C.G "repr") = true) (hs : glB sc "repr" = true) (ha1 : PA X [pa] (tXs C X ew es)) (ns : starB pa = false) : Sd C X ew (.bi .reprOf es) (.Call (.Name "repr" p) [pa] [] pos) := by
  refine Sd.plain ?_ rfl
  exact (pe_callB (r := fun vs H Q => ∃ σ', rBi X.K C.cls (ew σ') (biV .reprOf) vs H Q) (fun pins s σ H xs us Q I rv ⟨σ', q⟩ => cr_reprD (g.gd hr) (units_ok g) pins s σ H xs us Q I rv q) (gl_of g.sc hs) (g.facts.blt "repr" (by decide)) (by decide +kernel) ha1 (by decide) (by decide) (star_each ns) (by rfl)).imp fun σ H Q q => key_bi q
/-- list(range(n)) -/
theorem sd_lrange {e : E} {p q pos pos2 : Pos} {pa : Expr} (g : Good C N X sc ow ew) (hs : glB sc "list" = true) (hy : glB sc "range" = true) (ha : Sd C X ew e pa) (ns : starB pa = false) : Sd C X ew (.bi .range1 (.cons e .nil)) (.Call (.Name "list" p) [.Call (.Name "range" q) [pa] [] pos2] [] pos) := by
  refine Sd.plain ?_ rfl
  have ha1 : PA X [pa] (tCons (tX C X ew e) tNil) := pa_cons ha.ex pa_nil (star_each ns)
  have hr := pe_callTy (pos := pos2) (p := q) cr_range1 (gl_of g.sc hy) (g.facts.blt "range" (by decide)) boot_range ha1 (by decide) (by decide) (star_each ns) (by rfl)
  have ha2 := pa_cons hr pa_nil
  refine (pe_callTy (cr_listR g.calm) (gl_of g.sc hs) (g.facts.blt "list" (by decide)) boot_list ha2 (by decide) (by decide)).imp fun σ H Q h => ?_
  obtain ⟨F, ad, env, st, r, en, ok⟩ := h
  unfold evX evXs evXs at ok
  show tX C X ew e σ H fun x H1 => ∃ i, [x] = [V.int i] ∧ ∀ p, H1 p = none → ∃ p', ∃ lo hi, [V.ref p] = [V.ref p'] ∧ (upd H1 p (.rng 0 i)) p' = some (.rng lo hi) ∧ _ ∧ ∀ q, (upd H1 p (.rng 0 i)) q = none → Q (.ref q) (upd (upd H1 p (.rng 0 i)) q (.lst ((rangeI lo (hi - lo).toNat).map V.int)))
  refine ⟨F, ad, env, st, r, en, ?_⟩
  cases q : evX (run C.T C.k) e env st with
  | stuck => rw [q] at ok; exact ok
  | err c st' => rw [q] at ok; exact ok
  | ok x st' =>
    rw [q] at ok
    intro F' ad' H' v s r' xr
    obtain ⟨F'', s', r'', xr'⟩ := freezeX s r' xr
    have ok2 : OkV X.K C.cls (ew σ) F'' ad' H' (range1V x.d st') Q := OkV.step s' ok
    generalize x.d = d at *
    unfold range1V at ok2
    split at ok2
    · cases xr'
      rename_i n
      obtain ⟨⟨hz1, hz2⟩, ok2⟩ := ite_ok (X := X) ok2
      have hsz : sizeLine = 16777216 := sizeLine_eq
      refine ⟨n, rfl, fun p hp => ⟨p, 0, n, rfl, upd_same, ⟨by omega, by omega, by omega, by omega, by omega⟩, fun q hq => ?_⟩⟩
      rw [Int.sub_zero]
      have s2 : Step F'' ad' H' F'' ad' (upd H' p (.rng 0 n)) := Step.beside hp
      exact OkV.list (OkV.step s2 ok2) (r''.beside hp) (reps_ints _) hq
    · exact ok2.elim
/-- list(range(a, b)) -/
theorem bi2_evX {cf : CF} {f : BI} {a b : E} {env : MP.Env} {st : Sto} : evX cf (.bi f (.cons a (.cons b .nil))) env st = (evX cf a env st).bind fun x st => (evX cf b env st).bind fun y st => biV f [x.d, y.d] st := by
  have h0 : ∀ st, evXs cf .nil env st = .ok [] st := fun st => by unfold evXs <;> rfl
  have h1 : ∀ e es st, evXs cf (.cons e es) env st = (evX cf e env st).bind fun x st => (evXs cf es env st).bind fun xs st => .ok (x.d :: xs) st := fun e es st => by rw [evXs]
  rw [evX, h1]
  cases evX cf a env st with
  | stuck => rfl
  | err c st' => rfl
  | ok x st' =>
    show R.bind (R.bind (evXs cf (.cons b .nil) env st') _) _ = R.bind (evX cf b env st') _
    rw [h1]
    cases evX cf b env st' with
    | stuck => rfl
    | err c st' => rfl
    | ok y st' =>
      simp only [R.bind, h0]
theorem sd_lrange2 {e f : E} {p q pos pos2 : Pos} {pa pb : Expr} (g : Good C N X sc ow ew) (hs : glB sc "list" = true) (hy : glB sc "range" = true) (ha : Sd C X ew e pa) (hb : Sd C X ew f pb) (ns : starB pa = false) (ns2 : starB pb = false) : Sd C X ew (.bi .range2 (.cons e (.cons f .nil))) (.Call (.Name "list" p) [.Call (.Name "range" q) [pa, pb] [] pos2] [] pos) := by
  refine Sd.plain ?_ rfl
  have ha1 : PA X [pa, pb] (tCons (tX C X ew e) (tCons (tX C X ew f) tNil)) := pa_cons ha.ex (pa_cons hb.ex pa_nil (star_each ns2)) (star_each ns)
  have hr := pe_callTy (pos := pos2) (p := q) L2.cr_range2 (gl_of g.sc hy) (g.facts.blt "range" (by decide)) boot_range ha1 (by decide) (by decide) (by rw [star_each ns, star_each ns2]) (by rw [star_each ns2]; rfl)
  have ha2 := pa_cons hr pa_nil
  refine (pe_callTy (cr_listR g.calm) (gl_of g.sc hs) (g.facts.blt "list" (by decide)) boot_list ha2 (by decide) (by decide)).imp fun σ H Q h => ?_
  obtain ⟨F, ad, env, st, r, en, ok⟩ := h
  rw [bi2_evX] at ok
  show tX C X ew e σ H fun x H1 => tX C X ew f σ H1 fun y H2 => ∃ i j, [x, y] = [V.int i, V.int j] ∧ ∀ p, H2 p = none → ∃ p', ∃ lo hi, [V.ref p] = [V.ref p'] ∧ (upd H2 p (.rng i j)) p' = some (.rng lo hi) ∧ _ ∧ ∀ q, (upd H2 p (.rng i j)) q = none → Q (.ref q) (upd (upd H2 p (.rng i j)) q (.lst ((rangeI lo (hi - lo).toNat).map V.int)))
  refine ⟨F, ad, env, st, r, en, ok.bindF fun x st1 F1 ad1 H1 v s1 r1 x1 ok1 => ?_⟩
  refine ⟨F1, ad1, env, st1, r1, en.step s1, ok1.bindF fun y st2 F2 ad2 H2 w s2 r2 y2 ok2 => ?_⟩
  have x2 := x1.step s2
  replace ok2 : OkV X.K C.cls (ew σ) F2 ad2 H2 (intV x.d y.d fun a b => if (b - a) ≤ sizeLine ∧ -(2 ^ 62) ≤ a ∧ a < 2 ^ 62 ∧ -(2 ^ 62) ≤ b ∧ b < 2 ^ 62 then .ok (.new ((rangeI a (b - a).toNat).map D.int)) st2 else .stuck) Q := ok2
  generalize x.d = d at *
  generalize y.d = d' at *
  unfold intV at ok2
  clear ok1 x1
  split at ok2
  · rename_i i j
    cases x2
    cases y2
    obtain ⟨hz, ok2⟩ := ite_ok (X := X) ok2
    refine ⟨i, j, rfl, fun p hp => ⟨p, i, j, rfl, upd_same, hz, fun q hq => ?_⟩⟩
    have s3 : Step F2 ad2 H2 F2 ad2 (upd H2 p (.rng i j)) := Step.beside hp
    exact OkV.list (OkV.step s3 ok2) (r2.beside hp) (reps_ints _) hq
  · exact ok2.elim
/-! dicts of whole numbers -/
theorem look_val {κ : Type} [DecidableEq κ] {F : Hp} {ad : List Addr} {k : κ} : ∀ {ks : List κ} {vs : List V} {ds : List D}, ks.length = vs.length → Reps X.K F ad vs ds → (∀ d, lookK k ks ds = some d → ∃ v, valV (ks.zip vs) k = some v ∧ Rep X.K F ad v d) ∧ (lookK k ks ds).isSome = (valV (ks.zip vs) k).isSome
  | [], _, _, _, _ => ⟨fun d h => by simp [lookK] at h, by simp [lookK, valV]⟩
  | a :: ks, v :: vs, d :: ds, hl, .cons r rs => by
    obtain ⟨i1, i2⟩ := look_val (k := k) (by simpa using hl) rs
    have e : lookK k (a :: ks) (d :: ds) = if a = k then some d else lookK k ks ds := rfl
    rw [e, List.zip_cons_cons]
    by_cases q : a = k
    · rw [if_pos q, valV_pos q]
      exact ⟨fun d' h => by injection h with h; subst h; exact ⟨v, rfl, r⟩, rfl⟩
    · rw [if_neg q, valV_neg q]
      exact ⟨i1, i2⟩
theorem zip_setAt {κ : Type} [DecidableEq κ] {k : κ} {z : V} : ∀ {ks : List κ} {vs : List V}, (ks.zip vs).map (fun kv => if kv.1 = k then (kv.1, z) else kv) = ks.zip (setAt k z ks vs)
  | [], vs => by simp
  | a :: ks, [] => by simp [setAt]
  | a :: ks, v :: vs => by
    show _ = (a :: ks).zip ((if a = k then z else v) :: setAt k z ks vs)
    rw [List.zip_cons_cons, List.zip_cons_cons, List.map_cons, zip_setAt]
    congr 1
    dsimp only
    split <;> rfl
theorem setAt_len {α κ : Type} [DecidableEq κ] {k : κ} {z : α} : ∀ {ks : List κ} {vs : List α}, (setAt k z ks vs).length = vs.length
  | [], vs => by unfold setAt; rfl
  | a :: ks, [] => by unfold setAt; rfl
  | a :: ks, v :: vs => by
    show (_ :: setAt k z ks vs).length = _
    rw [List.length_cons, setAt_len]; rfl
theorem reps_setAt {κ : Type} [DecidableEq κ] {F : Hp} {ad : List Addr} {k : κ} {z : V} {d : D} (hz : Rep X.K F ad z d) : ∀ {ks : List κ} {vs : List V} {ds : List D}, Reps X.K F ad vs ds → Reps X.K F ad (setAt k z ks vs) (setAt k d ks ds)
  | [], _, _, r => by unfold setAt; exact r
  | a :: ks, [], [], .nil => by unfold setAt; exact .nil
  | a :: ks, v :: vs, d' :: ds, .cons r rs => by
    show Reps _ _ _ ((if a = k then z else v) :: setAt k z ks vs) ((if a = k then d else d') :: setAt k d ks ds)
    refine .cons ?_ (reps_setAt hz rs)
    by_cases q : a = k
    · rw [if_pos q, if_pos q]; exact hz
    · rw [if_neg q, if_neg q]; exact r
theorem zip_snoc {κ : Type} {k : κ} {z : V} {ks : List κ} {vs : List V} (hl : ks.length = vs.length) : (ks ++ [k]).zip (vs ++ [z]) = ks.zip vs ++ [(k, z)] := by
  rw [List.zip_append hl]; rfl
theorem sd_dget {a b : E} {pa pb : Expr} {pos : Pos} (g : Good C N X sc ow ew) (ha : Sd C X ew a pa) (hb : Sd C X ew b pb) (hi : plainIxB pb = true) : Sd C X ew (.bi .dget (.cons a (.cons b .nil))) (.Subscript pa pb pos) := by
  refine Sd.plain ((pe_dget (by have := units_ok g; omega) ha.ex hb.ex (plain_ix hi)).imp fun σ H Q ⟨F, ad, env, st, r, en, ok⟩ => ?_) rfl
  rw [bi2_evX] at ok
  refine ⟨F, ad, env, st, r, en, ok.bindF fun x st1 F1 ad1 H1 v s1 r1 x1 ok1 => ?_⟩
  refine ⟨F1, ad1, env, st1, r1, en.step s1, ok1.bindF fun y st2 F2 ad2 H2 w s2 r2 y2 ok2 => ?_⟩
  have x2 := x1.step s2
  replace ok2 : OkV X.K C.cls (ew σ) F2 ad2 H2 (dgetV x.d y.d st2) Q := ok2
  generalize x.d = d at *
  generalize y.d = d' at *
  unfold dgetV at ok2
  clear ok1 x1
  split at ok2
  · rename_i n k
    cases y2
    cases x2 with
    | ref hn =>
      rename_i p
      split at ok2
      · rename_i ks ds hc
        obtain ⟨vs, h1, h2, h3⟩ := r2.cell _ _ _ hc hn
        split at ok2
        · rename_i d0 q
          obtain ⟨v0, e1, e2⟩ := (look_val h2 h3).1 d0 q
          refine ⟨p, v0, rfl, ?_, ok2.val r2 e2⟩
          rw [← e1]
          exact DGet.k (k := Sum.inl k) h1
        · exact ok2.elim
      · exact ok2.elim
  · rename_i n k
    cases y2
    cases x2 with
    | ref hn =>
      rename_i p
      split at ok2
      · rename_i ks ds hc
        obtain ⟨vs, h1, h2, h3⟩ := r2.cell _ _ _ hc hn
        split at ok2
        · rename_i d0 q
          obtain ⟨v0, e1, e2⟩ := (look_val h2 h3).1 d0 q
          refine ⟨p, v0, rfl, ?_, ok2.val r2 e2⟩
          rw [← e1]
          exact DGet.k (k := Sum.inr k) h1
        · exact ok2.elim
      · exact ok2.elim
  · exact ok2.elim
theorem sd_dhas {neg : Bool} {a b : E} {pa pb : Expr} {pos : Pos} (g : Good C N X sc ow ew) (ha : Sd C X ew a pa) (hb : Sd C X ew b pb) (hm : behindInMarks (copOf (if neg then .notin else .isin)) pb = false) : Sd C X ew (.bi (.dhas neg) (.cons a (.cons b .nil))) (.Compare pa [copOf (if neg then .notin else .isin)] [pb] pos) := by
  have hu : X.A.units + 1 < cLine := by have := units_ok g; omega
  have key : ∀ {σ : L2.St} {H : Hp} {Q : VK}, tX C X ew (.bi (.dhas neg) (.cons a (.cons b .nil))) σ H Q → tX C X ew a σ H fun y H1 => tX C X ew b σ H1 fun x H2 => ∃ p o, x = .ref p ∧ DGet H2 p y o ∧ Q (.bl (neg != o.isSome)) H2 := fun {σ H Q} ⟨F, ad, env, st, r, en, ok⟩ => by
    rw [bi2_evX] at ok
    refine ⟨F, ad, env, st, r, en, ok.bindF fun y st1 F1 ad1 H1 v s1 r1 y1 ok1 => ?_⟩
    refine ⟨F1, ad1, env, st1, r1, en.step s1, ok1.bindF fun x st2 F2 ad2 H2 w s2 r2 x2 ok2 => ?_⟩
    have y2 := y1.step s2
    replace ok2 : OkV X.K C.cls (ew σ) F2 ad2 H2 (dhasV neg y.d x.d st2) Q := ok2
    generalize x.d = d at *
    generalize y.d = d' at *
    unfold dhasV at ok2
    clear ok1 y1
    split at ok2
    · rename_i n k
      cases y2
      cases x2 with
      | ref hn =>
        rename_i p
        split at ok2
        · rename_i ks ds hc
          obtain ⟨vs, h1, h2, h3⟩ := r2.cell _ _ _ hc hn
          refine ⟨p, valV (ks.zip vs) (Sum.inl k), rfl, DGet.k (k := Sum.inl k) h1, ?_⟩
          rw [← (look_val h2 h3).2]
          exact ok2.val r2 (.bool _)
        · exact ok2.elim
    · rename_i n k
      cases y2
      cases x2 with
      | ref hn =>
        rename_i p
        split at ok2
        · rename_i ks ds hc
          obtain ⟨vs, h1, h2, h3⟩ := r2.cell _ _ _ hc hn
          refine ⟨p, valV (ks.zip vs) (Sum.inr k), rfl, DGet.k (k := Sum.inr k) h1, ?_⟩
          rw [← (look_val h2 h3).2]
          exact ok2.val r2 (.bool _)
        · exact ok2.elim
    · exact ok2.elim
  cases neg
  · have hp := pc_din hu ha.ex hb.ex
    have cv : ∀ {σ : L2.St} {H : Hp} {Q : VK}, tX C X ew (.bi (.dhas false) (.cons a (.cons b .nil))) σ H Q → tDIn (tX C X ew a) (tX C X ew b) σ H Q := fun {σ H Q} h => by
      have := key h
      unfold tDIn
      simpa using this
    exact ⟨(pe_cmp hp hm).imp fun σ H Q q => cv q, fun _ => (pt_cmp hp hm).imp fun σ H Q q => cv q, fun q => by cases q⟩
  · have hp := pc_dnotin hu ha.ex hb.ex
    have cv : ∀ {σ : L2.St} {H : Hp} {Q : VK}, tX C X ew (.bi (.dhas true) (.cons a (.cons b .nil))) σ H Q → tDNotIn (tX C X ew a) (tX C X ew b) σ H Q := fun {σ H Q} h => by
      have := key h
      unfold tDNotIn
      simpa using this
    exact ⟨(pe_cmp hp hm).imp fun σ H Q q => cv q, fun _ => (pt_cmp hp hm).imp fun σ H Q q => cv q, fun q => by cases q⟩
theorem sd_dnew {pos : Pos} : Sd C X ew (.dnew false) (.Dict [] [] pos) := by
  refine Sd.plain (pe_dnewK.imp fun σ H Q ⟨F, ad, env, st, r, en, ok⟩ => ?_) rfl
  unfold evX at ok
  rw [if_pos rfl] at ok
  intro p hp
  have hf : F p = none := by
    cases e : F p with
    | none => rfl
    | some o => rw [r.sub p o e] at hp; cases hp
  have ha : p ∉ ad := fun m => r.live p m hp
  have s2 : Step F ad H F ad (upd H p (.dK [])) := Step.beside hp
  have r2 : RelS X.K F ad st (upd H p (.dK [])) := r.beside hp
  have r3 : RelS X.K F (ad ++ [p]) (st ++ [.dk [] []]) (upd H p (.dK [])) := r2.celled (by rw [upd_same]; intro z; cases z) hf ha ⟨[], upd_same, rfl, .nil⟩
  have hl := r.len
  refine ok F (ad ++ [p]) (upd H p (.dK [])) (.ref p) (s2.celled hp) r3 ?_
  exact .ref (by rw [← hl]; simp)
theorem R_assoc {α β γ : Type} {r : R α} {f : α → Sto → R β} {g : β → Sto → R γ} : (r.bind f).bind g = r.bind fun x st => (f x st).bind g := by
  cases r <;> rfl
theorem evX_tupE {cf : CF} {fs : Es} {env : MP.Env} {st : Sto} : evX cf (.tup fs) env st = (evXs cf fs env st).bind fun ds st => if ds.length ≤ sizeLine then .ok (.v (.tup ds)) st else .stuck := by unfold evX <;> rfl
theorem litI {k : Int} {pv : Expr} (h : litB (.int k) pv = true) : PE X pv (tC (.int k)) := by
  simp only [litB] at h
  split at h
  · rw [beq_iff_eq] at h
    subst h
    exact pe_int
  · rw [beq_iff_eq] at h
    subst h
    exact (pe_un un_neg pe_int).imp fun σ H Q q => ⟨_, rfl, q⟩
  · cases h
theorem dlit_pps {pos : Pos} : ∀ {ks : List Str} {vs : List Int} {keys : List (Option Expr)} {vals : List Expr}, dlitB ks vs keys vals = true →
    ∃ trs, PPs X pos keys vals trs ∧ keys.all (·.isSome) = true ∧ keys.length = vals.length ∧ keys.length = ks.length ∧ (∀ σ H Q, Q ((ks.zip vs).map fun p => (V.str p.1, V.int p.2)) H → tPairs trs σ H Q)
  | [], [], [], [], _ => ⟨[], pps_nil, rfl, rfl, rfl, fun σ H Q q => q⟩
  | k :: ks, v :: vs, some pk :: keys, pv :: vals, h => by
    simp only [dlitB, Bool.and_eq_true] at h
    obtain ⟨⟨h1, h2⟩, h3⟩ := h
    obtain ⟨trs, t1, t2, t3, t4, t5⟩ := dlit_pps h3
    have hk : PE X pk (tC (.str k)) := by
      simp only [litB] at h1
      split at h1
      · rw [beq_iff_eq] at h1
        subst h1
        exact pe_str
      · cases h1
    exact ⟨(tC (.str k), tC (.int v)) :: trs, pps_cons hk (litI h2) t1, by simpa using t2, by simp [t3], by simp [t4], fun σ H Q q => t5 σ H _ q⟩
theorem reps_intsL {K : PySem.W.Frag} {F : Hp} {ad : List Addr} : ∀ vs : List Int, Reps K F ad (vs.map V.int) (vs.map D.int)
  | [] => .nil
  | v :: vs => .cons (.int v) (reps_intsL vs)
theorem sd_dlitX {ks : List Str} {vs : List Int} {keys : List (Option Expr)} {vals : List Expr} {pos : Pos} (h : dlitB ks vs keys vals = true) : Sd C X ew (.bi (.dlitX ks vs) .nil) (.Dict keys vals pos) := by
  obtain ⟨trs, t1, t2, t3, t4, t5⟩ := dlit_pps (X := X) (pos := pos) h
  by_cases ok0 : ks.Nodup ∧ ks.length = vs.length ∧ ks.length ≤ 15 ∧ ks ≠ []
  case neg =>
    refine Sd.plain ?_ rfl
    have no : ∀ σ H Q, ¬ tX C X ew (.bi (.dlitX ks vs) .nil) σ H Q := fun σ H Q ⟨F, ad, env, st, r, en, ok⟩ => by
      unfold evX at ok
      have e0 : evXs (run C.T C.k) .nil env st = .ok [] st := by unfold evXs <;> rfl
      rw [e0] at ok
      have ok : OkV X.K C.cls (ew σ) F ad H (if ks.Nodup ∧ ks.length = vs.length ∧ ks.length ≤ 15 ∧ ks ≠ [] then .ok (.v (.ref st.length)) (st ++ [.dk (ks.map Sum.inr) (vs.map D.int)]) else .stuck) Q := ok
      rw [if_neg ok0] at ok
      exact ok
    exact ⟨fun pins s σ H Q I q => absurd q (no σ H Q)⟩
  obtain ⟨nd, lv, l15, ne⟩ := id ok0
  have kne : keys ≠ [] := fun e => ne (List.length_eq_zero_iff.mp (by rw [← t4, e]; rfl))
  refine Sd.plain ((pe_disp t1 t2 t3 kne (by omega)).imp fun σ H Q ⟨F, ad, env, st, r, en, ok⟩ => ?_) rfl
  unfold evX at ok
  have e0 : evXs (run C.T C.k) .nil env st = .ok [] st := by unfold evXs <;> rfl
  rw [e0] at ok
  have ok : OkV X.K C.cls (ew σ) F ad H (if ks.Nodup ∧ ks.length = vs.length ∧ ks.length ≤ 15 ∧ ks ≠ [] then .ok (.v (.ref st.length)) (st ++ [.dk (ks.map Sum.inr) (vs.map D.int)]) else .stuck) Q := ok
  rw [if_pos ok0] at ok
  intro p hp
  refine t5 σ _ _ ⟨upd_same, (ks.map Sum.inr).zip (vs.map V.int), ?_, by rw [List.length_zip, List.length_map]; omega, ?_⟩
  · rw [List.zip_map, List.map_map]
    rfl
  have hm : mergeK [] ((ks.map (Sum.inr : Str → Key)).zip (vs.map V.int)) = (ks.map Sum.inr).zip (vs.map V.int) := by
    rw [mergeK_nd _ _ (by
      rw [List.nil_append]
      have : ((ks.map (Sum.inr : Str → Key)).zip (vs.map V.int)).map (·.1) = ks.map Sum.inr := by
        rw [List.map_fst_zip]
        rw [List.length_map, List.length_map]; omega
      rw [this]
      unfold List.Nodup
      rw [List.pairwise_map]
      exact nd.imp fun h e => h (by injection e)), List.nil_append]
  rw [hm, upd_upd]
  have hf : F p = none := by
    cases e : F p with
    | none => rfl
    | some o => rw [r.sub p o e] at hp; cases hp
  have ha : p ∉ ad := fun m => r.live p m hp
  have s2 : Step F ad H F ad (upd H p (.dK ((ks.map Sum.inr).zip (vs.map V.int)))) := Step.beside hp
  have r2 : RelS X.K F ad st (upd H p (.dK ((ks.map Sum.inr).zip (vs.map V.int)))) := r.beside hp
  have r3 : RelS X.K F (ad ++ [p]) (st ++ [.dk (ks.map Sum.inr) (vs.map D.int)]) (upd H p (.dK ((ks.map Sum.inr).zip (vs.map V.int)))) := r2.celled (by rw [upd_same]; intro z; cases z) hf ha ⟨vs.map V.int, upd_same, by rw [List.length_map, List.length_map]; exact lv, reps_intsL vs⟩
  have hl := r.len
  refine ok F (ad ++ [p]) _ (.ref p) (s2.celled hp) r3 ?_
  exact .ref (by rw [← hl]; simp)
theorem sd_dgetT {a : E} {fs : Es} {pa : Expr} {ps : List Expr} {x1} {tpos pos : Pos} (g : Good C N X sc ow ew) (ha : Sd C X ew a pa) (hf : PA X ps (tXs C X ew fs)) : Sd C X ew (.bi .dgetT (.cons a (.cons (.tup fs) .nil))) (.Subscript pa (.Tuple ps x1 tpos) pos) := by
  refine Sd.plain ((pe_dget (by have := units_ok g; omega) ha.ex (pe_tup hf) (fun _ _ => rfl)).imp fun σ H Q ⟨F, ad, env, st, r, en, ok⟩ => ?_) rfl
  rw [bi2_evX] at ok
  refine ⟨F, ad, env, st, r, en, ok.bindF fun x st1 F1 ad1 H1 v s1 r1 x1 ok1 => ?_⟩
  rw [evX_tupE, R_assoc] at ok1
  refine ⟨F1, ad1, env, st1, r1, en.step s1, ok1.bindL fun es st2 F2 ad2 H2 vs s2 r2 xs2 ok2 => ?_⟩
  by_cases hl : es.length ≤ sizeLine
  case neg => rw [if_neg hl] at ok2; exact ok2.elim
  rw [if_pos hl] at ok2
  refine ⟨by rw [xs2.length]; exact hl, fun p hp => ?_⟩
  have x2 := x1.step s2
  replace ok2 : OkV X.K C.cls (ew σ) F2 ad2 H2 (dgetTV x.d (.tup es) st2) Q := ok2
  generalize x.d = d at *
  unfold dgetTV at ok2
  clear ok1 x1
  split at ok2
  · rename_i n es' e0
    cases e0
    cases x2 with
    | ref hn =>
      rename_i a
      split at ok2
      · rename_i ks ds k hc hk
        obtain ⟨ws, h1, h2, h3⟩ := r2.cell _ _ _ hc hn
        split at ok2
        · rename_i d0 q
          obtain ⟨v0, e1, e2⟩ := (look_val h2 h3).1 d0 q
          have ev := keys_reps xs2 hk
          subst ev
          refine ⟨a, v0, rfl, ?_, (OkV.step (Step.beside hp) ok2).val (r2.beside hp) e2⟩
          rw [← e1]
          exact DGet.t (k := k) (by rw [upd_ne (fun z => by rw [z, hp] at h1; cases h1)]; exact h1) upd_same
        · exact ok2.elim
      · exact ok2.elim
  · exact ok2.elim
theorem sd_getT {o : E} {fs : Es} {f : E} {po pz : Expr} {qs : List Expr} {x1} {tpos apos cpos : Pos} (g : Good C N X sc ow ew) (hcb : callB po = false) (ho : Sd C X ew o po) (hl : (apos.endLine == cpos.line) = true) (hf : PA X qs (tXs C X ew fs)) (hz : Sd C X ew f pz) (ns : starB pz = false) :
    Sd C X ew (.mt .get o (.cons (.tup fs) (.cons f .nil))) (.Call (.Attribute po "get" apos) [.Tuple qs x1 tpos, pz] [] cpos) := by
  have hst : starEach [.Tuple qs x1 tpos, pz] X.env = [(false, eval (.Tuple qs x1 tpos) X.env), (false, eval pz X.env)] := by
    rw [star_each (by rfl), star_each ns]; rfl
  refine Sd.plain ((pe_dget2 (by have := units_ok g; omega) ho.ex (pe_tup hf) hz.ex ⟨att_base hcb, by rw [hst]; rfl, hl, by rw [hst]; rfl⟩).imp fun σ H Q ⟨F, ad, env, st, r, en, ok⟩ => ?_) rfl
  unfold evX at ok
  refine ⟨F, ad, env, st, r, en, ok.bindF fun x st1 F1 ad1 H1 v s1 r1 x1 ok1 => ?_⟩
  by_cases hi : mtIs .get x.d st1 = true
  case neg => rw [if_neg hi] at ok1; exact ok1.elim
  rw [if_pos hi] at ok1
  have h0 : ∀ st, evXs (run C.T C.k) .nil env st = .ok [] st := fun st => by unfold evXs <;> rfl
  have h1 : ∀ e es st, evXs (run C.T C.k) (.cons e es) env st = (evX (run C.T C.k) e env st).bind fun x st => (evXs (run C.T C.k) es env st).bind fun xs st => .ok (x.d :: xs) st := fun e es st => by rw [evXs]
  rw [h1, evX_tupE, R_assoc, R_assoc] at ok1
  have hx : ∃ (n : Nat) (a : Addr) (ks : List (List L2.Key)) (ws : List V), x.d = .ref n ∧ v = .ref a ∧ ad1[n]? = some a ∧ H1 a = some (.dT (ks.zip ws)) := by
    generalize x.d = d at *
    unfold mtIs at hi
    dsimp only at hi
    split at hi
    · rename_i n
      cases x1 with
      | ref hn =>
        split at hi
        · rename_i ks ds hc
          obtain ⟨ws, q1, q2, q3⟩ := r1.cell _ _ _ hc hn
          exact ⟨n, _, ks, ws, rfl, rfl, hn, q1⟩
        · cases hi
    · cases hi
  obtain ⟨n, a, ks0, ws0, ed, rfl, hn0, hT⟩ := hx
  refine ⟨a, rfl, .inr ⟨_, .inl hT⟩, F1, ad1, env, st1, r1, en.step s1, ok1.bindL fun es st2 F2 ad2 H2 vs s2 r2 xs2 ok2 => ?_⟩
  by_cases hlen : es.length ≤ sizeLine
  case neg => rw [if_neg hlen] at ok2; exact ok2.elim
  rw [if_pos hlen] at ok2
  refine ⟨by rw [xs2.length]; exact hlen, fun p hp => ?_⟩
  have nad : p ∉ ad2 := fun m => r2.live p m hp
  have ok3 := OkV.step (Step.beside (F := F2) (ad := ad2) (o := .tup vs) hp) ok2
  rw [R.bind_ok, h1, R_assoc, R_assoc] at ok3
  refine ⟨F2, ad2, env, st2, r2.beside hp, (en.step s1).step s2, ok3.bindF fun z st3 F3 ad3 H3 w s3 r3 z3 ok4 => ?_⟩
  rw [h0, R.bind_ok, R.bind_ok, R.bind_ok] at ok4
  replace ok4 : OkV X.K C.cls (ew σ) F3 ad3 H3 (dget2V x.d (.tup es) z.d st3) Q := ok4
  rw [ed] at ok4
  unfold dget2V at ok4
  dsimp only at ok4
  have hn3 : ad3[n]? = some a := s3.pa n a (s2.pa n a hn0)
  have hp3 : H3 p = some (.tup vs) := s3.keep p _ nad upd_same
  split at ok4
  · rename_i ks ds k hc hk
    obtain ⟨ws, h1, h2, h3⟩ := r3.cell _ _ _ hc hn3
    have ev := keys_reps xs2 hk
    subst ev
    refine ⟨valV (ks.zip ws) k, DGet.t (k := k) h1 hp3, ?_⟩
    refine ok4.val r3 ?_
    cases q : lookK k ks ds with
    | some d0 =>
      obtain ⟨v0, e1, e2⟩ := (look_val h2 h3).1 d0 q
      rw [e1]; exact e2
    | none =>
      have e := (look_val (k := k) h2 h3).2
      rw [q] at e
      cases q2 : valV (ks.zip ws) k with
      | none => exact z3
      | some _ => rw [q2] at e; cases e
  · exact ok4.elim
theorem sd_dnewT {pos : Pos} : Sd C X ew (.dnew true) (.Dict [] [] pos) := by
  refine Sd.plain (pe_dnewT.imp fun σ H Q ⟨F, ad, env, st, r, en, ok⟩ => ?_) rfl
  unfold evX at ok
  rw [if_neg (by decide)] at ok
  intro p hp
  have hf : F p = none := by
    cases e : F p with
    | none => rfl
    | some o => rw [r.sub p o e] at hp; cases hp
  have ha : p ∉ ad := fun m => r.live p m hp
  have s2 : Step F ad H F ad (upd H p (.dT [])) := Step.beside hp
  have r2 : RelS X.K F ad st (upd H p (.dT [])) := r.beside hp
  have r3 : RelS X.K F (ad ++ [p]) (st ++ [.dt [] []]) (upd H p (.dT [])) := r2.celled (by rw [upd_same]; intro z; cases z) hf ha ⟨[], upd_same, rfl, .nil⟩
  have hl := r.len
  refine ok F (ad ++ [p]) (upd H p (.dT [])) (.ref p) (s2.celled hp) r3 ?_
  exact .ref (by rw [← hl]; simp)
/-! a written table; max(xs, default=0) -/
theorem tab_key {f : BI} {e : E} {g : D → Sto → R Val} (hf : ∀ ds st, biV f ds st = one ds fun x => g x st) {σ : L2.St} {H : Hp} {Q Q1 : VK} (h : tX C X ew (.bi f (.cons e .nil)) σ H Q)
    (hk : ∀ (x : V) (H1 : Hp) (σ' : L2.St) (F : Hp) (ad : List Addr) (st : Sto) (d : D), RelS X.K F ad st H1 → Rep X.K F ad x d → OkV X.K C.cls (ew σ') F ad H1 (g d st) Q → Q1 x H1) : tX C X ew e σ H Q1 := by
  obtain ⟨F, ad, env, st, r, en, ok⟩ := h
  unfold evX evXs evXs at ok
  refine ⟨F, ad, env, st, r, en, ?_⟩
  cases q : evX (run C.T C.k) e env st with
  | stuck => rw [q] at ok; exact ok
  | err c st' => rw [q] at ok; exact ok
  | ok x st' =>
    rw [q] at ok
    intro F' ad' H' v s r' xr
    obtain ⟨F'', s', r'', xr'⟩ := freezeX s r' xr
    have ok2 : OkV X.K C.cls (ew σ) F'' ad' H' (biV f [x.d] st') Q := OkV.step s' ok
    rw [hf] at ok2
    exact hk _ _ σ F'' ad' st' x.d r'' xr' ok2
theorem sd_neg {e : E} {pa : Expr} {pos : Pos} (ha : Sd C X ew e pa) : Sd C X ew (.bi .neg (.cons e .nil)) (.UnaryOp .USub pa pos) := by
  refine Sd.plain ((pe_un un_neg ha.ex).imp fun σ H Q h => ?_) rfl
  refine tab_key (g := negV) (fun _ _ => rfl) h fun x H1 σ' F ad st d r xr ok => ?_
  unfold negV at ok
  split at ok
  · cases xr
    exact ⟨_, rfl, ok.val r (.int _)⟩
  · exact ok.elim
theorem sd_tabIn {neg : Bool} {x : Str} {ks : List Str} {vs : List Int} {e : E} {pa : Expr} {p pos : Pos} (g : Good C N X sc ow ew) (hs : glB sc x = true) (hx : okN x = true) (hG : tabG C.G x ks vs = true) (ha : Sd C X ew e pa) :
    Sd C X ew (.bi (.tabIn neg x ks vs) (.cons e .nil)) (.Compare pa [copOf (if neg then .notin else .isin)] [.Name x p] pos) := by
  obtain ⟨a, hm, ⟨es, n, kd⟩, ht⟩ := g.facts.tab x ks vs (tabG_of hG)
  have hp : PE X (.Name x p) (tC (.ref a)) := pe_glob (gl_of g.sc hs) hm rfl (ok1 hx).1
  have key : ∀ {σ : L2.St} {H : Hp} {Q : VK}, tX C X ew (.bi (.tabIn neg x ks vs) (.cons e .nil)) σ H Q →
      tOp (fun x y H Q => ∃ z r, x = V.str z ∧ y = V.ref a ∧ PySem.W.nsIn X.K a z = some r ∧ Q (V.bl (if neg then !r.isSome else r.isSome)) H) (tX C X ew e) (tC (.ref a)) σ H Q := fun {σ H Q} h => by
    refine tab_key (g := tabInV neg ks vs) (fun _ _ => rfl) h fun x H1 σ' F ad st d r xr ok => ?_
    unfold tabInV at ok
    split at ok
    · rename_i z
      cases xr
      obtain ⟨h1, h2⟩ := ht z
      cases q : lookS z ks vs with
      | some i =>
        obtain ⟨t, e1⟩ := h1 i q
        refine ⟨z, _, rfl, rfl, e1, ?_⟩
        rw [q] at ok
        have := ok.val r (.bool _)
        cases neg <;> exact this
      | none =>
        refine ⟨z, _, rfl, rfl, h2 q, ?_⟩
        rw [q] at ok
        have := ok.val r (.bool _)
        cases neg <;> exact this
    · exact ok.elim
  have op : OpR X (compareOp (copOf (if neg then .notin else .isin))) (fun x y H Q => ∃ z r, x = V.str z ∧ y = V.ref a ∧ PySem.W.nsIn X.K a z = some r ∧ Q (V.bl (if neg then !r.isSome else r.isSome)) H) := by
    cases neg
    · exact op_in_kd kd
    · exact op_notIn_kd kd
  have hm : behindInMarks (copOf (if neg then .notin else .isin)) (.Name x p) = false := rfl
  exact ⟨(pe_cmpR op ha.ex hp hm).imp fun σ H Q q => key q, fun _ => (pt_cmpR op ha.ex hp hm).imp fun σ H Q q => key q, fun q => by cases q⟩
theorem sd_tabGet {x : Str} {ks : List Str} {vs : List Int} {e : E} {pb : Expr} {p pos : Pos} (g : Good C N X sc ow ew) (hs : glB sc x = true) (hx : okN x = true) (hG : tabG C.G x ks vs = true) (hi : plainIxB pb = true) (hb : Sd C X ew e pb) :
    Sd C X ew (.bi (.tabGet x ks vs) (.cons e .nil)) (.Subscript (.Name x p) pb pos) := by
  obtain ⟨a, hm, ⟨es, n, kd⟩, ht⟩ := g.facts.tab x ks vs (tabG_of hG)
  have hp : PE X (.Name x p) (tC (.ref a)) := pe_glob (gl_of g.sc hs) hm rfl (ok1 hx).1
  refine Sd.plain ((pe_ix ix_kdict hp hb.ex (plain_ix hi)).imp fun σ H Q h => ?_) rfl
  refine tab_key (g := tabGetV ks vs) (fun _ _ => rfl) h fun x H1 σ' F ad st d r xr ok => ?_
  unfold tabGetV at ok
  split at ok
  · rename_i z
    cases xr
    split at ok
    · rename_i i q
      obtain ⟨t, e1⟩ := (ht z).1 i q
      exact ⟨a, z, .int i, rfl, rfl, ⟨es, n, _, kd.at_, kd.lit, e1, ⟨t, rfl⟩⟩, ok.val r (.int _)⟩
    · exact ok.elim
  · exact ok.elim
/-- table.get(text, z): a table of the top -/
theorem pe_kget2 {a : Addr} {es : Array DictEntry} {n : Nat} {o e f : Expr} {apos cpos : Pos} {td ty tx : TE} (kd : KDict X.K X.w a es n) (ho : PE X o td) (he : PE X e ty) (hf : PE X f tx) (m : M2 X o "get" apos e f cpos) :
    PE X (.Call (.Attribute o "get" apos) [e, f] [] cpos) (fun σ H Q => td σ H fun x H1 => x = .ref a ∧ ty σ H1 fun y H2 => tx σ H2 fun z H3 => ∃ w, y = .str w ∧ ((∃ u0 v0, PySem.W.nsIn X.K a w = some (some u0) ∧ RelV v0 u0 ∧ Q v0 H3) ∨ (PySem.W.nsIn X.K a w = some none ∧ Q z H3))) := by
  refine ⟨fun pins s σ H Q I h => ?_⟩
  refine wpAny_Call_method m.base m.few m.line PySem.F.plainAttrs_dict PySem.F.slot_dict_get PySem.F.type_dict_get (thn (ho.run pins s σ H _ I h) fun u s1 ⟨x, H1, I1, rx, ex, q1⟩ => ?_)
  subst ex
  obtain rfl : u = Value.ref a := rx
  have dd := PySem.W.mapOf_K (prog := X.prog) (w := X.w) I1.kIn kd.at_ kd.lit
  refine ⟨dd.typeIs, fun b q => ?_, ?_⟩
  · cases q
    obtain ⟨ob, _, _, h1, h2, _⟩ := dd
    exact ⟨ob, h1, h2.2.1⟩
  rw [m.trees]
  refine Calls.callWith_builtin rfl (Calls.evalArgs_plain (Calls.spliced_cons (thn (he.run pins s1 σ H1 _ I1 q1) fun iv s2 ⟨y, H2, I2, ry, q2⟩ =>
    Calls.spliced_cons (thn (hf.run pins s2 σ H2 _ I2 q2) fun fv s3 ⟨z, H3, I3, rz, w, ey, q3⟩ => Calls.spliced_nil ?_))))
  subst ey
  obtain ⟨t, rfl⟩ := ry
  have d3 := PySem.W.mapOf_K (prog := X.prog) (w := X.w) I3.kIn kd.at_ kd.lit
  refine call_meetsIn PySem.F.slot_dict_get d3.typeIs PySem.F.entry_dict_get (PySem.F.args_dict_get_3 _ _ _) (meets_dict_get_default (strKind X.prog X.w) a (PySem.strKind_is X.prog X.w w t) kd.low fv) ⟨_, d3, ?_⟩
  rcases q3 with ⟨u0, v0, e1, rv, q⟩ | ⟨e1, q⟩
  · rw [PySem.W.find_K kd.at_ e1]
    exact ⟨v0, H3, I3.tok _, rv, q⟩
  · rw [PySem.W.find_K kd.at_ e1]
    exact ⟨z, H3, I3.tok _, rz, q⟩
theorem sd_tabGetD {x : Str} {ks : List Str} {vs : List Int} {e : E} {k : Int} {pa pd : Expr} {p apos cpos : Pos} (g : Good C N X sc ow ew) (hs : glB sc x = true) (hx : okN x = true) (hG : tabG C.G x ks vs = true) (hl : (apos.endLine == cpos.line) = true) (na : starB pa = false) (nd : starB pd = false) (hd : litB (.int k) pd = true) (ha : Sd C X ew e pa) :
    Sd C X ew (.bi (.tabGetD x ks vs) (.cons e (.cons (.lit (.int k)) .nil))) (.Call (.Attribute (.Name x p) "get" apos) [pa, pd] [] cpos) := by
  obtain ⟨a, hm, ⟨es, n, kd⟩, ht⟩ := g.facts.tab x ks vs (tabG_of hG)
  have hp : PE X (.Name x p) (tC (.ref a)) := pe_glob (gl_of g.sc hs) hm rfl (ok1 hx).1
  have hst : starEach [pa, pd] X.env = [(false, eval pa X.env), (false, eval pd X.env)] := by
    rw [star_each na, star_each nd]; rfl
  refine Sd.plain ((pe_kget2 kd hp ha.ex (litI hd) ⟨att_base rfl, by rw [hst]; rfl, hl, by rw [hst]; rfl⟩).imp fun σ H Q ⟨F, ad, env, st, r, en, ok⟩ => ?_) rfl
  unfold evX at ok
  refine ⟨rfl, F, ad, env, st, r, en, ?_⟩
  have q1 : ∀ e es st, evXs (run C.T C.k) (.cons e es) env st = (evX (run C.T C.k) e env st).bind fun x st => (evXs (run C.T C.k) es env st).bind fun xs st => .ok (x.d :: xs) st := fun e es st => by rw [evXs]
  have q0 : ∀ st, evXs (run C.T C.k) .nil env st = .ok [] st := fun st => by unfold evXs <;> rfl
  rw [q1, R_assoc] at ok
  refine ok.bindF fun x1 st1 F1 ad1 H1 v s1 r1 xr ok1 => ?_
  have h0 : evXs (run C.T C.k) (.cons (.lit (.int k)) .nil) env st1 = .ok [.int k] st1 := by
    rw [q1, evX]
    show ((evXs (run C.T C.k) .nil env st1).bind fun xs st => MP.R.ok (D.int k :: xs) st) = _
    rw [q0]
    rfl
  rw [R_assoc, h0] at ok1
  have ok1 : OkV X.K C.cls (ew σ) F1 ad1 H1 (tabGetDV ks vs x1.d (.int k) st1) Q := ok1
  unfold tabGetDV at ok1
  split at ok1
  · rename_i z k' ed ek
    cases ek
    have xr' : v = .str z := by
      cases x1 with
      | new ds => cases ed
      | v d =>
        have ed : d = .str z := ed
        subst ed
        cases xr
        rfl
    refine ⟨z, xr', ?_⟩
    cases q : lookS z ks vs with
    | some i =>
      obtain ⟨t, e1⟩ := (ht z).1 i q
      rw [q] at ok1
      exact .inl ⟨_, .int i, e1, ⟨t, rfl⟩, ok1.val r1 (.int _)⟩
    | none =>
      rw [q] at ok1
      exact .inr ⟨(ht z).2 q, ok1.val r1 (.int _)⟩
  · exact ok1.elim
theorem lit0 {pv : Expr} (h : litB (.int 0) pv = true) : PE X pv (tC (.int 0)) := by
  simp only [litB] at h
  split at h
  · rw [beq_iff_eq] at h
    subst h
    exact pe_int
  · rw [beq_iff_eq] at h
    rename_i j _ _ _
    have hj : j = 0 := by omega
    subst hj
    exact (pe_un un_neg pe_int).imp fun σ H Q q => ⟨_, rfl, q⟩
  · cases h
theorem sd_maxD0 {e : E} {p pos kp : Pos} {pa pv : Expr} (g : Good C N X sc ow ew) (hs : glB sc "max" = true) (hv : litB (.int 0) pv = true) (ha : Sd C X ew e pa) (ns : starB pa = false) : Sd C X ew (.bi .maxD0 (.cons e .nil)) (.Call (.Name "max" p) [pa] [⟨some "default", pv, kp⟩] pos) := by
  refine Sd.plain ?_ rfl
  have ha2 : PA X [pa] (tCons (tX C X ew e) tNil) := pa_cons ha.ex pa_nil (star_each ns)
  have hk : PE X pv (tC (.int 0)) := lit0 hv
  refine (pe_callBK (r := fun vs zs H Q => ∃ σ', rMaxK X.K C.cls (ew σ') vs zs H Q) (ks := ["default"]) (fun pins s σ H xs zs us ws Q I rv rz ⟨σ', q⟩ => cr_maxD0 g.calm pins s σ H xs zs us ws Q I rv rz q) (gl_of g.sc hs) (g.facts.blt "max" (by decide)) boot_max ha2 (pk_cons hk pk_nil) (by decide) (by decide) (by rw [star_each ns]; rfl) (by rw [star_each ns]; rfl)).imp fun σ H Q h => ?_
  exact tab_key (g := fun d st => onInts d st fun ns => .ok (.v (.int (maxI ns))) st) (fun _ _ => rfl) h fun x H1 σ' F ad st d r xr ok => ⟨σ', rfl, F, ad, st, [d], r, xr.one, ok⟩
/-! sorted(set(..)), sorted(list(dict(..))) -/
theorem sd_setI {e : E} {p q pos pos2 : Pos} {pa : Expr} (g : Good C N X sc ow ew) (hs : glB sc "sorted" = true) (hy : glB sc "set" = true) (ha : Sd C X ew e pa) (ns : starB pa = false) : Sd C X ew (.bi .setI (.cons e .nil)) (.Call (.Name "sorted" p) [.Call (.Name "set" q) [pa] [] pos2] [] pos) := by
  refine Sd.plain ?_ rfl
  have ha1 : PA X [pa] (tCons (tX C X ew e) tNil) := pa_cons ha.ex pa_nil (star_each ns)
  have hr := pe_callTy (pos := pos2) (p := q) (cr_setI g.calm) (gl_of g.sc hy) (g.facts.blt "set" (by decide)) PyProof.Rows.boot_set ha1 (by decide) (by decide) (star_each ns) (by rfl)
  have ha2 := pa_cons hr pa_nil
  refine (pe_callB (cr_sortedSet g.calm) (gl_of g.sc hs) (g.facts.blt "sorted" (by decide)) boot_sorted ha2 (by decide) (by decide)).imp fun σ H Q h => ?_
  refine tab_key (g := fun d st => onInts d st fun ns => if ns.length < 64 then .ok (.new ((sortI (uniq ns)).map D.int)) st else .stuck) (fun _ _ => rfl) h fun x H1 σ' F ad st d r xr ok => ?_
  obtain ⟨a, ns, rfl, ha, ok⟩ := onInts_ok (X := X) ok r xr
  obtain ⟨hz, ok⟩ := ite_ok (X := X) ok
  refine ⟨a, ns, rfl, SqL.of ha, by omega, fun p n hp hn => ⟨p, _, n, rfl, upd_same, by omega, fun ms q h1 h2 h3 hq => ?_⟩⟩
  rw [setI_of h1 fun k => (h2 k).trans decide_eq_true_iff]
  exact OkV.list (OkV.step (Step.beside hp) ok) (r.beside hp) (reps_ints _) hq
theorem sd_setX {e : E} {p q pos pos2 : Pos} {pa : Expr} (g : Good C N X sc ow ew) (hs : glB sc "sorted" = true) (hy : glB sc "set" = true) (ha : Sd C X ew e pa) (ns : starB pa = false) : Sd C X ew (.bi .setX (.cons e .nil)) (.Call (.Name "sorted" p) [.Call (.Name "set" q) [pa] [] pos2] [] pos) := by
  refine Sd.plain ?_ rfl
  have ha1 : PA X [pa] (tCons (tX C X ew e) tNil) := pa_cons ha.ex pa_nil (star_each ns)
  have hr := pe_callTy (pos := pos2) (p := q) (cr_setX g.calm) (gl_of g.sc hy) (g.facts.blt "set" (by decide)) PyProof.Rows.boot_set ha1 (by decide) (by decide) (star_each ns) (by rfl)
  have ha2 := pa_cons hr pa_nil
  refine (pe_callB (cr_sortedSX g.calm) (gl_of g.sc hs) (g.facts.blt "sorted" (by decide)) boot_sorted ha2 (by decide) (by decide)).imp fun σ H Q h => ?_
  refine tab_key (g := fun d st => onStrs d st fun ns => if ns.length ≤ 1000 ∧ (uniq ns).length < 64 then .ok (.new ((sortS (uniq ns)).map D.str)) st else .stuck) (fun _ _ => rfl) h fun x H1 σ' F ad st d r xr ok => ?_
  obtain ⟨a, ns, rfl, ha, ok⟩ := onStrs_ok (X := X) ok r xr
  obtain ⟨hz, ok⟩ := ite_ok (X := X) ok
  refine ⟨a, ns, rfl, SqL.of ha, hz.1, fun p l hp nd hn hx => ⟨p, l, rfl, upd_same, by have := (uniq_perm nd hx).length_eq; omega, fun ms q h1 h2 hq => ?_⟩⟩
  rw [sortS_of (h1.trans (uniq_perm nd hx)) h2]
  exact OkV.list (OkV.step (Step.beside hp) ok) (r.beside hp) (reps_strs _) hq
theorem nd_mapOn {α β : Type} {f : α → β} {l : List α} (h : l.Nodup) (inj : ∀ a ∈ l, ∀ b ∈ l, f a = f b → a = b) : (l.map f).Nodup := by
  unfold List.Nodup at h ⊢
  rw [List.pairwise_map]
  exact h.imp_of_mem fun ha hb ne e => ne (inj _ ha _ hb e)
theorem pe_dk {e : E} {p q pos pos2 : Pos} {pa : Expr} (g : Good C N X sc ow ew) (hs : glB sc "list" = true) (hy : glB sc "dict" = true) (ha : Sd C X ew e pa) (ns : starB pa = false) : PE X (.Call (.Name "list" p) [.Call (.Name "dict" q) [pa] [] pos2] [] pos)
    (fun σ H Q => tX C X ew e σ H fun x H1 => ∃ (a : Addr) (ps : List Addr) (kvs : List (Key × V)), x = .ref a ∧ SqL X.K H1 a (ps.map V.ref) ∧ Paired (fun p kv => SqT X.K H1 p [kV kv.1, kv.2]) ps kvs ∧ ∀ (p q : Addr), H1 p = none → upd H1 p (.dK (mergeK [] kvs)) q = none → Q (.ref q) (upd (upd H1 p (.dK (mergeK [] kvs))) q (.lst ((mergeK [] kvs).map fun kv => kV kv.1)))) := by
  have ha1 : PA X [pa] (tCons (tX C X ew e) tNil) := pa_cons ha.ex pa_nil (star_each ns)
  have hr := pe_callTy (pos := pos2) (p := q) (call_dictP g.calm) (gl_of g.sc hy) (g.facts.blt "dict" (by decide)) boot_dict ha1 (by decide) (by decide) (star_each ns) (by rfl)
  have ha2 := pa_cons hr pa_nil
  refine (pe_callTy (call_list_dK g.calm) (gl_of g.sc hs) (g.facts.blt "list" (by decide)) boot_list ha2 (by decide) (by decide)).imp fun σ H Q h => ?_
  refine tX_mono h fun x H1 ⟨a, ps, kvs, e1, h1, h2, h3⟩ => ⟨a, ps, kvs, by rw [e1], h1, h2, fun p hp => ?_⟩
  exact ⟨p, _, rfl, upd_same, fun q hq => h3 p q hp hq⟩
theorem onKeys_ok {x : D} {st : Sto} {f : List D → R Val} {F : Hp} {ad : List Addr} {H : Hp} {Q : VK} {cls : Str → Option Addr} {ew : XK} {v : V} (ok : OkV X.K cls ew F ad H (onKeys x st f) Q) (r : RelS X.K F ad st H) (h : Rep X.K F ad v x) : ∃ a vs xs ks, v = .ref a ∧ H a = some (.lst vs) ∧ Reps X.K F ad vs xs ∧ fstOf xs = some ks ∧ OkV X.K cls ew F ad H (f ks) Q := by
  unfold onKeys at ok
  split at ok
  · rename_i xs e
    obtain ⟨a, vs, rfl, ha, hr⟩ := listOf_rep r h e
    split at ok
    · rename_i ks en
      exact ⟨a, vs, xs, ks, rfl, ha, hr, en, ok⟩
    · exact ok.elim
  · exact ok.elim
theorem sd_revL {e : E} {k : Nat} {p1 p2 p3 pos : Pos} {pa : Expr} (ha : Sd C X ew e pa) :
    Sd C X ew (.bi .revL (.cons e .nil)) (.Subscript pa (.Slice none none (some (.UnaryOp .USub (.Constant (.int 1) k p1) p2)) p3) pos) := by
  refine Sd.plain ?_ rfl
  refine (pe_revL ha.ex).imp fun σ H Q h => ?_
  refine tab_key (g := fun d st => match listOf st d with
    | some xs => MP.R.ok (Val.new xs.reverse) st
    | Option.none => MP.R.stuck) (fun _ _ => rfl) h fun x H1 σ' F ad st d r xr ok => ?_
  split at ok
  · rename_i xs e
    obtain ⟨a, vs, rfl, ha, hr⟩ := listOf_rep r xr e
    exact ⟨a, vs, rfl, SqL.of ha, fun p hp => ok.list r hr.reverse hp⟩
  · exact ok.elim
theorem sd_dkI {e : E} {p p2 p3 pos pos2 pos3 : Pos} {pa : Expr} (g : Good C N X sc ow ew) (hs : glB sc "sorted" = true) (hl : glB sc "list" = true) (hy : glB sc "dict" = true) (ha : Sd C X ew e pa) (ns : starB pa = false) :
    Sd C X ew (.bi .dkI (.cons e .nil)) (.Call (.Name "sorted" p) [.Call (.Name "list" p2) [.Call (.Name "dict" p3) [pa] [] pos3] [] pos2] [] pos) := by
  refine Sd.plain ?_ rfl
  have ha2 := pa_cons (pe_dk (p := p2) (q := p3) (pos := pos2) (pos2 := pos3) g hl hy ha ns) pa_nil
  refine (pe_callB cr_sorted (gl_of g.sc hs) (g.facts.blt "sorted" (by decide)) boot_sorted ha2 (by decide) (by decide)).imp fun σ H Q h => ?_
  refine tab_key (g := dkIV) (fun _ _ => rfl) h fun x H1 σ' F ad st d r xr ok => ?_
  obtain ⟨a, vs, xs, ks, rfl, ha, hr, hf, ok⟩ := onKeys_ok ok r xr
  split at ok
  · rename_i ns en
    obtain ⟨hz, ok⟩ := ite_ok (X := X) ok
    obtain ⟨ps, kvs, rfl, hp, hk⟩ := fstOf_reps hr hf (ns.map Sum.inl) (by rw [intsOf_eq en, List.map_map]; rfl)
    have mk := mergeK_keys kvs [] List.nodup_nil
    have km : ∀ x, x ∈ (mergeK [] kvs).map (·.1) → ∃ i ∈ ns, x = Sum.inl i := fun x hx => by
      have := (mk.2 x).mp hx
      rw [hk] at this
      rcases this with z | z
      · cases z
      · obtain ⟨i, hi, e⟩ := List.mem_map.mp z
        exact ⟨i, hi, e.symm⟩
    have pq : (((mergeK [] kvs).map (·.1)).map fun k : Key => (match k with | .inl i => i | .inr _ => 0)).Perm (uniq ns) := by
      refine uniq_perm (nd_mapOn mk.1 ?_) fun x => ?_
      · intro a ha b hb e
        obtain ⟨i, _, rfl⟩ := km a ha
        obtain ⟨j, _, rfl⟩ := km b hb
        exact congrArg Sum.inl e
      · rw [List.mem_map]
        constructor
        · rintro ⟨k, hk1, rfl⟩
          obtain ⟨i, hi, rfl⟩ := km k hk1
          exact hi
        · intro hx
          refine ⟨.inl x, (mk.2 _).mpr (.inr ?_), rfl⟩
          rw [hk]; exact List.mem_map_of_mem hx
    refine ⟨a, ps, kvs, rfl, SqL.of ha, paired_up r.sub hp, fun p q hp hq => ⟨q, _, rfl, ?_, by rw [pq.length_eq]; exact Nat.lt_of_le_of_lt (uniq_len ns) hz, fun ms p2 h1 h2 h3 => ?_⟩⟩
    · refine SqL.of ?_
      rw [upd_same]
      congr 2
      rw [List.map_map, List.map_map]
      apply List.map_congr_left
      intro kv hkv
      obtain ⟨i, _, e⟩ := km kv.1 (List.mem_map_of_mem hkv)
      show kV kv.1 = V.int (match kv.1 with | .inl i => i | .inr _ => 0)
      rw [e]; rfl
    · rw [sortI_of (h1.trans pq) h2]
      exact OkV.list (OkV.step (Step.beside hq) (OkV.step (Step.beside hp) ok)) ((r.beside hp).beside hq) (reps_ints _) h3
  · exact ok.elim
theorem sd_dkX {e : E} {p p2 p3 pos pos2 pos3 : Pos} {pa : Expr} (g : Good C N X sc ow ew) (hs : glB sc "sorted" = true) (hl : glB sc "list" = true) (hy : glB sc "dict" = true) (ha : Sd C X ew e pa) (ns : starB pa = false) :
    Sd C X ew (.bi .dkX (.cons e .nil)) (.Call (.Name "sorted" p) [.Call (.Name "list" p2) [.Call (.Name "dict" p3) [pa] [] pos3] [] pos2] [] pos) := by
  refine Sd.plain ?_ rfl
  have ha2 := pa_cons (pe_dk (p := p2) (q := p3) (pos := pos2) (pos2 := pos3) g hl hy ha ns) pa_nil
  refine (pe_callB cr_sortedS (gl_of g.sc hs) (g.facts.blt "sorted" (by decide)) boot_sorted ha2 (by decide) (by decide)).imp fun σ H Q h => ?_
  refine tab_key (g := dkXV) (fun _ _ => rfl) h fun x H1 σ' F ad st d r xr ok => ?_
  obtain ⟨a, vs, xs, ks, rfl, ha, hr, hf, ok⟩ := onKeys_ok ok r xr
  split at ok
  · rename_i ns en
    obtain ⟨hz, ok⟩ := ite_ok (X := X) ok
    obtain ⟨ps, kvs, rfl, hp, hk⟩ := fstOf_reps hr hf (ns.map Sum.inr) (by rw [strsOf_eq en, List.map_map]; rfl)
    have mk := mergeK_keys kvs [] List.nodup_nil
    have km : ∀ x, x ∈ (mergeK [] kvs).map (·.1) → ∃ i ∈ ns, x = Sum.inr i := fun x hx => by
      have := (mk.2 x).mp hx
      rw [hk] at this
      rcases this with z | z
      · cases z
      · obtain ⟨i, hi, e⟩ := List.mem_map.mp z
        exact ⟨i, hi, e.symm⟩
    have pq : (((mergeK [] kvs).map (·.1)).map fun k : Key => (match k with | .inl _ => (⟨#[]⟩ : Str) | .inr i => i)).Perm (uniq ns) := by
      refine uniq_perm (nd_mapOn mk.1 ?_) fun x => ?_
      · intro a ha b hb e
        obtain ⟨i, _, rfl⟩ := km a ha
        obtain ⟨j, _, rfl⟩ := km b hb
        exact congrArg Sum.inr e
      · rw [List.mem_map]
        constructor
        · rintro ⟨k, hk1, rfl⟩
          obtain ⟨i, hi, rfl⟩ := km k hk1
          exact hi
        · intro hx
          refine ⟨.inr x, (mk.2 _).mpr (.inr ?_), rfl⟩
          rw [hk]; exact List.mem_map_of_mem hx
    refine ⟨a, ps, kvs, rfl, SqL.of ha, paired_up r.sub hp, fun p q hp hq => ⟨q, _, rfl, ?_, by rw [pq.length_eq]; exact hz, fun ms p2 h1 h2 h3 => ?_⟩⟩
    · refine SqL.of ?_
      rw [upd_same]
      congr 2
      rw [List.map_map, List.map_map]
      apply List.map_congr_left
      intro kv hkv
      obtain ⟨i, _, e⟩ := km kv.1 (List.mem_map_of_mem hkv)
      show kV kv.1 = V.str (match kv.1 with | .inl _ => (⟨#[]⟩ : Str) | .inr i => i)
      rw [e]; rfl
    · rw [sortS_of (h1.trans pq) h2]
      exact OkV.list (OkV.step (Step.beside hq) (OkV.step (Step.beside hp) ok)) ((r.beside hp).beside hq) (reps_strs _) h3
  · exact ok.elim
/-! methods of lists -/
theorem tyL {K : PySem.W.Frag} {F : Hp} {ad : List Addr} {st : Sto} {H : Hp} {v : V} {d : D} (r : RelS K F ad st H) (h : Rep K F ad v d) (e : (listOf st d).isSome = true) : tyV K "list" v H := by
  cases q : listOf st d with
  | none => rw [q] at e; cases e
  | some xs =>
    obtain ⟨a, vs, rfl, ha, _⟩ := listOf_rep r h q
    exact .inl ⟨rfl, _, SqL.of ha⟩
theorem key_mt {m : MT} {o : E} {es : Es} {σ : L2.St} {H : Hp} {Q : VK} (hm : ∀ d st, mtIs m d st = true → (listOf st d).isSome = true) (h : tX C X ew (.mt m o es) σ H Q) :
    tX C X ew o σ H fun x H1 => tyV X.K "list" x H1 ∧ tXs C X ew es σ H1 fun xs H2 => ∃ σ', rMt X.K C.cls (ew σ') m x xs H2 Q := by
  obtain ⟨F, ad, env, st, r, en, ok⟩ := h
  unfold evX at ok
  refine ⟨F, ad, env, st, r, en, ok.bindF fun x st1 F1 ad1 H1 v s1 r1 x1 ok1 => ?_⟩
  obtain ⟨hi, ok1⟩ := ite_ok (X := X) ok1
  refine ⟨tyL r1 x1 (hm _ _ hi), F1, ad1, env, st1, r1, en.step s1, ok1.bindL fun xs st2 F2 ad2 H2 vs s2 r2 xs2 ok2 => ?_⟩
  exact ⟨σ, F2, ad2, st2, x.d, xs, r2, x1.step s2, xs2, ok2⟩
theorem tyS {K : PySem.W.Frag} {F : Hp} {ad : List Addr} {H : Hp} {v : V} {d : D} (h : Rep K F ad v d) (e : ∃ z, d = .str z) : tyV K "str" v H := by
  obtain ⟨z, rfl⟩ := e
  cases h
  rfl
theorem key_mtS {m : MT} {o : E} {es : Es} {σ : L2.St} {H : Hp} {Q : VK} (hm : ∀ d st, mtIs m d st = true → ∃ z, d = .str z) (h : tX C X ew (.mt m o es) σ H Q) :
    tX C X ew o σ H fun x H1 => tyV X.K "str" x H1 ∧ tXs C X ew es σ H1 fun xs H2 => ∃ σ', rMt X.K C.cls (ew σ') m x xs H2 Q := by
  obtain ⟨F, ad, env, st, r, en, ok⟩ := h
  unfold evX at ok
  refine ⟨F, ad, env, st, r, en, ok.bindF fun x st1 F1 ad1 H1 v s1 r1 x1 ok1 => ?_⟩
  obtain ⟨hi, ok1⟩ := ite_ok (X := X) ok1
  refine ⟨tyS x1 (hm _ _ hi), F1, ad1, env, st1, r1, en.step s1, ok1.bindL fun xs st2 F2 ad2 H2 vs s2 r2 xs2 ok2 => ?_⟩
  exact ⟨σ, F2, ad2, st2, x.d, xs, r2, x1.step s2, xs2, ok2⟩
theorem is_str {d : D} {st : Sto} {m : MT} (hm : ∀ d st, mtIs m d st = (match d with
    | .str _ => true
    | _ => false)) (h : mtIs m d st = true) : ∃ z, d = .str z := by
  rw [hm] at h
  cases d <;> first | exact ⟨_, rfl⟩ | cases h
theorem mt_sindexD {cls : Str → Option Addr} {ew : XK} : MtM X "str.index" (rMt X.K cls ew .sindex) := by
  intro pins s σ H x vs v us Q I rx rv ⟨F, ad, st, d, ds, r, hx, hr, ok⟩
  obtain ⟨w, e, rfl, hy, ok⟩ := one_ok ok hr
  have ok : OkV X.K cls ew F ad H (sindexV d e st) Q := ok
  unfold sindexV at ok
  split at ok
  · cases hx; cases hy
    split at ok
    · rename_i i rest ho
      exact mt_sindex pins s σ H _ _ v us Q I rx rv ⟨_, _, i, rest, rfl, rfl, ho, ok.val r (.int _)⟩
    · exact ok.elim
  · exact ok.elim
theorem mt_joinD {cls : Str → Option Addr} {ew : XK} : MtM X "str.join" (rMt X.K cls ew .join) := by
  intro pins s σ H x vs v us Q I rx rv ⟨F, ad, st, d, ds, r, hx, hr, ok⟩
  obtain ⟨w, e, rfl, hy, ok⟩ := one_ok ok hr
  have ok : OkV X.K cls ew F ad H (joinV d e st) Q := ok
  unfold joinV at ok
  split at ok
  · cases hx
    obtain ⟨a, ns, rfl, ha, ok⟩ := onStrs_ok ok r hy
    obtain ⟨hz, ok⟩ := ite_ok (X := X) ok
    exact mt_join pins s σ H _ _ v us Q I rx rv ⟨_, _, ns, rfl, rfl, .inl (SqL.of ha), hz, ok.val r (.str _)⟩
  · exact ok.elim
theorem mt_islowerD {cls : Str → Option Addr} {ew : XK} : MtM X "str.islower" (fun x vs H Q => vs = [] ∧ rMt X.K cls ew .islower x vs H Q) := by
  intro pins s σ H x vs v us Q I rx rv ⟨e0, F, ad, st, d, ds, r, hx, hr, ok⟩
  subst e0
  cases hr
  have ok : OkV X.K cls ew F ad H (islowerV d st) Q := ok
  unfold islowerV at ok
  split at ok
  · cases hx
    exact mt_islower pins s σ H _ _ v us Q I rx rv ⟨_, rfl, rfl, trivial, ok.val r (.bool _)⟩
  · exact ok.elim
theorem mt_findD {cls : Str → Option Addr} {ew : XK} : MtM X "str.find" (rMt X.K cls ew .find) := by
  intro pins s σ H x vs v us Q I rx rv ⟨F, ad, st, d, ds, r, hx, hr, ok⟩
  obtain ⟨w, e, rfl, hy, ok⟩ := one_ok ok hr
  have ok : OkV X.K cls ew F ad H (findV d e st) Q := ok
  unfold findV at ok
  split at ok
  · cases hx; cases hy
    exact mt_find pins s σ H _ _ v us Q I rx rv ⟨_, _, rfl, rfl, ok.val r (.int _)⟩
  · exact ok.elim
theorem mt_countSD {cls : Str → Option Addr} {ew : XK} : MtM X "str.count" (rMt X.K cls ew .countS) := by
  intro pins s σ H x vs v us Q I rx rv ⟨F, ad, st, d, ds, r, hx, hr, ok⟩
  obtain ⟨w, e, rfl, hy, ok⟩ := one_ok ok hr
  have ok : OkV X.K cls ew F ad H (countSV d e st) Q := ok
  unfold countSV at ok
  split at ok
  · cases hx; cases hy
    exact L2.mt_count pins s σ H _ _ v us Q I rx rv ⟨_, _, rfl, rfl, ok.val r (.int _)⟩
  · exact ok.elim
theorem mt_endsD {cls : Str → Option Addr} {ew : XK} : MtM X "str.endswith" (rMt X.K cls ew .endswith) := by
  intro pins s σ H x vs v us Q I rx rv ⟨F, ad, st, d, ds, r, hx, hr, ok⟩
  obtain ⟨w, e, rfl, hy, ok⟩ := one_ok ok hr
  have ok : OkV X.K cls ew F ad H (endsV d e st) Q := ok
  unfold endsV at ok
  split at ok
  · cases hx; cases hy
    exact mt_endswith pins s σ H _ _ v us Q I rx rv ⟨_, _, rfl, rfl, ok.val r (.bool _)⟩
  · exact ok.elim
theorem mt_splitD {cls : Str → Option Addr} {ew : XK} : MtM X "str.split" (rMt X.K cls ew .split) := by
  intro pins s σ H x vs v us Q I rx rv ⟨F, ad, st, d, ds, r, hx, hr, ok⟩
  obtain ⟨w, e, rfl, hy, ok⟩ := one_ok ok hr
  have ok : OkV X.K cls ew F ad H (splitV d e st) Q := ok
  unfold splitV at ok
  split at ok
  · cases hx; cases hy
    obtain ⟨hz, ok⟩ := ite_ok (X := X) ok
    exact mt_split pins s σ H _ _ v us Q I rx rv ⟨_, _, rfl, rfl, by simpa using hz.1, hz.2, fun p hp => ok.list r (reps_strs _) hp⟩
  · exact ok.elim
theorem mt_rfindD {cls : Str → Option Addr} {ew : XK} : MtM X "str.rfind" (rMt X.K cls ew .rfind3) := by
  intro pins s σ H x vs v us Q I rx rv ⟨F, ad, st, d, ds, r, hx, hr, ok⟩
  have ok : OkV X.K cls ew F ad H (rf3V d ds st) Q := ok
  unfold rf3V at ok
  split at ok
  · cases hr with
    | cons h1 t1 =>
    cases t1 with
    | cons h2 t2 =>
    cases t2 with
    | cons h3 t3 =>
    cases t3
    unfold rfindV at ok
    split at ok
    · cases hx; cases h1; cases h2; cases h3
      exact mt_rfind4 pins s σ H _ _ v us Q I rx rv ⟨_, _, _, _, rfl, rfl, ok.val r (.int _)⟩
    · exact ok.elim
  · exact ok.elim
theorem sd_mt {m : MT} {o : E} {es : Es} {po : Expr} {y : Str} {apos cpos : Pos} {ps : List Expr} {n : Str} {z : Bool} (g : Mild C N X sc) (hm : mtName m = some (n, z)) (hn : n = y) (hcb : callB po = false) (ho : Sd C X ew o po) (hl : (apos.endLine == cpos.line) = true) (h30 : ps.length < 30) (hz : z = ps.isEmpty) (ha : PA X ps (tXs C X ew es)) (ns : nostar ps = true) (hnil : ps = [] → es = .nil) :
    Sd C X ew (.mt m o es) (.Call (.Attribute po y apos) ps [] cpos) := by
  subst hn
  have go : ∀ {id : String} {p0 : Expr} {pr : List Expr}, ps = p0 :: pr → (∀ d st, mtIs m d st = true → (listOf st d).isSome = true) → Slot "list" n id → typeOf (.builtin id) = pure (.type "method_descriptor") → (∀ cls ew, MtM X id (rMt X.K cls ew m)) → PE X (.Call (.Attribute po n apos) ps [] cpos) (tX C X ew (.mt m o es)) := fun {id p0 pr} e hI hS hty hM => by
    subst e
    have ns2 := ns
    unfold nostar at ns
    simp only [Bool.and_eq_true, Bool.not_eq_true'] at ns
    refine (pe_bm PySem.F.plainAttrs_list hS hty (r := fun x xs H Q => ∃ σ', rMt X.K C.cls (ew σ') m x xs H Q) (fun pins s σ H x xs v us Q I rx rv ⟨σ', q⟩ => hM _ _ pins s σ H x xs v us Q I rx rv q) ho.ex ha (att_base hcb) ?_ hl (star_each ns.1) (back_any ns.2)).imp fun σ H Q q => key_mt hI q
    rw [back_all ns2]
    simp only [Bool.true_and]
    show (([] : List (Option Str × Sem Value)).all (fun x => x.1.isSome) && decide ((p0 :: pr).length + 0 + 0 < 30)) = true
    simpa using h30
  have go0 : ∀ {id : String}, ps = [] → (∀ d st, mtIs m d st = true → (listOf st d).isSome = true) → Slot "list" n id → typeOf (.builtin id) = pure (.type "method_descriptor") → (∀ cls ew, MtM X id (fun x vs H Q => vs = [] ∧ rMt X.K cls ew m x vs H Q)) → PE X (.Call (.Attribute po n apos) ps [] cpos) (tX C X ew (.mt m o es)) := fun {id} e hI hS hty hM => by
    subst e
    have hes := hnil rfl
    subst hes
    refine (pe_bm0 PySem.F.plainAttrs_list hS hty (r := fun x xs H Q => ∃ σ', xs = [] ∧ rMt X.K C.cls (ew σ') m x xs H Q) (fun pins s σ H x xs v us Q I rx rv ⟨σ', q⟩ => hM _ _ pins s σ H x xs v us Q I rx rv q) ho.ex (att_base hcb) hl).imp fun σ H Q q => ?_
    refine tX_mono (key_mt hI q) fun x H1 ⟨h1, F, ad, env, st, r, en, ok⟩ => ⟨h1, ?_⟩
    unfold evXs at ok
    obtain ⟨σ', q⟩ := ok F ad _ [] (Step.refl _ _ _) r .nil
    exact ⟨σ', rfl, q⟩
  have goS : ∀ {id : String} {p0 : Expr} {pr : List Expr}, ps = p0 :: pr → (∀ d st, mtIs m d st = true → ∃ z, d = .str z) → Slot "str" n id → typeOf (.builtin id) = pure (.type "method_descriptor") → (∀ cls ew, MtM X id (rMt X.K cls ew m)) → PE X (.Call (.Attribute po n apos) ps [] cpos) (tX C X ew (.mt m o es)) := fun {id p0 pr} e hI hS hty hM => by
    subst e
    have ns2 := ns
    unfold nostar at ns
    simp only [Bool.and_eq_true, Bool.not_eq_true'] at ns
    refine (pe_bm PySem.F.plainAttrs_str hS hty (r := fun x xs H Q => ∃ σ', rMt X.K C.cls (ew σ') m x xs H Q) (fun pins s σ H x xs v us Q I rx rv ⟨σ', q⟩ => hM _ _ pins s σ H x xs v us Q I rx rv q) ho.ex ha (att_base hcb) ?_ hl (star_each ns.1) (back_any ns.2)).imp fun σ H Q q => key_mtS hI q
    rw [back_all ns2]
    simp only [Bool.true_and]
    show (([] : List (Option Str × Sem Value)).all (fun x => x.1.isSome) && decide ((p0 :: pr).length + 0 + 0 < 30)) = true
    simpa using h30
  have goS0 : ∀ {id : String}, ps = [] → (∀ d st, mtIs m d st = true → ∃ z, d = .str z) → Slot "str" n id → typeOf (.builtin id) = pure (.type "method_descriptor") → (∀ cls ew, MtM X id (fun x vs H Q => vs = [] ∧ rMt X.K cls ew m x vs H Q)) → PE X (.Call (.Attribute po n apos) ps [] cpos) (tX C X ew (.mt m o es)) := fun {id} e hI hS hty hM => by
    subst e
    have hes := hnil rfl
    subst hes
    refine (pe_bm0 PySem.F.plainAttrs_str hS hty (r := fun x xs H Q => ∃ σ', xs = [] ∧ rMt X.K C.cls (ew σ') m x xs H Q) (fun pins s σ H x xs v us Q I rx rv ⟨σ', q⟩ => hM _ _ pins s σ H x xs v us Q I rx rv q) ho.ex (att_base hcb) hl).imp fun σ H Q q => ?_
    refine tX_mono (key_mtS hI q) fun x H1 ⟨h1, F, ad, env, st, r, en, ok⟩ => ⟨h1, ?_⟩
    unfold evXs at ok
    obtain ⟨σ', q⟩ := ok F ad _ [] (Step.refl _ _ _) r .nil
    exact ⟨σ', rfl, q⟩
  have two : (z = false → ∃ p0 pr, ps = p0 :: pr) ∧ (z = true → ps = []) := by
    subst hz
    cases ps with
    | nil => exact ⟨fun z => (nomatch z), fun _ => rfl⟩
    | cons p0 pr => exact ⟨fun _ => ⟨_, _, rfl⟩, fun z => (nomatch z)⟩
  refine Sd.plain ?_ rfl
  cases m with
  | append =>
    cases hm
    obtain ⟨p0, pr, e⟩ := two.1 rfl
    exact go e (fun _ _ h => h) PySem.F.slot_list_append PySem.F.type_list_append fun cls ew => mt_appendD
  | extend =>
    cases hm
    obtain ⟨p0, pr, e⟩ := two.1 rfl
    exact go e (fun _ _ h => h) PySem.F.slot_list_extend PySem.F.type_list_extend fun cls ew => mt_extendD
  | pop0 =>
    cases hm
    exact go0 (two.2 rfl) (fun _ _ h => h) PySem.F.slot_list_pop PySem.F.type_list_pop fun cls ew => mt_pop0D
  | popAt =>
    cases hm
    obtain ⟨p0, pr, e⟩ := two.1 rfl
    exact go e (fun _ _ h => h) PySem.F.slot_list_pop PySem.F.type_list_pop fun cls ew => mt_popAtD
  | insert =>
    cases hm
    obtain ⟨p0, pr, e⟩ := two.1 rfl
    exact go e (fun _ _ h => h) PySem.F.slot_list_insert PySem.F.type_list_insert fun cls ew => mt_insertD
  | remove =>
    cases hm
    obtain ⟨p0, pr, e⟩ := two.1 rfl
    exact go e (fun _ _ h => h) PySem.F.slot_list_remove PySem.F.type_list_remove fun cls ew => mt_removeD
  | reverse =>
    cases hm
    exact go0 (two.2 rfl) (fun _ _ h => h) PySem.F.slot_list_reverse PySem.F.type_list_reverse fun cls ew => fun pins s σ H x xs v us Q I rx rv ⟨_, q⟩ => mt_reverseD pins s σ H x xs v us Q I rx rv q
  | clear =>
    cases hm
    exact go0 (two.2 rfl) (fun _ _ h => h) PySem.F.slot_list_clear PySem.F.type_list_clear fun cls ew => fun pins s σ H x xs v us Q I rx rv ⟨_, q⟩ => mt_clearD pins s σ H x xs v us Q I rx rv q
  | index =>
    cases hm
    obtain ⟨p0, pr, e⟩ := two.1 rfl
    exact go e (fun _ _ h => h) PySem.F.slot_list_index PySem.F.type_list_index fun cls ew => mt_indexD' g.un
  | count =>
    cases hm
    obtain ⟨p0, pr, e⟩ := two.1 rfl
    exact go e (fun _ _ h => h) PySem.F.slot_list_count PySem.F.type_list_count fun cls ew => mt_countD
  | sindex =>
    cases hm
    obtain ⟨p0, pr, e⟩ := two.1 rfl
    exact goS e (fun _ _ h => is_str (fun _ _ => rfl) h) PySem.F.slot_str_index PySem.F.type_str_index fun cls ew => mt_sindexD
  | join =>
    cases hm
    obtain ⟨p0, pr, e⟩ := two.1 rfl
    exact goS e (fun _ _ h => is_str (fun _ _ => rfl) h) PySem.F.slot_str_join PySem.F.type_str_join fun cls ew => mt_joinD
  | split =>
    cases hm
    obtain ⟨p0, pr, e⟩ := two.1 rfl
    exact goS e (fun _ _ h => is_str (fun _ _ => rfl) h) PySem.F.slot_str_split PySem.F.type_str_split fun cls ew => mt_splitD
  | find =>
    cases hm
    obtain ⟨p0, pr, e⟩ := two.1 rfl
    exact goS e (fun _ _ h => is_str (fun _ _ => rfl) h) PySem.F.slot_str_find PySem.F.type_str_find fun cls ew => mt_findD
  | countS =>
    cases hm
    obtain ⟨p0, pr, e⟩ := two.1 rfl
    exact goS e (fun _ _ h => is_str (fun _ _ => rfl) h) PySem.F.slot_str_count PySem.F.type_str_count fun cls ew => mt_countSD
  | endswith =>
    cases hm
    obtain ⟨p0, pr, e⟩ := two.1 rfl
    exact goS e (fun _ _ h => is_str (fun _ _ => rfl) h) PySem.F.slot_str_endswith PySem.F.type_str_endswith fun cls ew => mt_endsD
  | rfind3 =>
    cases hm
    obtain ⟨p0, pr, e⟩ := two.1 rfl
    exact goS e (fun _ _ h => is_str (fun _ _ => rfl) h) PySem.F.slot_str_rfind PySem.F.type_str_rfind fun cls ew => mt_rfindD
  | islower =>
    cases hm
    exact goS0 (two.2 rfl) (fun _ _ h => is_str (fun _ _ => rfl) h) PySem.F.slot_str_islower PySem.F.type_str_islower fun cls ew => mt_islowerD
  | _ => cases hm
end
end MP

/-! What is walked; comprehensions. -/
namespace MP
open PySem PySem.Spec PyProof.Rows L2

section
variable {K : PySem.W.Frag} {cls : Str → Option Addr} {ew : XK} {F F1 : Hp} {ad ad1 : List Addr} {H H1 : Hp} {st st1 : Sto} {Q : VK}
theorem OkI.bindF {r : R Val} {f : Val → Sto → R (D × List D)} {QI : MP.D → List MP.D → Hp → List Addr → Hp → Prop} (h : OkI K cls ew F ad H (r.bind f) QI) {Q' : VK}
    (k : ∀ x st' F' ad' H' v, Step F ad H F' ad' H' → RelS K F' ad' st' H' → Rep K F' ad' v x.d → OkI K cls ew F' ad' H' (f x st') QI → Q' v H') : OkV K cls ew F ad H r Q' := by
  cases r with
  | ok x st' =>
    intro F' ad' H' v s r q
    obtain ⟨F'', s', r', q'⟩ := freezeX s r q
    refine k x st' F'' ad' H' v s' r' q' ?_
    have h' : OkI K cls ew F ad H (f x st') QI := h
    cases e : f x st' with
    | ok y st2 => rw [e] at h'; exact fun F' ad' H' s2 r2 => h' F' ad' H' (s'.trans s2) r2
    | err c st2 => rw [e] at h'; exact fun F' ad' H' a s2 r2 ec => h' F' ad' H' a (s'.trans s2) r2 ec
    | stuck => rw [e] at h'; exact h'
  | err c st' => exact h
  | stuck => exact h
theorem OkV.bindI {r : R (D × List D)} {f : D × List D → Sto → R Val} {QI : MP.D → List MP.D → Hp → List Addr → Hp → Prop} (h : OkV K cls ew F ad H (r.bind f) Q)
    (k : ∀ x st' F' ad' H', Step F ad H F' ad' H' → RelS K F' ad' st' H' → OkV K cls ew F' ad' H' (f x st') Q → QI x.1 x.2 F' ad' H') : OkI K cls ew F ad H r QI := by
  cases r with
  | ok x st' => exact fun F' ad' H' s r => k x st' F' ad' H' s r (OkV.step s h)
  | err c st' => exact h
  | stuck => exact h
theorem RelS.aside {p : Addr} {o : HO} (r : RelS K F ad st H) (hf : F p = none) (ha : p ∉ ad) : RelS K F ad st (upd H p o) where
  sub := fun a u h => by
    have : a ≠ p := fun e => by rw [e, hf] at h; cases h
    rw [upd_ne this]; exact r.sub a u h
  nd := r.nd
  out := r.out
  len := r.len
  live := fun a h => by
    have : a ≠ p := fun e => ha (e ▸ h)
    rw [upd_ne this]; exact r.live a h
  cell := fun n c a h1 h2 => by
    have hne : a ≠ p := fun e => ha (e ▸ List.mem_of_getElem? h2)
    cases c with
    | lst xs => obtain ⟨vs, g1, g2⟩ := r.cell n _ a h1 h2; exact ⟨vs, by rw [upd_ne hne]; exact g1, g2⟩
    | dk ks xs => obtain ⟨vs, g1, g2⟩ := r.cell n _ a h1 h2; exact ⟨vs, by rw [upd_ne hne]; exact g1, g2⟩
    | dt ks xs => obtain ⟨vs, g1, g2⟩ := r.cell n _ a h1 h2; exact ⟨vs, by rw [upd_ne hne]; exact g1, g2⟩
    | dead => obtain ⟨vs, g1, g2⟩ := r.cell n _ a h1 h2; exact ⟨vs, g1, by rw [upd_ne hne]; exact g2⟩
theorem Step.aside {p : Addr} {o : HO} (s : Step F ad H F1 ad1 H1) (h0 : H p = none) : Step F ad H F1 ad1 (upd H1 p o) where
  le := s.le
  pre := s.pre
  newF := s.newF
  newA := s.newA
  keep := fun a u h1 h2 => by
    have : a ≠ p := fun e => by rw [e, h0] at h2; cases h2
    rw [upd_ne this]; exact s.keep a u h1 h2
  dom := fun a h => by
    by_cases e : a = p
    · rw [e]; exact h0
    · rw [upd_ne e] at h; exact s.dom a h
end

section
variable {C : Con} {N : List Str} {X : Cx} {sc : Scope} {ow : Str → Bool} {ew : L2.St → XK}
theorem pi_seqD {tg : Expr} {e : E} {pe : Expr} (he : Sd C X ew e pe) : PI X tg pe (tI C X ew (.seq e)) := (pi_seq he.ex).imp fun σ H R ⟨F, ad, env, st, r, en, ok⟩ => by
  unfold evI at ok
  refine ⟨F, ad, env, st, r, en, ok.bindF fun x st1 F1 ad1 H1 v s1 r1 x1 ok1 => ?_⟩
  split at ok1
  · rename_i ds e
    have ok2 := ok1 F1 ad1 H1 (Step.refl _ _ _) r1
    rcases items_jok r1 x1 e with ⟨a, ws, e1, e2, e3⟩ | ⟨a, ws, e1, e2, e3⟩ | ⟨z, e1, e3⟩
    · exact .inl ⟨a, ws, e1, e2, ok2 _ e3⟩
    · exact .inr (.inl ⟨a, ws, e1, e2, ok2 _ e3⟩)
    · exact .inr (.inr ⟨z, e1, ok2 _ e3⟩)
  · exact ok1.elim
theorem pi_r1D {tg : Expr} {a : E} {pa : Expr} {p pos : Pos} (g : Good C N X sc ow ew) (hs : glB sc "range" = true) (ha : Sd C X ew a pa) (ns : starB pa = false) : PI X tg (.Call (.Name "range" p) [pa] [] pos) (tI C X ew (.range1 a)) := by
  refine (pi_range1 (gl_of g.sc hs) (g.facts.blt "range" (by decide)) (pa_cons ha.ex pa_nil (star_each ns)) (star_each ns)).imp fun σ H R ⟨F, ad, env, st, r, en, ok⟩ => ?_
  unfold evI at ok
  show tX C X ew a σ H fun x H1 => ∃ j : Int, [x] = [V.int j] ∧ -(2 ^ 62) ≤ j ∧ j < 2 ^ 62 ∧ R (Itr 0 j.toNat) H1
  refine ⟨F, ad, env, st, r, en, ok.bindF fun x st1 F1 ad1 H1 v s1 r1 x1 ok1 => ?_⟩
  split at ok1
  · rename_i n
    cases x1
    split at ok1
    · rename_i hz
      have hsz : sizeLine = 16777216 := sizeLine_eq
      have ok2 := ok1 F1 ad1 H1 (Step.refl _ _ _) r1
      exact ⟨n, rfl, hz.2, by omega, ok2 _ jok_range⟩
    · exact ok1.elim
  · exact ok1.elim
theorem pi_r2D {tg : Expr} {a b : E} {pa pb : Expr} {p pos : Pos} (g : Good C N X sc ow ew) (hs : glB sc "range" = true) (ha : Sd C X ew a pa) (hb : Sd C X ew b pb) (ns : starB pa = false) (ns2 : starB pb = false) : PI X tg (.Call (.Name "range" p) [pa, pb] [] pos) (tI C X ew (.range2 a b)) := by
  refine (pi_range2 (gl_of g.sc hs) (g.facts.blt "range" (by decide)) (pa_cons ha.ex (pa_cons hb.ex pa_nil (star_each ns2)) (star_each ns)) (by rw [star_each ns, star_each ns2]; rfl) (by rw [star_each ns2]; rfl)).imp fun σ H R ⟨F, ad, env, st, r, en, ok⟩ => ?_
  unfold evI at ok
  show tX C X ew a σ H fun x H1 => tX C X ew b σ H1 fun y H2 => ∃ i j : Int, [x, y] = [V.int i, V.int j] ∧ (-(2 ^ 62) ≤ i ∧ i < 2 ^ 62 ∧ -(2 ^ 62) ≤ j ∧ j < 2 ^ 62) ∧ R (Itr i (j - i).toNat) H2
  refine ⟨F, ad, env, st, r, en, ok.bindF fun x st1 F1 ad1 H1 v s1 r1 x1 ok1 => ?_⟩
  refine ⟨F1, ad1, env, st1, r1, en.step s1, ok1.bindF fun y st2 F2 ad2 H2 w s2 r2 y2 ok2 => ?_⟩
  have x2 := x1.step s2
  split at ok2
  · rename_i i j
    cases x2
    cases y2
    split at ok2
    · rename_i hz
      have ok3 := ok2 F2 ad2 H2 (Step.refl _ _ _) r2
      exact ⟨i, j, rfl, hz.2, ok3 _ jok_range⟩
    · exact ok2.elim
  · exact ok2.elim
theorem pi_zipD {elts : List Expr} {kk : Nat} {tpos : Pos} {a b : E} {pa pb : Expr} {p pos : Pos} (g : Good C N X sc ow ew) (hs : glB sc "zip" = true) (ha : Sd C X ew a pa) (hb : Sd C X ew b pb) (ns : starB pa = false) (ns2 : starB pb = false) : PI X (.Tuple elts kk tpos) (.Call (.Name "zip" p) [pa, pb] [] pos) (tI C X ew (.zip a b)) := by
  refine (pi_zip (gl_of g.sc hs) (g.facts.blt "zip" (by decide)) (pa_cons ha.ex (pa_cons hb.ex pa_nil (star_each ns2)) (star_each ns)) (star_each ns) (by rw [star_each ns2]; rfl)).imp fun σ H R ⟨F, ad, env, st, r, en, ok⟩ => ?_
  unfold evI at ok
  show tX C X ew a σ H fun x H1 => tX C X ew b σ H1 fun y H2 => ∃ a b xs ys, [x, y] = [V.ref a, V.ref b] ∧ SqL X.K H2 a xs ∧ SqL X.K H2 b ys ∧ R (Itz X.K a b) H2
  refine ⟨F, ad, env, st, r, en, ok.bindF fun x st1 F1 ad1 H1 v s1 r1 x1 ok1 => ?_⟩
  refine ⟨F1, ad1, env, st1, r1, en.step s1, ok1.bindF fun y st2 F2 ad2 H2 w s2 r2 y2 ok2 => ?_⟩
  have x2 := x1.step s2
  generalize x.d = xd at *
  generalize y.d = yd at *
  split at ok2
  · cases x2 with
    | list h1 h2 =>
      cases y2 with
      | list h3 h4 =>
        have ok3 := ok2 F2 ad2 H2 (Step.refl _ _ _) r2
        exact ⟨_, _, _, _, rfl, SqL.of (r2.sub _ _ h1), SqL.of (r2.sub _ _ h3), ok3 _ (jok_zip h1 h2 h3 h4)⟩
  · exact ok2.elim

/-! targets -/
theorem loc_of {sc : Scope} {x : Str} (g : Good C N X sc ow ew) (h : locB sc ow x = true) : Loc X.env.scope x ∧ (X.fn x = true ∨ X.env.scope.names.lookup x = some .local) := by
  unfold locB at h
  rw [g.sc]
  split at h
  · exact ⟨.inl (by assumption), .inr (by assumption)⟩
  · exact ⟨.inr (by assumption), .inl (g.ow x h)⟩
  · cases h
theorem pgs_of (g : Good C N X sc ow ew) : ∀ {is : List Nat} {ps : List Expr}, chkNames N sc ow is ps = true → PGs X ps (gNames is) ∧ (assignEach ps X.env).length = is.length ∧ (assignEach ps X.env).findIdx? (·.1) = none
  | [], [], _ => ⟨pgs_nil, rfl, rfl⟩
  | [], _ :: _, h => by simp [chkNames] at h
  | _ :: _, [], h => by simp [chkNames] at h
  | i :: is, p :: ps, h => by
    unfold chkNames at h
    split at h
    · rename_i e; cases e
    · rename_i i' is' x pos ps' e1 e2
      cases e1; cases e2
      simp only [Bool.and_eq_true, beq_iff_eq] at h
      obtain ⟨⟨h1, h2⟩, h3⟩ := h
      obtain ⟨g1, g2, g3⟩ := pgs_of g h3
      obtain ⟨l1, l2⟩ := loc_of g h2
      have e : assignEach (.Name x pos :: ps) X.env = (false, assign (.Name x pos) X.env) :: assignEach ps X.env := rfl
      refine ⟨pgs_cons (pg_name (by rw [g.hN]; exact g.nd) (by rw [g.hN]; exact h1) l1 l2) g1 rfl, by rw [e, List.length_cons, g2]; rfl, ?_⟩
      rw [e, List.findIdx?_cons, g3]; rfl
    · cases h
theorem pg_of (g : Good C N X sc ow ew) {tg : Tg} {pe : Expr} (h : chkTg N sc ow tg pe = true) : PG X pe (tT X.K tg) := by
  unfold chkTg at h
  split at h
  · split at h
    · simp only [Bool.and_eq_true, beq_iff_eq] at h
      obtain ⟨l1, l2⟩ := loc_of g h.2
      exact pg_name (by rw [g.hN]; exact g.nd) (by rw [g.hN]; exact h.1) l1 l2
    · cases h
  · split at h
    · obtain ⟨g1, g2, g3⟩ := pgs_of g h
      exact pg_tup g.calm g1 g2 g3
    · cases h
theorem ownP_snd (N : List Str) (own : List Nat) : (ownP N own).map (·.2) = own := by
  unfold ownP
  rw [List.map_map]
  have : ((fun x : Str × Nat => x.2) ∘ fun i => ((N[i]?).getD "", i)) = id := rfl
  rw [this, List.map_id]
abbrev E9 : L2.St → XK := fun _ => E0
theorem Good.blk (g : Good C N X sc ow ew) (s : Shared) (H : Hp) (scope : Scope) (cl : List (Str × Addr)) (Cc : Addr) (fp : List Addr) : Good C N (X.blk s H scope (compEnvC scope cl Cc X.env) fp) (relS scope sc) (owB scope) E9 where
  hN := g.hN
  nd := g.nd
  sc := by rw [← g.sc]; rfl
  calm := g.calm
  room := g.room
  pass := fun σ => fun _ _ _ _ _ _ h => by
    obtain ⟨_, _, _, _, _, _, _, _, _, _, _, _, z⟩ := h
    exact z.elim
  ow := fun x h => h
  facts := g.facts
  gd := g.gd
/-- the test of a comprehension -/
def tC9 (C : Con) (X : Cx) (cond : E) : TT := fun σ H Q => tX C X E9 cond σ H fun x H1 => ∃ c, x = .bl c ∧ Q c H1
theorem comp_key {elt cond : E} {tg : Tg} {it : It} {own : List Nat} (hsub : ∀ i ∈ tgIx tg, i ∈ own) {σ : L2.St} {H : Hp} {Q : VK} (h : tX C X ew (.comp elt tg it cond own) σ H Q) :
    tLc (tI C X ew it) (tT X.K tg) (tC9 C X cond) (tX C X E9 elt) own σ H Q := by
  obtain ⟨F, ad, env, st, r, en, ok⟩ := h
  unfold evX at ok
  refine ⟨F, ad, env, st, r, en, ok.bindI fun x st1 F1 ad1 H1 s1 r1 ok1 => ?_⟩
  intro J hJ D hD
  obtain ⟨src, ds⟩ := x
  dsimp only at ok1 hJ ⊢
  have en1 := en.step s1
  clear ok r en
  by_cases hst : stands src ds st1 = true
  case neg =>
    rw [if_pos (by simpa using hst)] at ok1; exact ok1.elim
  rw [if_neg (by simpa using hst)] at ok1
  generalize hf : (fun d st => match bindT (wipeE env own) tg d with
        | some env' => (evX (run C.T C.k) cond env' st).bind fun c st => (match c with
          | .v (.bool true) => (evX (run C.T C.k) elt env' st).bind fun y st => .ok (some y.d) st
          | .v (.bool false) => .ok Option.none st
          | _ => .stuck)
        | Option.none => (.stuck : R (Option MP.D))) = f at ok1
  cases hl : loopC (stands src ds) f ds st1 with
  | err c st2 => rw [hl] at ok1; exact ok1.elim
  | stuck => rw [hl] at ok1; exact ok1.elim
  | ok ys st2 =>
  rw [hl] at ok1
  obtain ⟨hlen, ok1⟩ := ite_ok (X := X) ok1
  have hFD : F1 D = none := by
    cases e : F1 D with
    | none => rfl
    | some o => rw [r1.sub D o e] at hD; cases hD
  have hAD : D ∉ ad1 := fun hm => r1.live D hm hD
  let Wc : Nat → Hp → Prop := fun i H => i ≤ ds.length ∧ ∃ F' ad' st' acc done rest, Step F1 ad1 H1 F' ad' H ∧ RelS X.K F' ad' st' H ∧ H D = some (.lst acc) ∧ F' D = none ∧ D ∉ ad' ∧ Reps X.K F' ad' acc done ∧ stands src ds st' = true ∧ loopC (stands src ds) f (ds.drop i) st' = .ok rest st2 ∧ done ++ rest = ys
  refine ⟨fun i m H => m = ds.length - i ∧ Wc i H, ⟨ds.length, by simp, Nat.zero_le _, F1, ad1, st1, [], [], ys, Step.beside hD, r1.beside hD, upd_same, hFD, hAD, .nil, hst, by simpa using hl, rfl⟩, ?_⟩
  rintro i m H2 ⟨rfl, hi, F2, ad2, st', acc, done, rest, s2, r2, hacc, hF2, hA2, hr2, hst2, hl2, hys⟩
  by_cases hlt : i < ds.length
  · obtain ⟨jgo, jyld⟩ := hJ.go i F2 ad2 st' H2 s2 r2 hst2 hlt
    refine .inr ⟨jgo, Wc (i + 1), fun H' w => ⟨ds.length - (i + 1), by omega, rfl, w⟩, fun x H' hy => ?_⟩
    obtain ⟨F3, s3, r3, d, hd, x3⟩ := jyld x H' hy
    have hdrop : ds.drop i = d :: ds.drop (i + 1) := by
      rw [List.drop_eq_getElem_cons hlt]
      congr 1
      rw [List.getElem?_eq_getElem hlt] at hd
      exact Option.some.inj hd
    rw [hdrop] at hl2
    unfold loopC at hl2
    cases hfd : f d st' with
    | err c q => rw [hfd] at hl2; cases hl2
    | stuck => rw [hfd] at hl2; cases hl2
    | ok ro st4 =>
    rw [hfd] at hl2
    dsimp only at hl2
    by_cases hst4 : stands src ds st4 = true
    case neg =>
      rw [if_neg hst4] at hl2; cases hl2
    rw [if_pos hst4] at hl2
    cases hl4 : loopC (stands src ds) f (ds.drop (i + 1)) st4 with
    | err c q => rw [hl4] at hl2; cases hl2
    | stuck => rw [hl4] at hl2; cases hl2
    | ok rest4 st5 =>
    rw [hl4] at hl2
    dsimp only at hl2
    rw [← hf] at hfd
    dsimp only at hfd
    cases hb : bindT (wipeE env own) tg d with
    | none => rw [hb] at hfd; cases hfd
    | some env' =>
    rw [hb] at hfd
    dsimp only at hfd
    have en3 : EnvRel X.K F3 ad2 (wipeE env own) (wipe σ own) := ((en1.step s2).step s3).wipe2 own
    refine tT_ok r3 x3 en3 hb fun σ2 en4 hw => ⟨by rw [hw own hsub, wipe_wipe], ?_⟩
    refine ⟨F3, ad2, env', st', r3, en4, ?_⟩
    cases hc : evX (run C.T C.k) cond env' st' with
    | err c q => rw [hc] at hfd; cases hfd
    | stuck => rw [hc] at hfd; cases hfd
    | ok cv st6 =>
    rw [hc] at hfd
    rw [R.bind_ok] at hfd
    intro F6 ad6 H6 v6 s6 r6 x6
    -- what is common
    have hH6 : ∀ {F7 ad7 H7}, Step F2 ad2 H2 F7 ad7 H7 → H7 D = some (.lst acc) ∧ F7 D = none ∧ D ∉ ad7 := fun {F7 ad7 H7} sS => by
      refine ⟨sS.keep D _ hA2 hacc, ?_, fun hm => ?_⟩
      · cases e : F7 D with
        | none => rfl
        | some o =>
          rcases (sS.newF D hF2 (by rw [e]; simp)).imp_right fun z => z.resolve_left hA2 with z | ⟨xs, z⟩
          · rw [hacc] at z; cases z
          · rw [hacc] at z; cases z
      · have z := sS.newA D hm hA2
        rw [hacc] at z; cases z
    split at hfd
    · cases x6
      refine ⟨true, rfl, ?_⟩
      refine iteT ?_
      refine ⟨F6, ad6, env', st6, r6, en4.step s6, ?_⟩
      cases he : evX (run C.T C.k) elt env' st6 with
      | err c q => rw [he] at hfd; cases hfd
      | stuck => rw [he] at hfd; cases hfd
      | ok y st7 =>
      rw [he] at hfd
      rw [R.bind_ok] at hfd
      cases hfd
      cases hl2
      intro F7 ad7 H7 v7 s7 r7 x7
      obtain ⟨F8, s8, r8, x8⟩ := freezeX s7 r7 x7
      have sS : Step F2 ad2 H2 F8 ad7 H7 := s3.trans (s6.trans s8)
      obtain ⟨k1, k2, k3⟩ := hH6 sS
      refine ⟨acc, k1, ?_, ?_⟩
      · have z := hr2.length
        have z2 := congrArg List.length hys
        simp only [List.length_append, List.length_cons] at z2
        omega
      · refine ⟨hlt, F8, ad7, st4, acc ++ [v7], done ++ [y.d], rest4, (s2.trans sS).aside hD, r8.aside k2 k3, upd_same, k2, k3, (hr2.step sS).append (Reps.one x8), hst4, hl4, ?_⟩
        rw [← hys]
        simp
    · cases x6
      refine ⟨false, rfl, ?_⟩
      refine iteF ?_
      cases hfd
      cases hl2
      have sS : Step F2 ad2 H2 F6 ad6 H6 := s3.trans s6
      obtain ⟨k1, k2, k3⟩ := hH6 sS
      exact ⟨hlt, F6, ad6, st4, acc, done, rest4, s2.trans sS, r6, k1, k2, k3, hr2.step sS, hst4, hl4, hys⟩
    · cases hfd
  · have e : i = ds.length := by omega
    subst e
    refine .inl ⟨hJ.stop _ F2 ad2 st' H2 s2 r2 hst2 (Nat.le_refl _), ?_⟩
    rw [List.drop_length] at hl2
    unfold loopC at hl2
    cases hl2
    rw [List.append_nil] at hys
    subst hys
    exact ok1 F2 ad2 H2 _ s2 r2 ⟨D, acc, rfl, hD, hacc, hF2, hA2, hr2⟩
end
end MP

/-! All expressions that the check lets by are sound. -/
namespace MP
open PySem PySem.Spec PyProof.Rows L2

section
variable {C : Con} {N : List Str} {X : Cx} {sc : Scope} {ow : Str → Bool} {ew : L2.St → XK}
theorem cell_key {e : E} {σ : L2.St} {H : Hp} {Q : VK} (h : tX C X ew (.cell e) σ H Q) : tX C X ew e σ H Q := by
  obtain ⟨F, ad, env, st, r, en, ok⟩ := h
  unfold evX at ok
  refine ⟨F, ad, env, st, r, en, ok.bindX fun x st1 F1 ad1 H1 v s1 r1 x1 ok1 => ?_⟩
  split at ok1
  · obtain ⟨p, h1, h2, h3⟩ := cellX s1 r1 x1
    exact ok1 _ _ _ _ h1 h2 h3
  · exact ok1.elim
theorem sd_cell {e : E} {pe : Expr} (h : Sd C X ew e pe) : Sd C X ew (.cell e) pe :=
  ⟨h.ex.imp fun σ H Q q => cell_key q, fun t => (h.tst t).imp fun σ H Q q => cell_key q, fun t => (h.who t).imp fun σ H Q q => cell_key q⟩
theorem nat_all {l own : List Nat} (h : l.all (fun i => own.contains i) = true) : ∀ i ∈ l, i ∈ own := fun i hi => by
  have := List.all_eq_true.mp h i hi
  simpa using this
/-- the parts of a comprehension -/
structure CompOk (C : Con) (N : List Str) (X : Cx) (sc : Scope) (ew : L2.St → XK) (elt cond : E) (tg : Tg) (it : It) (own : List Nat) (pelt ptg pit : Expr) (pifs : List Expr) (scope : Scope) : Prop where
  blk : BlkOk X.N X.env.scope scope (ownP N own)
  itp : PI X ptg pit (tI C X ew it)
  tgp : ∀ (s : Shared) (H : Hp) (Cc : Addr) (cl : List (Str × Addr)) (fp : List Addr), PG (X.blk s H scope (compEnvC scope cl Cc X.env) fp) ptg (tT X.K tg)
  tt : ∀ (s : Shared) (H : Hp) (Cc : Addr) (cl : List (Str × Addr)) (fp : List Addr), PTs (X.blk s H scope (compEnvC scope cl Cc X.env) fp) pifs (tC9 C X cond)
  te : ∀ (s : Shared) (H : Hp) (Cc : Addr) (cl : List (Str × Addr)) (fp : List Addr), PE (X.blk s H scope (compEnvC scope cl Cc X.env) fp) pelt (tX C X E9 elt)
  ns : ∀ x, foldedSetIterable pit X.env x = pure x
  sub : ∀ i ∈ tgIx tg, i ∈ own
theorem sd_comp {elt cond : E} {tg : Tg} {it : It} {own : List Nat} {pelt ptg pit : Expr} {pifs : List Expr} {scope : Scope} {pos : Pos} (g : Good C N X sc ow ew) (h : CompOk C N X sc ew elt cond tg it own pelt ptg pit pifs scope) :
    Sd C X ew (.comp elt tg it cond own) (.ListComp pelt [⟨ptg, pit, pifs, 0⟩] scope pos) := by
  refine Sd.plain ((pe_lc g.calm (by rw [g.hN]; exact g.nd) h.itp h.blk h.tgp h.tt h.te h.ns).imp fun σ H Q q => ?_) rfl
  rw [ownP_snd]
  exact comp_key h.sub q
mutual
theorem sndE : ∀ (e : E) {X : Cx} {sc : Scope} {ow : Str → Bool} {ew : L2.St → XK} {pe : Expr}, chkE C.T C.G N sc ow e pe = true → Good C N X sc ow ew → Sd C X ew e pe
  | .var i, _, _, _, _, _, h, g => sd_var g.mild h
  | .lit d, _, _, _, _, _, h, g => sd_lit (by unfold chkE at h; exact h)
  | .glob x d, _, _, _, _, _, h, g => sd_glob g h
  | .bin o a b, _, _, _, _, _, h, g => by
    unfold chkE at h
    split at h
    · simp only [Bool.and_eq_true, decide_eq_true_eq] at h
      obtain ⟨⟨h1, h2⟩, h3⟩ := h
      subst h1
      exact sd_bin (sndE a h2 g) (sndE b h3 g)
    · cases h
  | .cmp o a b, _, _, _, _, _, h, g => by
    unfold chkE at h
    split at h
    · simp only [Bool.and_eq_true, decide_eq_true_eq, Bool.not_eq_true'] at h
      obtain ⟨⟨⟨h1, h2⟩, h3⟩, h4⟩ := h
      subst h1
      exact sd_cmp g.mild (sndE a h3 g) (sndE b h4 g) h2
    · cases h
  | .chain o p a b c, _, _, _, _, _, h, g => by
    unfold chkE at h
    split at h
    · simp only [Bool.and_eq_true, decide_eq_true_eq, Bool.not_eq_true'] at h
      obtain ⟨⟨⟨⟨⟨h1, h2⟩, h3⟩, h4⟩, h5⟩, h6⟩ := h
      subst h1
      subst h2
      exact sd_chain g (sndE a h4 g) (sndE b h5 g) (sndE c h6 g) h3
    · cases h
  | .land a b, _, _, _, _, _, h, g => by
    unfold chkE at h
    split at h
    · simp only [Bool.and_eq_true] at h
      obtain ⟨⟨⟨h1, h2⟩, h3⟩, h4⟩ := h
      have hb := sndE b h4 g
      exact sd_land (sndE a h3 g) h1 (pe_one hb.ex) (pw_and1 (hb.tst h2))
    · simp only [Bool.and_eq_true] at h
      obtain ⟨⟨h1, h3⟩, h4⟩ := h
      have hb := sndE b h4 g
      exact sd_land (sndE a h3 g) h1 hb.ex (hb.who rfl)
    · cases h
  | .lor a b, _, _, _, _, _, h, g => by
    unfold chkE at h
    split at h
    · simp only [Bool.and_eq_true] at h
      obtain ⟨⟨⟨h1, h2⟩, h3⟩, h4⟩ := h
      have hb := sndE b h4 g
      exact sd_lor (sndE a h3 g) h1 (pe_one hb.ex) (pw_or1 (hb.tst h2))
    · simp only [Bool.and_eq_true] at h
      obtain ⟨⟨h1, h3⟩, h4⟩ := h
      have hb := sndE b h4 g
      exact sd_lor (sndE a h3 g) h1 hb.ex (hb.who rfl)
    · cases h
  | .lnot a, _, _, _, _, _, h, g => by
    unfold chkE at h
    split at h
    · simp only [Bool.and_eq_true] at h
      exact sd_lnot (sndE a h.2 g) h.1
    · cases h
  | .ite c a b, _, _, _, _, _, h, g => by
    unfold chkE at h
    split at h
    · simp only [Bool.and_eq_true] at h
      obtain ⟨⟨⟨h1, h2⟩, h3⟩, h4⟩ := h
      exact sd_ite (sndE c h2 g) h1 (sndE a h3 g) (sndE b h4 g)
    · cases h
  | .tup es, _, _, _, _, _, h, g => by
    unfold chkE at h
    split at h
    · exact sd_tup (sndEs es h g).1
    · cases h
  | .list es, _, _, _, _, _, h, g => by
    unfold chkE at h
    split at h
    · exact sd_list (sndEs es h g).1
    · cases h
  | .ix a b, _, _, _, _, _, h, g => by
    unfold chkE at h
    split at h
    · simp only [Bool.and_eq_true] at h
      obtain ⟨⟨h1, h2⟩, h3⟩ := h
      exact sd_ix (sndE a h2 g) (sndE b h3 g) h1
    · cases h
  | .sl a lo hi, _, _, _, _, _, h, g => by
    unfold chkE at h
    split at h
    · rename_i pa plo phi p2 pos
      simp only [Bool.and_eq_true] at h
      obtain ⟨⟨h1, h2⟩, h3⟩ := h
      refine sd_sl (sndE a h1 g) ?_ ?_
      · cases plo with
        | none => exact h2
        | some p =>
          simp only [Bool.and_eq_true, Bool.not_eq_true'] at h2
          exact ⟨h2.1, sndE lo h2.2 g⟩
      · cases phi with
        | none => exact h3
        | some p =>
          simp only [Bool.and_eq_true, Bool.not_eq_true'] at h3
          exact ⟨h3.1, sndE hi h3.2 g⟩
    · cases h
  | .call f es, _, _, _, _, _, h, g => by
    unfold chkE at h
    split at h
    · split at h
      · rename_i d hd
        simp only [Bool.and_eq_true, beq_iff_eq] at h
        obtain ⟨⟨⟨h1, h2⟩, h3⟩, h4⟩ := h
        obtain ⟨k1, k2, k3⟩ := sndEs es h4 g
        exact sd_callG g hd h1 h2 h3 k1 k2 k3 fun σ H Q q => key_call q
      · cases h
    · cases h
  | .callC f es, _, _, _, _, _, h, g => by
    unfold chkE at h
    split at h
    · split at h
      · rename_i d hd
        simp only [Bool.and_eq_true, beq_iff_eq] at h
        obtain ⟨⟨⟨h1, h2⟩, h3⟩, h4⟩ := h
        obtain ⟨k1, k2, k3⟩ := sndEs es h4 g
        exact sd_callG g hd h1 h2 h3 k1 k2 k3 fun σ H Q q => key_callC q
      · cases h
    · cases h
  | .callS f es, _, _, _, _, _, h, g => by
    unfold chkE at h
    split at h
    · split at h
      · rename_i d hd
        simp only [Bool.and_eq_true, beq_iff_eq] at h
        obtain ⟨⟨⟨h1, h2⟩, h3⟩, h4⟩ := h
        obtain ⟨k1, k2, k3⟩ := sndEs es h4 g
        exact sd_callG g hd h1 h2 h3 k1 k2 k3 fun σ H Q q => key_callS q
      · cases h
    · cases h
  | .bi f es, _, _, _, _, _, h, g => by
    unfold chkE at h
    split at h
    · split at h
      · simp only [Bool.and_eq_true, beq_iff_eq, Bool.not_eq_true'] at h
        obtain ⟨⟨⟨⟨⟨h1, h2⟩, h3⟩, h4⟩, h5⟩, h6⟩ := h
        subst h1
        subst h2
        split at h6
        · rename_i e
          exact sd_lrange g h3 h4 (sndE e h6 g) h5
        · cases h6
      · cases h
    · split at h
      · simp only [Bool.and_eq_true, beq_iff_eq, Bool.not_eq_true'] at h
        obtain ⟨⟨⟨⟨⟨h1, h2⟩, h3⟩, h4⟩, h5⟩, h6⟩ := h
        subst h1
        split at h6
        · rename_i e
          exact sd_isi g h2 h3 h4 (sndE e h6 g) h5
        · cases h6
      · cases h
    · split at h
      · split at h
        · rename_i e
          exact sd_neg (sndE e h g)
        · cases h
      · cases h
    · split at h
      · simp only [Bool.and_eq_true, beq_iff_eq, Bool.not_eq_true'] at h
        obtain ⟨⟨⟨⟨⟨⟨⟨⟨h1, h2⟩, h3⟩, h4⟩, h5⟩, h6⟩, h7⟩, h8⟩, h9⟩ := h
        split at h9
        · rename_i e
          exact sd_isE g.mild h1 h3 h4 h5 h2 h6 h7 (sndE e h9 g) h8
        · cases h9
      · cases h
    · split at h
      · simp only [Bool.and_eq_true, beq_iff_eq, decide_eq_true_eq] at h
        obtain ⟨⟨⟨⟨⟨h1, h2⟩, h3⟩, h4⟩, h5⟩, h6⟩ := h
        subst h1
        subst h2
        split at h6
        · rename_i e
          exact sd_tabIn g h3 h4 h5 (sndE e h6 g)
        · cases h6
      · cases h
    · split at h
      · simp only [Bool.and_eq_true, beq_iff_eq] at h
        obtain ⟨⟨⟨⟨⟨h1, h2⟩, h3⟩, h4⟩, h5⟩, h6⟩ := h
        subst h1
        split at h6
        · rename_i e
          exact sd_tabGet g h2 h3 h4 h5 (sndE e h6 g)
        · cases h6
      · cases h
    · split at h
      · simp only [Bool.and_eq_true, beq_iff_eq, Bool.not_eq_true'] at h
        obtain ⟨⟨⟨⟨⟨h1, h2⟩, h3⟩, h4⟩, h5⟩, h6⟩ := h
        subst h1
        subst h2
        split at h6
        · rename_i e
          exact sd_maxD0 g h4 h3 (sndE e h6 g) h5
        · cases h6
      · cases h
    · split at h
      · simp only [Bool.and_eq_true, beq_iff_eq, Bool.not_eq_true'] at h
        obtain ⟨⟨⟨⟨⟨⟨h1, h2⟩, h3⟩, h4⟩, h5⟩, h5'⟩, h6⟩ := h
        subst h1
        subst h2
        split at h6
        · rename_i e f
          rw [Bool.and_eq_true] at h6
          exact sd_lrange2 g h3 h4 (sndE e h6.1 g) (sndE f h6.2 g) h5 h5'
        · cases h6
      · cases h
    · split at h
      · rw [Bool.and_eq_true] at h
        obtain ⟨h1, h2⟩ := h
        split at h2
        · rename_i e f
          rw [Bool.and_eq_true] at h2
          exact sd_dget g (sndE e h2.1 g) (sndE f h2.2 g) h1
        · cases h2
      · cases h
    · split at h
      · split at h
        · rename_i e fs
          rw [Bool.and_eq_true] at h
          exact sd_dgetT g (sndE e h.1 g) (sndEs fs h.2 g).1
        · cases h
      · cases h
    · split at h
      · simp only [Bool.and_eq_true, Bool.not_eq_true', decide_eq_true_eq] at h
        obtain ⟨⟨h0, h1⟩, h2⟩ := h
        subst h0
        split at h2
        · rename_i e f
          rw [Bool.and_eq_true] at h2
          exact sd_dhas g (sndE e h2.1 g) (sndE f h2.2 g) h1
        · cases h2
      · cases h
    · split at h
      · simp only [Bool.and_eq_true, beq_iff_eq, Bool.not_eq_true'] at h
        obtain ⟨⟨⟨⟨h1, h2⟩, h3⟩, h4⟩, h5⟩ := h
        subst h1
        obtain ⟨k1, k2, k3⟩ := sndEs es h5 g
        exact sd_repr g h2 h3 k1 h4
      · cases h
    · split at h
      · simp only [Bool.and_eq_true, beq_iff_eq, Bool.not_eq_true'] at h
        obtain ⟨⟨⟨⟨⟨h1, h2⟩, h3⟩, h4⟩, h5⟩, h6⟩ := h
        subst h1
        subst h2
        split at h6
        · rename_i e
          exact sd_setI g h3 h4 (sndE e h6 g) h5
        · cases h6
      · cases h
    · split at h
      · simp only [Bool.and_eq_true, beq_iff_eq, Bool.not_eq_true'] at h
        obtain ⟨⟨⟨⟨⟨⟨⟨h1, h2⟩, h3⟩, h4⟩, h5⟩, h6⟩, h7⟩, h8⟩ := h
        subst h1
        subst h2
        subst h3
        split at h8
        · rename_i e
          exact sd_dkI g h4 h5 h6 (sndE e h8 g) h7
        · cases h8
      · cases h
    · split at h
      · split at h
        · rename_i e
          exact sd_revL (sndE e h g)
        · cases h
      · cases h
    · split at h
      · simp only [Bool.and_eq_true, beq_iff_eq, Bool.not_eq_true'] at h
        obtain ⟨⟨⟨⟨⟨⟨⟨h1, h2⟩, h3⟩, h4⟩, h5⟩, h6⟩, h7⟩, h8⟩ := h
        subst h1
        subst h2
        subst h3
        split at h8
        · rename_i e
          exact sd_dkX g h4 h5 h6 (sndE e h8 g) h7
        · cases h8
      · cases h
    · split at h
      · simp only [Bool.and_eq_true, beq_iff_eq, Bool.not_eq_true'] at h
        obtain ⟨⟨⟨⟨⟨⟨⟨⟨h1, h2⟩, h3⟩, h4⟩, h5⟩, h6⟩, h7⟩, h8⟩, h9⟩ := h
        subst h1
        subst h2
        split at h9
        · rename_i e k
          rw [Bool.and_eq_true] at h9
          exact sd_tabGetD g h3 h4 h5 (by simpa using h6) h7 h8 h9.1 (sndE e h9.2 g)
        · cases h9
      · cases h
    · split at h
      · simp only [Bool.and_eq_true, beq_iff_eq, Bool.not_eq_true'] at h
        obtain ⟨⟨⟨⟨⟨h1, h2⟩, h3⟩, h4⟩, h5⟩, h6⟩ := h
        subst h1
        subst h2
        split at h6
        · rename_i e
          exact sd_setX g h3 h4 (sndE e h6 g) h5
        · cases h6
      · cases h
    · split at h
      · rw [Bool.and_eq_true] at h
        obtain ⟨h1, h2⟩ := h
        split at h2
        · exact sd_dlitX h1
        · cases h2
      · cases h
    · split at h
      · simp only [Bool.and_eq_true, Bool.not_eq_true'] at h
        obtain ⟨⟨⟨h1, h2⟩, h3⟩, h4⟩ := h
        obtain ⟨k1, k2, k3⟩ := sndEs es h4 g
        exact sd_bi g h1 h2 k1 k2
      · cases h
  | .mt m o es, _, _, _, _, _, h, g => by
    unfold chkE at h
    split at h
    · split at h
      · rename_i n z hm
        simp only [Bool.and_eq_true, beq_iff_eq, Bool.not_eq_true', decide_eq_true_eq] at h
        obtain ⟨⟨⟨⟨⟨⟨h1, h2⟩, h3⟩, h4⟩, h5⟩, h6⟩, h7⟩ := h
        obtain ⟨k1, k2, k3⟩ := sndEs es h7 g
        exact sd_mt g.mild hm h1 h2 (sndE o h3 g) (by simpa using h4) h5 h6 k1 k2 k3
      · split at h
        · simp only [Bool.and_eq_true, beq_iff_eq, Bool.not_eq_true'] at h
          obtain ⟨⟨⟨⟨h1, h2⟩, h3⟩, h4⟩, h5⟩ := h
          subst h1
          split at h5
          · split at h5
            · rename_i fs f _ qs _ _ pz
              simp only [Bool.and_eq_true, Bool.not_eq_true'] at h5
              exact sd_getT g h2 (sndE o h3 g) (by simpa using h4) (sndEs fs h5.1.1 g).1 (sndE f h5.1.2 g) h5.2
            · cases h5
          · cases h5
        · cases h
    · cases h
  | .comp elt tg it cond own, X, sc, ow, ew, _, h, g => by
    unfold chkE at h
    split at h
    · rename_i pelt ptg pit pifs scope pos
      simp only [Bool.and_eq_true, Bool.not_eq_true'] at h
      obtain ⟨⟨⟨⟨⟨⟨h1, h2⟩, h3⟩, h4⟩, h5⟩, h6⟩, h7⟩ := h
      refine sd_comp g ⟨by rw [g.hN, g.sc]; exact blkOk_by h1, sndI it h2 g ptg (fun z => z), fun s H Cc cl fp => pg_of (g.blk s H scope cl Cc fp) h5, fun s H Cc cl fp => ?_, fun s H Cc cl fp => (sndE elt h6 (g.blk s H scope cl Cc fp)).ex, not_set h3, nat_all h4⟩
      cases pifs with
      | nil =>
        have e1 : cond = .lit (.bool true) := by
          simp only at h7
          unfold isTrueLit at h7
          split at h7
          · rfl
          · cases h7
        subst e1
        refine ⟨fun pins s σ H Q I q => pts_nil.run pins s σ H Q I ?_⟩
        obtain ⟨F, ad, env, st, r, en, ok⟩ := q
        unfold evX at ok
        obtain ⟨c, e, q⟩ := ok.val r (.bool true)
        cases e
        exact q
      | cons pc r =>
        cases r with
        | nil =>
          simp only [Bool.and_eq_true] at h7
          exact pts_one ((sndE cond h7.2 (g.blk s H scope cl Cc fp)).tst h7.1)
        | cons _ _ => cases h7
    · cases h
  | .cell e, _, _, _, _, _, h, g => sd_cell (sndE e (by unfold chkE at h; exact h) g)
  | .dnew t, _, _, _, _, _, h, g => by
    unfold chkE at h
    split at h
    · cases t with
      | false => exact sd_dnew
      | true => exact sd_dnewT
    · cases h
theorem sndEs : ∀ (es : Es) {X : Cx} {sc : Scope} {ow : Str → Bool} {ew : L2.St → XK} {ps : List Expr}, chkEs C.T C.G N sc ow es ps = true → Good C N X sc ow ew → PA X ps (tXs C X ew es) ∧ nostar ps = true ∧ (ps = [] → es = .nil)
  | .nil, _, _, _, _, ps, h, g => by
    unfold chkEs at h
    have e : ps = [] := by simpa using h
    subst e
    exact ⟨sd_nil, rfl, fun _ => rfl⟩
  | .cons e es, _, _, _, _, ps, h, g => by
    unfold chkEs at h
    split at h
    · simp only [Bool.and_eq_true, Bool.not_eq_true'] at h
      obtain ⟨⟨h1, h2⟩, h3⟩ := h
      obtain ⟨k1, k2, k3⟩ := sndEs es h3 g
      refine ⟨sd_cons (sndE e h2 g) k1 h1, ?_, fun z => by cases z⟩
      unfold nostar
      rw [h1, k2]; rfl
    · cases h
theorem sndI : ∀ (it : It) {X : Cx} {sc : Scope} {ow : Str → Bool} {ew : L2.St → XK} {tup : Bool} {pe : Expr}, chkI C.T C.G N sc ow tup it pe = true → Good C N X sc ow ew → ∀ ptg, (tup = true → tupB ptg = true) → PI X ptg pe (tI C X ew it)
  | .seq e, _, _, _, _, _, _, h, g, ptg, ht => pi_seqD (sndE e (by unfold chkI at h; exact h) g)
  | .range1 a, _, _, _, _, _, _, h, g, ptg, ht => by
    unfold chkI at h
    split at h
    · simp only [Bool.and_eq_true, beq_iff_eq, Bool.not_eq_true'] at h
      obtain ⟨⟨⟨h1, h2⟩, h3⟩, h4⟩ := h
      subst h1
      exact pi_r1D g h2 (sndE a h4 g) h3
    · cases h
  | .range2 a b, _, _, _, _, _, _, h, g, ptg, ht => by
    unfold chkI at h
    split at h
    · simp only [Bool.and_eq_true, beq_iff_eq, Bool.not_eq_true'] at h
      obtain ⟨⟨⟨⟨⟨h1, h2⟩, h3⟩, h4⟩, h5⟩, h6⟩ := h
      subst h1
      exact pi_r2D g h2 (sndE a h5 g) (sndE b h6 g) h3 h4
    · cases h
  | .zip a b, _, _, _, _, _, _, h, g, ptg, ht => by
    unfold chkI at h
    split at h
    · simp only [Bool.and_eq_true, beq_iff_eq, Bool.not_eq_true'] at h
      obtain ⟨⟨⟨⟨⟨⟨h0, h1⟩, h2⟩, h3⟩, h4⟩, h5⟩, h6⟩ := h
      subst h1
      have z := ht h0
      cases ptg <;> first | exact pi_zipD g h2 (sndE a h5 g) (sndE b h6 g) h3 h4 | (cases z)
    · cases h
end
end
end MP

/-! Comprehensions over a range while an exception is handled. -/
namespace MP
open PySem PySem.Spec PyProof.Rows L2

section
variable {X : Cx} {pins : List (Addr × Obj)} {σ : L2.St} {H : Hp} {s : Shared} {tg : Expr}
theorem HotF.now (c : HotF X.A X.H_0) (I : Inv X pins σ H s) : HotF X.A H := by
  obtain ⟨a, oe, vs, h1, h2, h3, h4⟩ := c
  exact ⟨a, oe, vs, h1, I.base.frzs _ _ _ h2, h3, h4⟩
theorem HotF.at_ (c : HotF X.A X.H_0) (I : Inv X pins σ H s) : ∃ x1, HotX.HotAt X.A x1 s.heap := by
  obtain ⟨a, oe, vs, h1, h2, h3, h4⟩ := c.now I
  have z := I.hok a _ h2
  exact ⟨a, h1, oe, vs, z.1, h3, h4⟩
abbrev rgT (it : Addr) (lo : Int) (n : Nat) (i : Nat) (h : Heap) : Prop := IsRangeIter h it (lo + (i : Nat) * 1) ((n : Int) - (i : Nat)) 1
theorem rg_keep {it : Addr} {lo : Int} {n i : Nat} {h h' : Heap} (st : rgT it lo n i h) (k : ∀ o, h.get? it = some o → h'.get? it = some o) : rgT it lo n i h' := k _ st
theorem rg_obj {it : Addr} {lo : Int} {n i : Nat} {h : Heap} (st : rgT it lo n i h) : ∀ b ∈ [it], ∃ o, h.get? b = some o ∧ ∀ v, o.data ≠ .cell v := fun b hb => by
  have e : b = it := by simpa using hb
  subst e
  exact ⟨_, st, fun v z => by
    have z' : Data.fields _ = Data.cell v := z
    cases z'⟩
theorem rg_item {it : Addr} {lo : Int} {n i : Nat} {E : Value → Shared → Prop} (I : Inv X pins σ H s) (hf : FpOk X pins H it) (st : rgT it lo n i s.heap) (hlt : i < n) :
    wpAny (model X.prog X.w) X.A (pyNext (.ref it)) (fun r s1 => ∃ u, r = some u ∧
      wpAny (model X.prog X.w) X.A (letOwnedTupleGo tg (.ref it) u) (fun _ s2 => Inv X pins σ H s2 ∧ RelV (.int (lo + (i : Nat))) u ∧ rgT it lo n (i + 1) s2.heap) E s1) E s := by
  obtain ⟨f0, f1, f2, f3, f4, f5⟩ := hf
  refine wpAny_pyNext_range_item st (by omega) fun h' st' sb => ?_
  have st2 : rgT it lo n (i + 1) h' := by
    have e1 : lo + ((i : Nat) : Int) * 1 + 1 = lo + ((i + 1 : Nat) : Int) * 1 := by omega
    have e2 : (n : Int) - ((i : Nat) : Int) - 1 = (n : Int) - ((i + 1 : Nat) : Int) := by omega
    unfold rgT
    rw [← e1, ← e2]
    exact st'
  have I1 : Inv X pins σ H { s with heap := h', toks := s.toks + 1 } := I.turned (fun b o hb e => (sb.2 b hb).trans e) f0 f1 f3 f4 f5
  refine ⟨_, rfl, go_of (s := { s with heap := h', toks := s.toks + 1 }) (n := "range_iterator") st2 rfl rfl (by decide) ⟨I1, ⟨s.toks, ?_⟩, st2⟩⟩
  rw [Int.mul_one]
theorem rg_done {it : Addr} {lo : Int} {n i : Nat} {E : Value → Shared → Prop} (c : HotF X.A X.H_0) (I : Inv X pins σ H s) (hf : FpOk X pins H it) (st : rgT it lo n i s.heap) (hle : n ≤ i) :
    wpAny (model X.prog X.w) X.A (pyNext (.ref it)) (fun r s1 => r = none ∧ Inv X pins σ H s1) E s := by
  obtain ⟨f0, f1, f2, f3, f4, f5⟩ := hf
  obtain ⟨x1, hot⟩ := c.at_ I
  exact HotX.pyNext_range_end_hot hot st (by omega) fun h' eb => ⟨rfl, I.turned (t' := s.toks) (fun b o _ e => eb b o e) f0 f1 f3 f4 f5⟩
/-- a range's iterator has come -/
structure PIF (X : Cx) (iter : Expr) (wi : TI) : Prop where
  run : ∀ (pins : List (Addr × Obj)) (s : Shared) (σ : L2.St) (H : Hp) (R : L2.It → Hp → Prop), Inv X pins σ H s → wi σ H R →
    wpAny (model X.prog X.w) X.A (eval iter X.env) (fun v s1 => wpAny (model X.prog X.w) X.A (pyIter v) (fun itv s2 => ∃ (it : Addr) (lo : Int) (n : Nat) (H' : Hp), itv = .ref it ∧ Inv X pins σ H' s2 ∧ rgT it lo n 0 s2.heap ∧ FpOk X pins H' it ∧ R (Itr lo n) H') X.xe s1) X.xe s
theorem PIF.imp {iter : Expr} {wi wi' : TI} (h : PIF X iter wi) (k : ∀ σ H R, wi' σ H R → wi σ H R) : PIF X iter wi' := ⟨fun pins s σ H R I q => h.run pins s σ H R I (k _ _ _ q)⟩
theorem pi_rangeF {a : Expr} {ta : TA} {p pos : Pos} (hg : Gl X "range") (hm : X.mg "range" = none) (ha : PA X [a] ta) (hs : starEach [a] X.env = [(false, eval a X.env)] := by rfl) : PIF X (.Call (.Name "range" p) [a] [] pos) (iRng1 ta) := by
  refine ⟨fun pins s σ H R I h => ?_⟩
  refine Call_ (ld_blt I hg hm boot_range (PyProof.Rows.callWith_type1 (thn (ha.run pos pins s σ H _ I h) fun us s1 ⟨vs, H1, I1, r1, q1⟩ => ?_) hs rfl))
  obtain ⟨j, e, q1, q2, q⟩ := q1
  subst e
  cases r1 with
  | cons r rr =>
    cases rr
    obtain ⟨t, rfl⟩ := r
    refine call_range_1 (wpAny_pyIter_range (IsRange.new ..) (small_one (by omega) (by omega) q1 q2) ?_)
    refine ⟨_, 0, j.toNat, H1, rfl, (I1.kept fun b o e => Heap.get?_push_of_some _ (Heap.get?_push_of_some _ e)), ?_, ?_, q⟩
    · have e1 : (0 : Int) + ((0 : Nat) : Int) * 1 = 0 := by simp
      have e2 : ((j.toNat : Nat) : Int) - ((0 : Nat) : Int) = Builtin.Range.rangeSize 0 j 1 := by rw [rangeSize_one]; split <;> omega
      show IsRangeIter _ _ ((0 : Int) + ((0 : Nat) : Int) * 1) (((j.toNat : Nat) : Int) - ((0 : Nat) : Int)) 1
      rw [e1, e2]
      exact Heap.get?_push_size _ rfl
    · exact I1.fpOk (by rw [Heap.size_push]; exact Nat.le_succ _) (I1.hok.fresh (by rw [Heap.size_push]; exact Nat.le_succ _))
end
section
variable {X : Cx}
theorem pe_lcF {elt tg iter : Expr} {ifs : List Expr} {scope : Scope} {own : List (Str × Nat)} {pos : Pos} {wi : TI} {g : TG} {tt : TT} {te : TE} (hc : HotF X.A X.H_0) (hN : X.N.Nodup) (hi : PIF X iter wi) (ok : BlkOk X.N X.env.scope scope own)
    (hg : ∀ (s : Shared) (H : Hp) (C : Addr) (cl : List (Str × Addr)) (fp : List Addr), HotF X.A H → PG (X.blk s H scope (compEnvC scope cl C X.env) fp) tg g) (ht : ∀ (s : Shared) (H : Hp) (C : Addr) (cl : List (Str × Addr)) (fp : List Addr), HotF X.A H → PTs (X.blk s H scope (compEnvC scope cl C X.env) fp) ifs tt)
    (he : ∀ (s : Shared) (H : Hp) (C : Addr) (cl : List (Str × Addr)) (fp : List Addr), HotF X.A H → PE (X.blk s H scope (compEnvC scope cl C X.env) fp) elt te) (hs : ∀ x, foldedSetIterable iter X.env x = pure x) :
    PE X (.ListComp elt [⟨tg, iter, ifs, 0⟩] scope pos) (tLc wi g tt te (own.map (·.2))) := by
  refine ⟨fun pins s σ H Q I h => ?_⟩
  rw [eval_ListComp]
  have hfree : ∀ y ∈ scope.names, y.2 = .free → ∃ c, X.env.cells.lookup y.1 = some c := fun y hy e => (ok.free y hy e).elim (fun k => I.ok.has _ (.inl k)) fun k => I.ok.has _ (.inr k)
  refine wpAny_comprehension_free rfl hs (closure_ok hfree) ok.kind (fun y hy e => by rw [ok.uniq y hy, e])
    (thn (hi.run pins s σ H _ I h) fun xv s1 hx => thn hx fun itv s2 h2 => ?_)
  obtain ⟨it, lo, n, H2, e, I2, st2, f2, q⟩ := h2
  subst e
  refine wpAny_newObj_type (newEnv_comp ?_) (by show 0 ≤ sizeLine; decide)
  generalize hD : s2.heap.objs.size = D
  obtain ⟨W, ⟨m0, w0⟩, turn⟩ := q D (I2.hok.fresh (Nat.le_of_eq hD))
  generalize hs3 : ({ s2 with heap := s2.heap.push { cls := .type "list", data := .seq ([] : List Value).toArray } } : Shared) = s3
  have h3 : s3.heap = s2.heap.push { cls := .type "list", data := .seq ([] : List Value).toArray } := by rw [← hs3]
  have I3 : Inv X pins σ (upd H2 D (.lst [])) s3 := by
    rw [← hs3]
    refine I2.laid (t' := s2.toks) (fun b o e => Heap.get?_push_of_some _ e) (Nat.le_of_eq hD) ⟨Nat.zero_le _, [], 0, .nil, ?_⟩
    rw [← hD]
    exact Heap.get?_push_size _ rfl
  have hlt : it < s2.heap.objs.size := Heap.lt_size st2
  have f3 : FpOk X pins (upd H2 D (.lst [])) it ∧ it < s3.heap.objs.size :=
    ⟨⟨by rw [upd_ne (by rw [← hD]; exact Nat.ne_of_lt hlt)]; exact f2.1, f2.2⟩, by rw [h3, Heap.size_push]; exact Nat.lt_succ_of_lt hlt⟩
  have st3 : rgT it lo n 0 s3.heap := rg_keep st2 fun o e => by rw [h3]; exact Heap.get?_push_of_some _ e
  have hc3 := hc.now I3
  have I4 := block_start (fp := [it]) I3 ok hN fun b hb => by
    have e : b = it := by simpa using hb
    subst e; exact f3
  have pg := hg s3 (upd H2 D (.lst [])) s3.heap.objs.size (cellsFrom (s3.heap.objs.size + 1) scope.names (cloFrom X.env.cells scope.names [])) [it] hc3
  have pt := ht s3 (upd H2 D (.lst [])) s3.heap.objs.size (cellsFrom (s3.heap.objs.size + 1) scope.names (cloFrom X.env.cells scope.names [])) [it] hc3
  have pe := he s3 (upd H2 D (.lst [])) s3.heap.objs.size (cellsFrom (s3.heap.objs.size + 1) scope.names (cloFrom X.env.cells scope.names [])) [it] hc3
  generalize hQf : (fun (v : Value) (s' : Shared) => EP X pins σ Q v s') = Qf
  have hRR : ∀ D C s' m H', Inv X pins σ H' s' → Q (.ref D) H' → s'.heap.Ns C m → FpOk X pins H' C → compPost (model X.prog X.w) X.A X.xe none Qf (.ref D) C (.ok .next) s' := fun D C s' m H' I' q hn f => by
    rw [← hQf]
    refine ⟨m, hn, fun h'' sb => ?_⟩
    obtain ⟨f0, f1, f2, f3, f4, f5⟩ := f
    exact ⟨.ref D, H', I'.turned (t' := s'.toks) (fun b o hb e => (sb.2 b hb).trans e) f0 f1 f3 f4 f5, rfl, q⟩
  have goal : codeAny (model X.prog X.w) X.A (.compStart (.ListComp elt [⟨tg, iter, ifs, 0⟩] scope pos) 0 (.ref it) (.ref D) (compEnvC scope (cellsFrom (s3.heap.objs.size + 1) scope.names (cloFrom X.env.cells scope.names [])) s3.heap.objs.size X.env)) (compPost (model X.prog X.w) X.A X.xe none Qf (.ref D) s3.heap.objs.size) { s3 with heap := pushCells (s3.heap.push { cls := .type "dict", data := .dict #[] }) scope.names } := ?goal
  · rw [← hQf] at goal; exact goal
  case goal =>
  have nfp : (upd H2 D (.lst [])) it = none := f3.1.1
  generalize hce : compEnvC scope (cellsFrom (s3.heap.objs.size + 1) scope.names (cloFrom X.env.cells scope.names [])) s3.heap.objs.size X.env = ce at I4 pg pt pe ⊢
  have cL : ce.locals = s3.heap.objs.size := by subst hce; rfl
  generalize hH3 : upd H2 D (.lst []) = H3 at I3 I4 pg pt pe w0 nfp f3 hc3
  generalize hs4 : ({ s3 with heap := pushCells (s3.heap.push { cls := .type "dict", data := .dict #[] }) scope.names } : Shared) = s4 at I4 ⊢
  have st4 : rgT it lo n 0 s4.heap := rg_keep st3 fun o e => by rw [← hs4]; exact pushCells_keeps _ _ _ _ (Heap.get?_push_of_some _ e)
  have hcB : HotF (X.blk s3 H3 scope ce [it]).A (X.blk s3 H3 scope ce [it]).H_0 := hc3
  have stat : ∀ {σ' : L2.St} {H' : Hp} {s' : Shared}, Inv (X.blk s3 H3 scope ce [it]) [] σ' H' s' → H' it = none → FpOk (X.blk s3 H3 scope ce [it]) [] H' it := fun {σ' H' s'} I' hn =>
    ⟨hn, (I'.ok.exf it (by simp)).1, I'.ok.exfs it (by simp), .inl (by simp), fun x c e => (I'.ok.exf it (by simp)).2 x c e, fun p hp => absurd (show p ∈ ([] : List (Addr × Obj)) ++ [] from hp) (by simp)⟩
  have loop : codeAny (model X.prog X.w) X.A (.compLoop (.ListComp elt [⟨tg, iter, ifs, 0⟩] scope pos) 0 (.ref it) (.ref D) ce) (compPost (model X.prog X.w) X.A X.xe none Qf (.ref D) s3.heap.objs.size) s4 := by
    refine compLoop_any (fun k s' => ∃ i H', Inv (X.blk s3 H3 scope ce [it]) [] (wipe σ (own.map (·.2))) H' s' ∧ rgT it lo n i s'.heap ∧ H' it = none ∧ W i k H') ?_ m0 ⟨0, H3, I4, st4, nfp, w0⟩
    rintro k s5 ⟨i, H5, I5, st5, n5, w5⟩
    rcases turn i k H5 w5 with ⟨stop, qq⟩ | ⟨go, Nx, hNx, step⟩
    · refine thnF (rg_done (X := X.blk s3 H3 scope ce [it]) (E := fun _ _ => False) hcB I5 (stat I5 n5) st5 stop) fun r s6 ⟨hr, I6⟩ => ?_
      subst hr
      have I7 : Inv X pins σ H5 s6 := I3.call' (ch := [it]) I6.os I6.base I6.hok I6.bare fun b hb => by
        have e : b = it := by simpa using hb
        subst e
        exact ⟨f3.1.2.2.2.1, f3.1.2.1, f3.1.2.2.2.2.1, f3.1.2.2.2.2.2⟩
      have nC : H5 s3.heap.objs.size = none := by
        have z : H5 ce.locals = none := I6.free
        rw [cL] at z
        exact z
      obtain ⟨m, hn, _⟩ := I6.loc
      have hn : s6.heap.Ns ce.locals m := hn
      rw [cL] at hn
      exact hRR D s3.heap.objs.size s6 m H5 I7 qq hn (I3.fpOk (Nat.le_refl _) nC)
    · refine thnF (rg_item (X := X.blk s3 H3 scope ce [it]) (tg := tg) (E := fun _ _ => False) I5 (stat I5 n5) st5 go) fun r s6 ⟨u, hr, h6⟩ => ?_
      subst hr
      refine thnF h6 fun _ s7 ⟨I7, r7, st7⟩ => ?_
      have I7' := I7.pinned (fp := [it]) (fun b hb => by
        have e : b = it := by simpa using hb
        subst e; exact stat I7 n5) (rg_obj st7)
      refine thnF (pg.run _ s7 _ H5 (.int (lo + (i : Nat))) u _ I7' r7 (step _ H5 ⟨rfl, rfl⟩)) fun _ s8 ⟨σ8, H8, I8, hw8, q8⟩ => ?_
      refine thnF (pt.run _ s8 σ8 H8 _ I8 q8) fun b s9 ⟨H9, I9, q9⟩ => ?_
      have fin : ∀ {s' : Shared} {H' : Hp}, Inv (X.blk s3 H3 scope ce [it]) ([] ++ pinsAt [it] s7.heap) σ8 H' s' → Nx H' → ∃ m, m < k ∧ ∃ i H', Inv (X.blk s3 H3 scope ce [it]) [] (wipe σ (own.map (·.2))) H' s' ∧ rgT it lo n i s'.heap ∧ H' it = none ∧ W i m H' := fun {s' H'} I' nx => by
        obtain ⟨m', hm, w'⟩ := hNx H' nx
        have pin' : ∀ o, s7.heap.get? it = some o → s'.heap.get? it = some o ∧ H' it = none := fun o e =>
          let z := I'.pin (it, o) (List.mem_append_right _ (List.mem_append_right _ (mem_pinsAt (by simp) e)))
          ⟨z.1, z.2.1⟩
        have hl : (wipe σ (own.map (·.2))).length = σ8.length := by rw [← hw8, wipe_length]
        refine ⟨m', hm, i + 1, H', (I'.unpinned (pins := [])).weak hl (fun j v e => ?_), rg_keep st7 fun o e => (pin' o e).1, (pin' _ st7).2, w'⟩
        rw [← hw8] at e
        exact (wipe_some e).1
      cases b with
      | false =>
        simp only [Bool.false_eq_true, if_false] at q9 ⊢
        exact fin I9 q9
      | true =>
        simp only [if_true] at q9 ⊢
        refine thnF (pe.run _ s9 σ8 H9 _ I9 q9) fun z s10 ⟨yv, H10, I10, r10, acc, hD10, hz10, nx⟩ => ?_
        exact app_ok (X := X.blk s3 H3 scope ce [it]) I10 hD10 hz10 r10 fun s11 I11 => fin I11 nx
  exact codeAny_compStart_list loop (wpAny_pyIter_rangeiter st4 loop)
end
end MP

/-! Within an except suite: the exception's object is known, defs without calls may be called. -/
namespace MP
open PySem PySem.Spec PyProof.Rows L2

/-- the context of an except suite: the exception is known from its start -/
abbrev suF (X : Cx) (a : Addr) (oe : Obj) (pn : List (Addr × Obj)) : Cx := { X.suite a pn with H_0 := upd X.H_0 a (.frz oe (.own a)) }
section
variable {X : Cx} {pins : List (Addr × Obj)} {σ : L2.St} {H : Hp} {s : Shared}
/-- the exception, known from then on -/
theorem suiteF (I : Inv X pins σ H s) {a : Addr} {oe : Obj} {vs : Array Value} (ha : s.heap.get? a = some oe) (hd : oe.data = .fields vs) (na : H a = none) (nL : a ≠ X.env.locals) (nF : a ∉ X.fs) (n0 : X.s_0.heap.get? a = none) (np : ∀ p ∈ X.pn ++ pins, p.1 ≠ a) :
    Inv (suF X a oe (X.pn ++ pins)) [] σ (upd H a (.frz oe (.own a))) s :=
  have ok := I.ok
  have n1 : ∀ {b : Addr} {o : Obj}, X.s_0.heap.get? b = some o → b ≠ a := fun e z => by rw [z, n0] at e; cases e
  ⟨⟨ok.mod, ok.kind, ok.glob, ok.blt, ok.above, ok.inj, ok.has, ok.cab, (fun z => absurd (show false = true from z) Bool.false_ne_true), ok.frames, ok.stk, ok.exf, fun b o e => ⟨(ok.bs b o e).1, by
      show upd X.H_0 a _ b = none
      rw [upd_ne (n1 (ok.bs b o e).1)]; exact (ok.bs b o e).2⟩, ok.bsz, ok.noex, ok.exfs, ok.funs, fun b hb => by
      have q : b ≠ a := fun z => nF (z ▸ hb)
      show upd X.H_0 a _ b = none
      rw [upd_ne q]; exact ok.frf b hb⟩, I.os, I.bare, ⟨fun b o e n => I.base.keep b o e (by rw [← n]; exact (upd_ne (n1 e)).symm), fun b o e n => I.base.slot b o e (by rw [← n]; exact (upd_ne (n1 e)).symm), fun b o e n hx => by
      rw [upd_ne (n1 e)]; exact I.base.free b o e (by rw [← n]; exact (upd_ne (n1 e)).symm) hx, I.base.there, fun b xs e => by
      have q : b ≠ a := fun z => by
        rw [z] at e
        cases (upd_same : upd X.H_0 a (.frz oe (.own a)) a = _).symm.trans e
      rw [upd_ne q]
      exact I.base.tups b xs (by rw [← e]; exact (upd_ne q).symm), fun b o u e => by
      by_cases q : b = a
      · rw [q]
        rw [q] at e
        rw [upd_same]
        exact (upd_same : upd X.H_0 a (.frz oe (.own a)) a = _).symm.trans e
      · rw [upd_ne q]
        exact I.base.frzs b o u (by rw [← e]; exact (upd_ne q).symm), fun b ps e => by
      have q : b ≠ a := fun z => by
        rw [z] at e
        cases (upd_same : upd X.H_0 a (.frz oe (.own a)) a = _).symm.trans e
      rw [upd_ne q]
      exact I.base.tbls b ps (by rw [← e]; exact (upd_ne q).symm)⟩, I.loc, I.cell, by rw [upd_ne (Ne.symm nL)]; exact I.free,
    fun x c e => by
      obtain ⟨v, hc⟩ := I.cell x c e
      have q : c ≠ a := fun z => by
        rw [z] at hc
        obtain ⟨o, e1, e2⟩ := cell_at hc
        rw [ha] at e1; cases e1
        rw [hd] at e2; cases e2
      rw [upd_ne q]; exact I.freeC x c e,
    fun p hp => by
      have hp' : p ∈ X.pn ++ pins := by rw [List.append_nil] at hp; exact hp
      obtain ⟨h1, h2, h3⟩ := I.pin p hp'
      exact ⟨h1, by rw [upd_ne (np p hp')]; exact h2, h3⟩,
    HOk.laidN I.hok (fun _ _ z => z) na ⟨ha, ⟨oe, ha⟩⟩, I.len⟩
where
  cell_at {h : Heap} {c : Addr} {v : Option Value} (z : h.IsCell c v) : ∃ o : Obj, h.get? c = some o ∧ o.data = .cell v := by
    obtain ⟨o, h1, h2⟩ := z
    exact ⟨o, h1, h2⟩
theorem unsuiteF {a : Addr} {oe : Obj} {pn' : List (Addr × Obj)} (I : Inv (suF X a oe (X.pn ++ pins)) pn' σ H s) (ok : X.Ok) (n0 : X.s_0.heap.get? a = none) (nt : ∀ xs, X.H_0 a ≠ some (.tup xs)) (nf : ∀ o u, X.H_0 a ≠ some (.frz o u)) (nb : ∀ ps, X.H_0 a ≠ some (.tbl ps)) : Inv X pins σ H s :=
  have n1 : ∀ {b : Addr} {o : Obj}, X.s_0.heap.get? b = some o → b ≠ a := fun e z => by rw [z, n0] at e; cases e
  have up : ∀ {b : Addr}, b ≠ a → (suF X a oe (X.pn ++ pins)).H_0 b = X.H_0 b := fun q => upd_ne q
  ⟨ok, I.os, I.bare, ⟨fun b o e n => I.base.keep b o e ((up (n1 e)).trans n), fun b o e n => I.base.slot b o e ((up (n1 e)).trans n), fun b o e n => I.base.free b o e ((up (n1 e)).trans n), I.base.there,
    fun b xs e => I.base.tups b xs ((up fun z => nt xs (z ▸ e)).trans e), fun b o u e => I.base.frzs b o u ((up fun z => nf o u (z ▸ e)).trans e), fun b ps e => I.base.tbls b ps ((up fun z => nb ps (z ▸ e)).trans e)⟩,
    I.loc, I.cell, I.free, I.freeC, fun p hp => I.pin p (List.mem_append_left _ hp), I.hok, I.len⟩
end
/-- what the clause 'except x as n' wishes of an exception of the body: slot i is n's -/
def wAsF (K : PySem.W.Frag) (c : Value) (i : Nat) (ts : Value → TS) (D : Ends) : WX := fun cls d σ H =>
  PySem.W.exmOne K cls c = some true ∧ ∀ (a : Addr) (oe : Obj), H a = none → Zc cls d oe → (∃ vs, oe.data = .fields vs) → ts cls { nx := fun σ' H' => D.nx (σ'.set i none) H', rt := D.rt, bk := fun σ' H' => D.bk (σ'.set i none) H', ct := fun σ' H' => D.ct (σ'.set i none) H' } (σ.set i (some (.ref a))) (upd H a (.frz oe (.own a)))
section
variable {X : Cx} {x n : Str} {c : Value} {i : Nat} {body suite : List Stmt} {b₀ : Stmt} {np pos pos' : Pos} {tb : WX → TS} {ts : Value → TS}
theorem ps_try_asF (hs : X.stack = X.env :: X.outer) (hf : X.env.frame = some X.env.locals) (hex : X.ex = []) (hN : X.N.Nodup) (hi : X.N[i]? = some n) (hln : X.env.kindOf n = some .local) (hc : Names X x c)
    (hb : ∀ (W : WX) (pn : List (Addr × Obj)) (xe : Value → Shared → Prop), L2N.Takes (X.tr pn xe) W → PassesOwn (model X.prog X.w) X.A X.env xe → PSs (X.tr pn xe) body (tb W))
    (hsu : ∀ (a : Addr) (oe : Obj) (cls : Value) (pn : List (Addr × Obj)), HotF (suF X a oe pn).A (suF X a oe pn).H_0 → PSs (suF X a oe pn) (b₀ :: suite) (ts cls)) :
    PS X (.Try body [.ExceptHandler (some (.Name x np)) (some n) (b₀ :: suite) pos'] [] [] pos) (fun D σ H => tb (wAsF X.K c i ts D) D σ H) := by
  refine ⟨fun pins s σ H D I h => ?_⟩
  have ok := I.ok
  have hfr : X.A.frames = some (X.env :: X.outer) := by rw [ok.frames, hs]
  have hloc : Loc X.env.scope n := .inl hln
  refine wpAny_Try_except ?_
  refine wpAny_mono ((hb (wAsF X.K c i ts D) (X.pn ++ pins) (fun e s₁ => wpAny (model X.prog X.w) X.A (noteFrame e X.env) (fun _ s₂ => wpAny (model X.prog X.w) X.A (setFlight e none) (fun _ s₃ =>
    wpAny (model X.prog X.w) X.A (handleBy e X.env [.ExceptHandler (some (.Name x np)) (some n) (b₀ :: suite) pos']) (SP X pins D) X.xe s₃) X.xe s₂) X.xe s₁) (fun u s' xx => ?_) PassesOwn.looking).run [] s σ H D (I.toTry _) h) (fun f s1 hsp => ?_) (fun e s1 he => he)
  · -- the catch
    obtain ⟨a, B, sI, pins', σ', H', cls, d, rfl, J', nb, up, sky, na, os, ag, hb1, hyes⟩ := xx
    have J : Inv X pins σ' H' sI := J'.ofTry ok
    have sky' : Sky B (X.env :: X.outer) a (L2N.Zn cls d) X.env.locals s'.heap := by rw [← hs]; exact sky
    show wpAny (model X.prog X.w) X.A (noteFrame (.ref a) X.env) _ _ _
    refine L2N.Sky.land L2N.Zn.steady hfr hf sky' fun h3 fl3 up3 => ?_
    have J3 : Inv X pins σ' H' { s' with heap := h3 } := J.landed nb fl3.1 (up.trans up3) os ag
    obtain ⟨oe3, vs3, he3, hz3, hd3⟩ := fl3.there
    have notFr : ∀ {h : Heap} {o : Obj} {vs : Array Value}, h.FunFrames B (X.env :: X.outer) → h.get? a = some o → o.data = .fields vs → a ∉ frs (X.env :: X.outer) := fun {h o vs} ff e dd hm => by
      obtain ⟨_, o', e', hnf⟩ := ff.mem hm
      rw [e] at e'; cases e'
      exact hnf _ dd
    have nfr := notFr fl3.2.2.1 he3 hd3
    have nL : a ≠ X.env.locals := fun z => nfr (List.mem_filterMap.mpr ⟨X.env, List.mem_cons_self, by rw [hf, z]⟩)
    have nF : a ∉ X.fs := fun hm => by
      obtain ⟨e, he, q⟩ := List.mem_filterMap.mp hm
      exact nfr (List.mem_filterMap.mpr ⟨e, List.mem_cons_of_mem _ he, q⟩)
    have nI : sI.heap.get? a = none := by
      cases q : sI.heap.get? a with
      | none => rfl
      | some o =>
        have z := nb a o q (by rw [hs]; exact nfr)
        rw [fl3.2.1] at z; cases z
    have n0 : X.s_0.heap.get? a = none := by
      cases q : X.s_0.heap.get? a with
      | none => rfl
      | some o =>
        obtain ⟨o', e⟩ := J.base.there a o q (by rw [hex]; simp)
        rw [nI] at e; cases e
    have npn : ∀ p ∈ X.pn ++ pins, p.1 ≠ a := fun p hp z => by
      have e := (J.pin p hp).1
      rw [z, nI] at e; cases e
    have S3 := J3.suite he3 hd3 na nL nF
    refine wpAny_handleBy_cons (codeAny_handlers_test ?_) (by intro q; cases q)
    have LT : PySem.W.Looks (model X.prog X.w) h3 (typeOf (.ref a)) cls := fun A Q E s k q => wpAny_typeOf_ref (k _ _ he3) (by rw [hz3.1]; exact q)
    have LM := PySem.W.exm_one (M := model X.prog X.w) (J3.kIn) LT hb1
    have test : ∀ {Q : Value → Shared → Prop} {E : Value → Shared → Prop}, Q c { s' with heap := h3 } → wpAny (model X.prog X.w) (X.A.mark (some (.ref a))) (eval (.Name x np) X.env) Q E { s' with heap := h3 } := fun {Q E} q => by
      obtain ⟨hg, hdbg, hm | ⟨hm, hv, hnn⟩⟩ := hc
      · exact ld_glob (X := X.suite a ((a, oe3) :: (X.pn ++ pins))) S3 hg hm q hdbg
      · exact ld_blt (X := X.suite a ((a, oe3) :: (X.pn ++ pins))) S3 hg hm hv q hnn hdbg
    refine test (LM.here ?_)
    refine codeAny_handlers_suite_as ?_
    refine HandSPX.lands_againZ fl3 fun h4 fl4 up4 => ?_
    have J4 : Inv X pins σ' H' { s' with heap := h4 } := J.landed nb fl4.1 ((up.trans up3).trans up4) os ag
    obtain ⟨oe4, vs4, he4, hz4, hd4⟩ := fl4.there
    have S4 := suiteF J4 he4 hd4 na nL nF n0 npn
    have hot4 : HotF (suF X a oe4 (X.pn ++ pins)).A (suF X a oe4 (X.pn ++ pins)).H_0 := ⟨a, oe4, vs4, rfl, upd_same, hd4, hz4.2.2 vs4 hd4⟩
    have nt : ∀ xs, X.H_0 a ≠ some (.tup xs) := fun xs e => by
      have z := J4.base.tups a xs e
      rw [na] at z; cases z
    have nf : ∀ o u, X.H_0 a ≠ some (.frz o u) := fun o u e => by
      have z := J4.base.frzs a o u e
      rw [na] at z; cases z
    have nb4 : ∀ ps, X.H_0 a ≠ some (.tbl ps) := fun ps e => by
      obtain ⟨m, z⟩ := J4.base.tbls a ps e
      rw [na] at z; cases z
    refine store_ok (X := suF X a oe4 (X.pn ++ pins)) (v := .ref a) S4 hN hi hloc rfl (fun s5 S5 => ?_) (.inr hln)
    refine wpAny_mono ((hsu a oe4 cls (X.pn ++ pins) hot4).run [] s5 _ _ _ S5 (hyes a oe4 na hz4.zc ⟨_, hd4⟩)) (fun f s6 hsp => ?_) (fun _ _ z => False.elim z)
    have end_ : ∀ {σ6 : L2.St} {H6 : Hp} {Q : Shared → Prop}, Inv (suF X a oe4 (X.pn ++ pins)) [] σ6 H6 s6 → (∀ s7, Inv X pins (σ6.set i none) H6 s7 → Q s7) →
        wpAny (model X.prog X.w) X.A (do bindName X.env n .none; unbindBehindTheSuite X.env n pos') (fun _ s7 => Q s7) X.xe s6 := fun {σ6 H6 Q} S6 hq => gone_ok (unsuiteF S6 ok n0 nt nf nb4) hN hi hln hq
    cases f with
    | next =>
      obtain ⟨σ6, H6, S6, q6⟩ := hsp
      exact end_ S6 fun s7 J7 => ⟨_, _, J7, q6⟩
    | brk =>
      obtain ⟨σ6, H6, S6, q6⟩ := hsp
      exact end_ S6 fun s7 J7 => ⟨_, _, J7, q6⟩
    | cont =>
      obtain ⟨σ6, H6, S6, q6⟩ := hsp
      exact end_ S6 fun s7 J7 => ⟨_, _, J7, q6⟩
    | ret u =>
      obtain ⟨v6, σ6, H6, S6, r6, q6⟩ := hsp
      exact end_ S6 fun s7 J7 => ⟨_, _, _, J7, r6, q6⟩
  · cases f with
    | next =>
      obtain ⟨σ', H', J', q⟩ := hsp
      exact wpAny_execs_nil ⟨σ', H', J'.ofTry ok, q⟩
    | brk =>
      obtain ⟨σ', H', J', q⟩ := hsp
      exact ⟨σ', H', J'.ofTry ok, q⟩
    | cont =>
      obtain ⟨σ', H', J', q⟩ := hsp
      exact ⟨σ', H', J'.ofTry ok, q⟩
    | ret u =>
      obtain ⟨v, σ', H', J', r, q⟩ := hsp
      exact ⟨v, σ', H', J'.ofTry ok, r, q⟩
end
end MP

/-! Statements. -/
namespace MP
open PySem PySem.Spec PyProof.Rows L2

/-- an own exception class -/
structure ExcOk (K : PySem.W.Frag) (mg : Str → Option Value) (c : Str) (a : Addr) : Prop where
  ex : ∃ B newId initId bmB, ExcBaseFacts B newId initId bmB ∧ PySem.W.excIn K a bmB newId = true
  gl : mg c = some (.ref a)
  kp : PySem.W.keepIn K (.ref a) = true
  sub : PySem.W.subIn K (.ref a) (.type "BaseException") = some true
  ty : PySem.W.typeIn K (.ref a) = some (.type "type")
structure GoodS (C : Con) (N : List Str) (X : Cx) (sc : Scope) (ow : Str → Bool) (W : WX) : Prop where
  g : Good C N X sc ow (WE W)
  own : PassesOwn (model X.prog X.w) X.A X.env X.xe
  tk : L2N.Takes X W
  exc : ∀ c a, C.cls c = some a → ExcOk X.K X.mg c a
  kind : sc.kind = .function
  st : X.stack = X.env :: X.outer
  fr : X.env.frame = some X.env.locals
  ex : X.ex = []

def OkX (K : PySem.W.Frag) (cls : Str → Option Addr) (W : WX) (F : Hp) (ad : List Addr) (H : Hp) (r : MP.X) (D : Ends) : Prop := match r with
  | .nx env st => ∀ F' ad' H' σ', Step F ad H F' ad' H' → RelS K F' ad' st H' → EnvRel K F' ad' env σ' → D.nx σ' H'
  | .rt d st => ∀ F' ad' H' v, Step F ad H F' ad' H' → RelS K F' ad' st H' → Rep K F' ad' v d → D.rt v H'
  | .err c env st => ∀ F' ad' H' σ' a, Step F ad H F' ad' H' → RelS K F' ad' st H' → EnvRel K F' ad' env σ' → cls c = some a → W (.ref a) none σ' H'
  | .stuck => False
section
variable {K : PySem.W.Frag} {cls : Str → Option Addr} {W : WX} {F F1 : Hp} {ad ad1 : List Addr} {H H1 : Hp} {st st1 : Sto} {D D' : Ends}
theorem OkX.step (s : Step F ad H F1 ad1 H1) {r : MP.X} (h : OkX K cls W F ad H r D) : OkX K cls W F1 ad1 H1 r D := by
  cases r with
  | nx env st' => exact fun F' ad' H' v s' r' x' => h F' ad' H' v (s.trans s') r' x'
  | rt d st' => exact fun F' ad' H' v s' r' x' => h F' ad' H' v (s.trans s') r' x'
  | err c env st' => exact fun F' ad' H' σ' a s' r' x' e => h F' ad' H' σ' a (s.trans s') r' x' e
  | stuck => exact h
/-- an expression, then the rest -/
theorem OkX.bindE {cf : CF} {e : E} {env : MP.Env} {σ : L2.St} {f : MP.D → Sto → MP.X} (h : OkX K cls W F ad H ((evE cf e env st).toX env f) D) (en : EnvRel K F ad env σ) {Q : VK}
    (k : ∀ d st' F' ad' H' v, Step F ad H F' ad' H' → RelS K F' ad' st' H' → Rep K F' ad' v d → OkX K cls W F' ad' H' (f d st') D → Q v H') : OkV K cls (WE W σ) F ad H (evX cf e env st) Q := by
  unfold evE at h
  cases q : evX cf e env st with
  | ok x st' =>
    rw [q] at h
    intro F' ad' H' v s r xr
    obtain ⟨F'', s', r', q'⟩ := freezeX s r xr
    exact k x.d st' F'' ad' H' v s' r' q' (OkX.step s' h)
  | err c st' =>
    rw [q] at h
    exact fun F' ad' H' a s r e => h F' ad' H' σ a s r (en.step s) e
  | stuck => rw [q] at h; exact h
/-- a written tuple, then the rest -/
theorem OkX.bindTup {cf : CF} {fs : Es} {env : MP.Env} {σ : L2.St} {f : MP.D → Sto → MP.X} (h : OkX K cls W F ad H ((evE cf (.tup fs) env st).toX env f) D) (en : EnvRel K F ad env σ) {Q : List V → Hp → Prop}
    (k : ∀ ds st' F' ad' H' vs, Step F ad H F' ad' H' → RelS K F' ad' st' H' → Reps K F' ad' vs ds → ds.length ≤ sizeLine → OkX K cls W F' ad' H' (f (.tup ds) st') D → Q vs H') : OkL K cls (WE W σ) F ad H (evXs cf fs env st) Q := by
  unfold evE at h
  rw [evX_tupE] at h
  cases q : evXs cf fs env st with
  | ok ds st' =>
    rw [q] at h
    intro F' ad' H' vs s r xr
    by_cases hl : ds.length ≤ sizeLine
    · have h' : OkX K cls W F ad H (f (.tup ds) st') D := by
        rw [R.bind_ok, if_pos hl] at h; exact h
      exact k ds st' F' ad' H' vs s r xr hl (OkX.step s h')
    · rw [R.bind_ok, if_neg hl] at h; exact h.elim
  | err c st' =>
    rw [q] at h
    exact fun F' ad' H' a s r e => h F' ad' H' σ a s r (en.step s) e
  | stuck => rw [q] at h; exact h
theorem OkX.bindIt {cf : CF} {it : It} {env : MP.Env} {σ : L2.St} {f : MP.D × List MP.D → Sto → MP.X} (h : OkX K cls W F ad H ((evI cf it env st).toX env f) D) (en : EnvRel K F ad env σ) {QI : MP.D → List MP.D → Hp → List Addr → Hp → Prop}
    (k : ∀ p st' F' ad' H', Step F ad H F' ad' H' → RelS K F' ad' st' H' → OkX K cls W F' ad' H' (f p st') D → QI p.1 p.2 F' ad' H') : OkI K cls (WE W σ) F ad H (evI cf it env st) QI := by
  cases q : evI cf it env st with
  | ok x st' =>
    rw [q] at h
    intro F' ad' H' s r
    exact k x st' F' ad' H' s r (OkX.step s h)
  | err c st' =>
    rw [q] at h
    exact fun F' ad' H' a s r e => h F' ad' H' σ a s r (en.step s) e
  | stuck => rw [q] at h; exact h
end
def tS (C : Con) (X : Cx) (W : WX) (s : S) : TS := fun D σ H => ∃ F ad env st, RelS X.K F ad st H ∧ EnvRel X.K F ad env σ ∧ OkX X.K C.cls W F ad H (exS (run C.T C.k) s env st) D
def tSs (C : Con) (X : Cx) (W : WX) (ss : List S) : TS := fun D σ H => ∃ F ad env st, RelS X.K F ad st H ∧ EnvRel X.K F ad env σ ∧ OkX X.K C.cls W F ad H (exL (run C.T C.k) ss env st) D
theorem _root_.L2.PS.imp {X : Cx} {e : Stmt} {t t' : TS} (h : PS X e t) (i : ∀ D σ H, t' D σ H → t D σ H) : PS X e t' := ⟨fun pins s σ H Q I q => h.run pins s σ H Q I (i _ _ _ q)⟩
theorem _root_.L2.PSs.imp {X : Cx} {e : List Stmt} {t t' : TS} (h : PSs X e t) (i : ∀ D σ H, t' D σ H → t D σ H) : PSs X e t' := ⟨fun pins s σ H Q I q => h.run pins s σ H Q I (i _ _ _ q)⟩

/-! ### the check -/
def localB (sc : Scope) (x : Str) : Bool := sc.names.lookup x == some .local
/-- name = [..] stores as it goes -/
def swapB (sc : Scope) (x : Str) (px : Pos) : Expr → Bool
  | .ListComp _ _ scope p => localB sc x && (px.line == p.line) && !(scope.names.any fun (n, k) => n == x && (k == .local || k == .cell))
  | _ => false
def compB : Expr → Bool
  | .ListComp _ _ _ _ => true
  | .SetComp _ _ _ _ => true
  | .DictComp _ _ _ _ _ => true
  | _ => false
def compB2 : Expr → Bool
  | .SetComp _ _ _ _ => true
  | .DictComp _ _ _ _ _ => true
  | _ => false
def nmL (N : List Str) (sc : Scope) (i : Nat) : Expr → Bool
  | .Name x _ => (N[i]? == some x) && localB sc x
  | _ => false
def lineOf : Expr → Nat
  | .Name _ p => p.line
  | _ => 0
def isComp : E → Option (E × Tg × It × E × List Nat)
  | .comp elt tg it cond own => some (elt, tg, it, cond, own)
  | .cell (.comp elt tg it cond own) => some (elt, tg, it, cond, own)
  | _ => none
mutual
def chkS (T : Nat → Option Def) (G : Str → Option D) (cls : Str → Option Addr) (N : List Str) (sc : Scope) (ow : Str → Bool) : S → Stmt → Bool
  | .set i e, ps => (match ps with
    | .Assign [.Name x px] pe _ => (N[i]? == some x) && locB sc ow x && chkE T G N sc ow e pe && !compB2 pe && (!swapB sc x px pe || (isComp e).isSome)
    | _ => false)
  | .unpack is e, ps => (match ps with
    | .Assign [.Tuple qs _ _] pe _ => chkNames N sc ow is qs && chkE T G N sc ow e pe && !tupB pe
    | _ => false)
  | .par2 i j a b, ps => (match ps with
    | .Assign [.Tuple [qx, qy] _ _] (.Tuple [pa, pb] _ _) _ => nmL N sc i qx && nmL N sc j qy && decide (i ≠ j) && (lineOf qx == lineOf qy) && !starB pa && !starB pb && !([pa, pb].all (foldedForSure 8)) && !([pa, pb].all (constantsAlone 8)) && chkE T G N sc ow a pa && chkE T G N sc ow b pb
    | _ => false)
  | .par3 i j k a b c, ps => (match ps with
    | .Assign [.Tuple [qx, qy, qz] _ _] (.Tuple [pa, pb, pc] _ _) _ => nmL N sc i qx && nmL N sc j qy && nmL N sc k qz && decide (i ≠ j) && decide (i ≠ k) && decide (j ≠ k) && (lineOf qx == lineOf qy) && (lineOf qx == lineOf qz) && !starB pa && !starB pb && !starB pc && !([pa, pb, pc].all (foldedForSure 8)) && !([pa, pb, pc].all (constantsAlone 8)) && chkE T G N sc ow a pa && chkE T G N sc ow b pb && chkE T G N sc ow c pc
    | _ => false)
  | .put o i v, ps => (match ps with
    | .Assign [.Subscript po pi _] pe _ => plainIxB pi && chkE T G N sc ow v pe && chkE T G N sc ow o po && chkE T G N sc ow i pi
    | _ => false)
  | .dput o i v, ps => (match ps with
    | .Assign [.Subscript po pi _] pe _ => plainIxB pi && chkE T G N sc ow v pe && chkE T G N sc ow o po && chkE T G N sc ow i pi
    | _ => false)
  | .expr e, ps => (match ps with
    | .Expr pe _ => !compB pe && chkE T G N sc ow e pe
    | _ => false)
  | .ret e, ps => (match ps with
    | .Return (some pe) _ => chkE T G N sc ow e pe
    | _ => false)
  | .retN, ps => (match ps with
    | .Return none _ => true
    | _ => false)
  | .ife c a b, ps => (match ps with
    | .If pc pa pb _ => tokB pc && chkE T G N sc ow c pc && chkL T G cls N sc ow a pa && chkL T G cls N sc ow b pb
    | _ => false)
  | .ifeT c a b _, ps => (match ps with
    | .If pc pa pb _ => tokB pc && chkE T G N sc ow c pc && chkL T G cls N sc ow a pa && chkL T G cls N sc ow b pb
    | _ => false)
  | .for_ tg it body tmp trim, ps => (match ps with
    | .For ptg pit pb [] _ => chkTg N sc ow tg ptg && chkI T G N sc ow (tupB ptg) it pit && !setB pit && chkL T G cls N sc ow body pb
    | _ => false)
  | .while_ c body tmp trim, ps => (match ps with
    | .While pc pb [] _ => tokB pc && chkE T G N sc ow c pc && chkL T G cls N sc ow body pb
    | _ => false)
  | .raise c, ps => (match ps with
    | .Raise (some (.Call (.Name x _) [.Constant (.str _) _ _] [] _)) none _ => c == x && (cls c).isSome && glB sc x && okN x
    | _ => false)
  | .fz _, _ => false
  | .dead, _ => false
  | .tryA body i suite, ps => (match ps with
    | .Try pb [.ExceptHandler (some (.Name x _)) (some n) (p0 :: psu) _] [] [] _ => x == "HallError" && glB sc x && isExG (G "HallError") && (N[i]? == some n) && localB sc n && hotL T (hotD T) suite && chkL T G cls N sc ow body pb && chkL T G cls N sc ow suite (p0 :: psu)
    | _ => false)
def chkL (T : Nat → Option Def) (G : Str → Option D) (cls : Str → Option Addr) (N : List Str) (sc : Scope) (ow : Str → Bool) : List S → List Stmt → Bool
  | [], ps => (match ps with
    | [] => true
    | _ => false)
  | s :: ss, ps => if isDead s then true else if isFz s then chkL T G cls N sc ow ss ps else (match ps with
    | p :: ps => chkS T G cls N sc ow s p && chkL T G cls N sc ow ss ps
    | [] => false)
end

section
variable {C : Con} {N : List Str} {X : Cx} {sc : Scope} {ow : Str → Bool} {W : WX}
theorem block_fn {env : PySem.Env} (h : env.scope.kind = .function) : env.blockKind = .function := by
  unfold Env.blockKind; rw [h]; rfl
theorem swap_eq {env : PySem.Env} {pe : Expr} {x : Str} {px : Pos} {l : Nat} (hk : env.scope.kind = .function) (hc : compB2 pe = false) : swapsWith pe (some (.Name x px)) l env = pure (swapB env.scope x px pe) := by
  cases pe <;> first
    | rfl
    | (cases hc; done)
    | skip
  unfold swapsWith swapB localB
  simp only [block_fn hk]
  rfl
theorem comp_of {e : E} {pe : Expr} (g : Good C N X sc ow (WE W)) (h : chkE C.T C.G N sc ow e pe = true) {elt cond : E} {tg : Tg} {it : It} {own : List Nat} (hc : isComp e = some (elt, tg, it, cond, own)) :
    ∃ pelt ptg pit pifs scope pos, pe = .ListComp pelt [⟨ptg, pit, pifs, 0⟩] scope pos ∧ CompOk C N X sc (WE W) elt cond tg it own pelt ptg pit pifs scope ∧ ∀ σ H Q, tX C X (WE W) e σ H Q → tX C X (WE W) (.comp elt tg it cond own) σ H Q := by
  have main : ∀ {pe}, chkE C.T C.G N sc ow (.comp elt tg it cond own) pe = true → ∃ pelt ptg pit pifs scope pos, pe = .ListComp pelt [⟨ptg, pit, pifs, 0⟩] scope pos ∧ CompOk C N X sc (WE W) elt cond tg it own pelt ptg pit pifs scope := fun {pe} h => by
    unfold chkE at h
    split at h
    · rename_i pelt ptg pit pifs scope pos
      simp only [Bool.and_eq_true, Bool.not_eq_true'] at h
      obtain ⟨⟨⟨⟨⟨⟨h1, h2⟩, h3⟩, h4⟩, h5⟩, h6⟩, h7⟩ := h
      refine ⟨pelt, ptg, pit, pifs, scope, pos, rfl, ⟨by rw [g.hN, g.sc]; exact blkOk_by h1, sndI it h2 g ptg (fun z => z), fun s H Cc cl fp => pg_of (g.blk s H scope cl Cc fp) h5, fun s H Cc cl fp => ?_, fun s H Cc cl fp => (sndE elt h6 (g.blk s H scope cl Cc fp)).ex, not_set h3, nat_all h4⟩⟩
      cases pifs with
      | nil =>
        have e1 : cond = .lit (.bool true) := by
          simp only at h7
          unfold isTrueLit at h7
          split at h7
          · rfl
          · cases h7
        subst e1
        refine ⟨fun pins s σ H Q I q => pts_nil.run pins s σ H Q I ?_⟩
        obtain ⟨F, ad, env, st, r, en, ok⟩ := q
        unfold evX at ok
        obtain ⟨c, e, q⟩ := ok.val r (.bool true)
        cases e
        exact q
      | cons pc r =>
        cases r with
        | nil =>
          simp only [Bool.and_eq_true] at h7
          exact pts_one ((sndE cond h7.2 (g.blk s H scope cl Cc fp)).tst h7.1)
        | cons _ _ => cases h7
    · cases h
  unfold isComp at hc
  split at hc
  · cases hc
    obtain ⟨a1, a2, a3, a4, a5, a6, a7, a8⟩ := main h
    exact ⟨a1, a2, a3, a4, a5, a6, a7, a8, fun σ H Q q => q⟩
  · cases hc
    unfold chkE at h
    obtain ⟨a1, a2, a3, a4, a5, a6, a7, a8⟩ := main h
    exact ⟨a1, a2, a3, a4, a5, a6, a7, a8, fun σ H Q q => cell_key q⟩
  · cases hc
theorem set_key {i : Nat} {e : E} {D : Ends} {σ : L2.St} {H : Hp} (h : tS C X W (.set i e) D σ H) : tX C X (WE W) e σ H fun x H1 => D.nx (σ.set i (some x)) H1 := by
  obtain ⟨F, ad, env, st, r, en, ok⟩ := h
  unfold exS at ok
  exact ⟨F, ad, env, st, r, en, ok.bindE en fun d st' F' ad' H' v s r' x ok' => ok' _ _ _ _ (Step.refl _ _ _) r' ((en.step s).set i x)⟩
theorem ss_set {i : Nat} {e : E} {ps : Stmt} (g : GoodS C N X sc ow W) (h : chkS C.T C.G C.cls N sc ow (.set i e) ps = true) : PS X ps (tS C X W (.set i e)) := by
  unfold chkS at h
  split at h
  · rename_i x px pe pos
    simp only [Bool.and_eq_true, beq_iff_eq, Bool.not_eq_true'] at h
    obtain ⟨⟨⟨⟨h1, h2⟩, h3⟩, h4⟩, h5⟩ := h
    obtain ⟨l1, l2⟩ := loc_of g.g h2
    have hk : X.env.scope.kind = .function := by rw [g.g.sc]; exact g.kind
    have hsw := swap_eq (x := x) (px := px) (l := pos.line) hk h4
    rw [g.g.sc] at hsw
    cases hs : swapB sc x px pe with
    | false =>
      rw [hs] at hsw
      exact (ps_set (by rw [g.g.hN]; exact g.g.nd) (by rw [g.g.hN]; exact h1) l1 (sndE e h3 g.g).ex hsw l2).imp fun D σ H q => set_key q
    | true =>
      rw [hs] at h5 hsw
      simp only [Bool.not_true, Bool.false_or] at h5
      obtain ⟨⟨elt, tg, it, cond, own⟩, hc⟩ := Option.isSome_iff_exists.mp h5
      obtain ⟨pelt, ptg, pit, pifs, scope, pos', e1, ok, key⟩ := comp_of g.g h3 hc
      subst e1
      have hl : X.env.scope.names.lookup x = some .local := by
        unfold swapB localB at hs
        simp only [Bool.and_eq_true, beq_iff_eq] at hs
        rw [g.g.sc]; exact hs.1.1
      refine (ps_setLc g.g.calm (by rw [g.g.hN]; exact g.g.nd) (by rw [g.g.hN]; exact h1) hl hsw ok.itp ok.blk ok.tgp ok.tt ok.te ok.ns).imp fun D σ H q => ?_
      show tLc _ _ _ _ _ σ H fun x H1 => gName i x σ H1 D.nx
      rw [ownP_snd]
      exact comp_key ok.sub (key _ _ _ (set_key q))
  · cases h
theorem ss_unpack {is : List Nat} {e : E} {ps : Stmt} (g : GoodS C N X sc ow W) (h : chkS C.T C.G C.cls N sc ow (.unpack is e) ps = true) : PS X ps (tS C X W (.unpack is e)) := by
  unfold chkS at h
  split at h
  · rename_i qs k pt pe pos
    simp only [Bool.and_eq_true, Bool.not_eq_true'] at h
    obtain ⟨⟨h1, h2⟩, h3⟩ := h
    obtain ⟨g1, g2, g3⟩ := pgs_of g.g h1
    refine (ps_asg (sndE e h2 g.g).ex (pg_tup g.g.calm g1 g2 g3) (by cases pe <;> rfl) (by cases pe <;> first | rfl | cases h3) rfl).imp fun D σ H q => ?_
    obtain ⟨F, ad, env, st, r, en, ok⟩ := q
    unfold exS at ok
    refine ⟨F, ad, env, st, r, en, ok.bindE en fun d st' F' ad' H' v s r' x ok' => ?_⟩
    split at ok'
    · rename_i env' e'
      exact tT_ok (tg := .many is) r' x (en.step s) e' fun σ' en' _ => ok' _ _ _ _ (Step.refl _ _ _) r' en'
    · exact ok'.elim
  · cases h
theorem sw2 {env : PySem.Env} {x y : Str} {px py pt pt2 : Pos} {kt k2} {pa pb : Expr} (hk : env.scope.kind = .function) (hx : env.scope.names.lookup x = some .local) (hy : env.scope.names.lookup y = some .local) (hl : px.line = py.line) (hne : x ≠ y)
    (sa : starB pa = false) (sb : starB pb = false) (hf : ([pa, pb].all (foldedForSure 8)) = false) (hc : ([pa, pb].all (constantsAlone 8)) = false) :
    swappedStores [.Tuple [.Name x px, .Name y py] kt pt] (.Tuple [pa, pb] k2 pt2) env = pure (some [x, y]) := by
  have kx : env.kindOf x = some .local := hx
  have ky : env.kindOf y = some .local := hy
  unfold swappedStores
  simp [block_fn hk, kx, ky, hl, hf, hc, Expr.pos, List.eraseDups]
  rw [if_neg, if_pos]
  · have e1 : (y == x) = false := by simpa using Ne.symm hne
    simp [List.eraseDupsBy, List.eraseDupsBy.loop, e1]
  · intro h
    rcases h with h | h
    · split at h
      · cases sa
      · cases h
    · split at h
      · cases sb
      · cases h
theorem sw3 {env : PySem.Env} {x y z : Str} {px py pz pt pt2 : Pos} {kt k2} {pa pb pc : Expr} (hk : env.scope.kind = .function) (hx : env.scope.names.lookup x = some .local) (hy : env.scope.names.lookup y = some .local) (hz : env.scope.names.lookup z = some .local) (hl : px.line = py.line) (hl2 : px.line = pz.line) (hne : x ≠ y) (hne2 : x ≠ z) (hne3 : y ≠ z)
    (sa : starB pa = false) (sb : starB pb = false) (sc : starB pc = false) (hf : ([pa, pb, pc].all (foldedForSure 8)) = false) (hc : ([pa, pb, pc].all (constantsAlone 8)) = false) :
    swappedStores [.Tuple [.Name x px, .Name y py, .Name z pz] kt pt] (.Tuple [pa, pb, pc] k2 pt2) env = pure (some [x, y, z]) := by
  have kx : env.kindOf x = some .local := hx
  have ky : env.kindOf y = some .local := hy
  have kz : env.kindOf z = some .local := hz
  unfold swappedStores
  simp [block_fn hk, kx, ky, kz, ← hl, ← hl2, hf, hc, Expr.pos, List.eraseDups]
  rw [if_neg, if_pos]
  · have e1 : (y == x) = false := by simpa using Ne.symm hne
    have e2 : (z == x) = false := by simpa using Ne.symm hne2
    have e3 : (z == y) = false := by simpa using Ne.symm hne3
    simp [List.eraseDupsBy, List.eraseDupsBy.loop, e1, e2, e3]
  · intro h
    rcases h with h | h | h
    · split at h
      · cases sa
      · cases h
    · split at h
      · cases sb
      · cases h
    · split at h
      · cases sc
      · cases h
theorem nmL_of {i : Nat} {q : Expr} (h : nmL N sc i q = true) : ∃ x p, q = .Name x p ∧ N[i]? = some x ∧ sc.names.lookup x = some .local := by
  unfold nmL at h
  split at h
  · rename_i x p
    unfold localB at h
    simp only [Bool.and_eq_true, beq_iff_eq] at h
    exact ⟨x, p, rfl, h.1, h.2⟩
  · cases h
theorem nm_ne {i j : Nat} {x y : Str} (nd : N.Nodup) (hi : N[i]? = some x) (hj : N[j]? = some y) (h : i ≠ j) : x ≠ y := fun e => by
  subst e
  exact h (nodup_ix nd hi hj)
theorem ss_par2 {i j : Nat} {a b : E} {ps : Stmt} (g : GoodS C N X sc ow W) (h : chkS C.T C.G C.cls N sc ow (.par2 i j a b) ps = true) : PS X ps (tS C X W (.par2 i j a b)) := by
  unfold chkS at h
  split at h
  · rename_i qx qy k1 p1 pa pb k2 p2 pos
    simp only [Bool.and_eq_true, beq_iff_eq, Bool.not_eq_true', decide_eq_true_eq] at h
    obtain ⟨⟨⟨⟨⟨⟨⟨⟨⟨h1, h2⟩, h3⟩, h4⟩, h5⟩, h6⟩, h7⟩, h8⟩, h9⟩, h10⟩ := h
    obtain ⟨x, px, rfl, n1, l1⟩ := nmL_of h1
    obtain ⟨y, py, rfl, n2, l2⟩ := nmL_of h2
    have hsc := g.g.sc
    have hN := g.g.hN
    have hk : X.env.scope.kind = .function := by rw [hsc]; exact g.kind
    refine (ps_par g.g.calm (by rw [hN]; exact g.g.nd) (by rw [hN]; exact n1) (by rw [hN]; exact n2) h3 (by rw [hsc]; exact l1) (by rw [hsc]; exact l2) (pa_cons (sndE a h9 g.g).ex (pa_cons (sndE b h10 g.g).ex pa_nil (star_each h6)) (star_each h5))
      (sw2 hk (by rw [hsc]; exact l1) (by rw [hsc]; exact l2) h4 (nm_ne g.g.nd n1 n2 h3) h5 h6 h7 h8)).imp fun D σ H q => ?_
    obtain ⟨F, ad, env, st, r, en, ok⟩ := q
    unfold exS at ok
    show tX C X (WE W) a σ H fun u H1 => tX C X (WE W) b σ H1 fun v H2 => ∃ v' w', [u, v] = [v', w'] ∧ D.nx ((σ.set i (some v')).set j (some w')) H2
    refine ⟨F, ad, env, st, r, en, ok.bindE en fun d st1 F1 ad1 H1 v s1 r1 x1 ok1 => ?_⟩
    refine ⟨F1, ad1, env, st1, r1, en.step s1, ok1.bindE (en.step s1) fun d2 st2 F2 ad2 H2 w s2 r2 x2 ok2 => ?_⟩
    exact ⟨_, _, rfl, ok2 _ _ _ _ (Step.refl _ _ _) r2 ((((en.step s1).step s2).set i (x1.step s2)).set j x2)⟩
  · cases h
theorem ss_par3 {i j k : Nat} {a b c : E} {ps : Stmt} (g : GoodS C N X sc ow W) (h : chkS C.T C.G C.cls N sc ow (.par3 i j k a b c) ps = true) : PS X ps (tS C X W (.par3 i j k a b c)) := by
  unfold chkS at h
  split at h
  · rename_i qx qy qz k1 p1 pa pb pc k2 p2 pos
    simp only [Bool.and_eq_true, beq_iff_eq, Bool.not_eq_true', decide_eq_true_eq] at h
    obtain ⟨⟨⟨⟨⟨⟨⟨⟨⟨⟨⟨⟨⟨⟨⟨h1, h2⟩, h3⟩, e1⟩, e2⟩, e3⟩, l4⟩, l5⟩, h4⟩, h5⟩, h6⟩, h7⟩, h8⟩, h9⟩, h10⟩, h11⟩ := h
    obtain ⟨x, px, rfl, n1, l1⟩ := nmL_of h1
    obtain ⟨y, py, rfl, n2, l2⟩ := nmL_of h2
    obtain ⟨z, pz, rfl, n3, l3⟩ := nmL_of h3
    have hsc := g.g.sc
    have hN := g.g.hN
    have hk : X.env.scope.kind = .function := by rw [hsc]; exact g.kind
    refine (ps_par3 g.g.calm (by rw [hN]; exact g.g.nd) (by rw [hN]; exact n1) (by rw [hN]; exact n2) (by rw [hN]; exact n3) e1 e2 e3 (by rw [hsc]; exact l1) (by rw [hsc]; exact l2) (by rw [hsc]; exact l3) (pa_cons (sndE a h9 g.g).ex (pa_cons (sndE b h10 g.g).ex (pa_cons (sndE c h11 g.g).ex pa_nil (star_each h6)) (star_each h5)) (star_each h4))
      (sw3 hk (by rw [hsc]; exact l1) (by rw [hsc]; exact l2) (by rw [hsc]; exact l3) l4 l5 (nm_ne g.g.nd n1 n2 e1) (nm_ne g.g.nd n1 n3 e2) (nm_ne g.g.nd n2 n3 e3) h4 h5 h6 h7 h8)).imp fun D σ H q => ?_
    obtain ⟨F, ad, env, st, r, en, ok⟩ := q
    unfold exS at ok
    show tX C X (WE W) a σ H fun u H1 => tX C X (WE W) b σ H1 fun v H2 => tX C X (WE W) c σ H2 fun w H3 => ∃ u' v' w', [u, v, w] = [u', v', w'] ∧ D.nx (((σ.set i (some u')).set j (some v')).set k (some w')) H3
    refine ⟨F, ad, env, st, r, en, ok.bindE en fun d st1 F1 ad1 H1 v s1 r1 x1 ok1 => ?_⟩
    refine ⟨F1, ad1, env, st1, r1, en.step s1, ok1.bindE (en.step s1) fun d2 st2 F2 ad2 H2 w s2 r2 x2 ok2 => ?_⟩
    have en2 := (en.step s1).step s2
    refine ⟨F2, ad2, env, st2, r2, en2, ok2.bindE en2 fun d3 st3 F3 ad3 H3 w3 s3 r3 x3 ok3 => ?_⟩
    exact ⟨_, _, _, rfl, ok3 _ _ _ _ (Step.refl _ _ _) r3 ((((en2.step s3).set i ((x1.step s2).step s3)).set j (x2.step s3)).set k x3)⟩
  · cases h
theorem ixN_len {n m : Nat} {k : Int} {j : Nat} (e : n = m) (h : ixN n k = some j) : ixN m k = some j := by subst e; exact h
theorem ss_put {o i v : E} {ps : Stmt} (g : GoodS C N X sc ow W) (h : chkS C.T C.G C.cls N sc ow (.put o i v) ps = true) : PS X ps (tS C X W (.put o i v)) := by
  unfold chkS at h
  split at h
  · rename_i po pi p1 pe pos
    simp only [Bool.and_eq_true] at h
    obtain ⟨⟨⟨h1, h2⟩, h3⟩, h4⟩ := h
    refine (ps_asg (sndE v h2 g.g).ex (pg_sub (sndE o h3 g.g).ex (sndE i h4 g.g).ex set_list (fun v => by cases pi <;> first | rfl | cases h1)) (by cases pe <;> rfl) (by cases pe <;> rfl) rfl).imp fun D σ H q => ?_
    obtain ⟨F, ad, env, st, r, en, ok⟩ := q
    unfold exS at ok
    refine ⟨F, ad, env, st, r, en, ok.bindE en fun d st1 F1 ad1 H1 v s1 r1 x1 ok1 => ?_⟩
    refine ⟨F1, ad1, env, st1, r1, en.step s1, ok1.bindE (en.step s1) fun d2 st2 F2 ad2 H2 w s2 r2 x2 ok2 => ?_⟩
    have en2 := (en.step s1).step s2
    refine ⟨F2, ad2, env, st2, r2, en2, ok2.bindE en2 fun d3 st3 F3 ad3 H3 w3 s3 r3 x3 ok3 => ?_⟩
    have y2 := x2.step s3
    have y1 := (x1.step s2).step s3
    split at ok3
    · rename_i st' e
      unfold putV at e
      split at e
      · cases x3
        cases y2 with
        | ref ha =>
          rename_i n k a
          split at e
          · rename_i xs hx
            obtain ⟨vs, g1, g2⟩ := r3.cell _ _ _ hx ha
            split at e
            · rename_i j hj
              cases e
              refine ⟨a, vs, _, j, rfl, rfl, g1, ixN_len g2.length.symm hj, ?_⟩
              exact ok3 _ _ _ _ (Step.write ha) (r3.write ⟨ha, by rw [hx]; intro z; cases z⟩ ⟨_, upd_same, g2.set j y1⟩) (en2.step s3)
            · cases e
          · cases e
      · cases e
    · exact ok3.elim
  · cases h
theorem ss_dputK {o i v : E} {ps : Stmt} (ht : isTupE i = false) (g : GoodS C N X sc ow W) (h : chkS C.T C.G C.cls N sc ow (.dput o i v) ps = true) : PS X ps (tS C X W (.dput o i v)) := by
  unfold chkS at h
  split at h
  · rename_i po pi p1 pe pos
    simp only [Bool.and_eq_true] at h
    obtain ⟨⟨⟨h1, h2⟩, h3⟩, h4⟩ := h
    refine (ps_dput (by have := units_ok g.g; omega) (sndE o h3 g.g).ex (sndE i h4 g.g).ex (sndE v h2 g.g).ex (by cases pe <;> rfl)).imp fun D σ H q => ?_
    obtain ⟨F, ad, env, st, r, en, ok⟩ := q
    unfold exS at ok
    refine ⟨F, ad, env, st, r, en, ok.bindE en fun d st1 F1 ad1 H1 v s1 r1 x1 ok1 => ?_⟩
    refine ⟨F1, ad1, env, st1, r1, en.step s1, ok1.bindE (en.step s1) fun d2 st2 F2 ad2 H2 w s2 r2 x2 ok2 => ?_⟩
    have en2 := (en.step s1).step s2
    refine ⟨F2, ad2, env, st2, r2, en2, ok2.bindE en2 fun d3 st3 F3 ad3 H3 w3 s3 r3 x3 ok3 => ?_⟩
    have y2 := x2.step s3
    have y1 := (x1.step s2).step s3
    split at ok3
    · rename_i st' e
      rw [ht] at e
      unfold dputV at e
      split at e
      · cases x3
        cases y2 with
        | ref ha =>
          rename_i n k a
          split at e
          · rename_i ks ds hx
            obtain ⟨vs, g1, g2, g3⟩ := r3.cell _ _ _ hx ha
            split at e
            · rename_i hlt
              have lv := (look_val (k := Sum.inl k) g2 g3).2
              have hlz : (ks.zip vs).length < sizeLine := by rw [List.length_zip]; omega
              refine ⟨a, _, rfl, DPut.k (k := Sum.inl k) g1 hlz, ?_⟩
              have hw : ad3[n]? = some a ∧ st3[n]? ≠ some .dead := ⟨ha, by rw [hx]; intro z; cases z⟩
              split at e
              · rename_i hs
                cases e
                refine ok3 _ _ _ _ (Step.write ha) (r3.write hw ⟨setAt (Sum.inl k) v ks vs, ?_, by rw [setAt_len]; exact g2, reps_setAt y1 g3⟩) (en2.step s3)
                rw [upd_same]
                unfold putK
                rw [valV_any, ← lv, if_pos hs, zip_setAt]
              · rename_i hs
                cases e
                refine ok3 _ _ _ _ (Step.write ha) (r3.write hw ⟨vs ++ [v], ?_, by simp [g2], g3.append (.one y1)⟩) (en2.step s3)
                rw [upd_same]
                unfold putK
                rw [valV_any, ← lv, if_neg hs, zip_snoc g2]
            · cases e
          · cases e
      · cases x3
        cases y2 with
        | ref ha =>
          rename_i n k a
          split at e
          · rename_i ks ds hx
            obtain ⟨vs, g1, g2, g3⟩ := r3.cell _ _ _ hx ha
            split at e
            · rename_i hlt
              have lv := (look_val (k := Sum.inr k) g2 g3).2
              have hlz : (ks.zip vs).length < sizeLine := by rw [List.length_zip]; omega
              refine ⟨a, _, rfl, DPut.k (k := Sum.inr k) g1 hlz, ?_⟩
              have hw : ad3[n]? = some a ∧ st3[n]? ≠ some .dead := ⟨ha, by rw [hx]; intro z; cases z⟩
              split at e
              · rename_i hs
                cases e
                refine ok3 _ _ _ _ (Step.write ha) (r3.write hw ⟨setAt (Sum.inr k) v ks vs, ?_, by rw [setAt_len]; exact g2, reps_setAt y1 g3⟩) (en2.step s3)
                rw [upd_same]
                unfold putK
                rw [valV_any, ← lv, if_pos hs, zip_setAt]
              · rename_i hs
                cases e
                refine ok3 _ _ _ _ (Step.write ha) (r3.write hw ⟨vs ++ [v], ?_, by simp [g2], g3.append (.one y1)⟩) (en2.step s3)
                rw [upd_same]
                unfold putK
                rw [valV_any, ← lv, if_neg hs, zip_snoc g2]
            · cases e
          · cases e
      · rename_i n es
        cases y2 with
        | ref ha =>
        rename_i a
        split at e
        · rename_i ks ds k hp hx hk
          have hp : pairI es = true := by simpa using hp
          obtain ⟨ws, g1, g2, g3⟩ := r3.cell _ _ _ hx ha
          cases x3 with
          | tup ht hr =>
          rename_i b vs
          match es, hp, hr, hk with
          | [.int i, .int j], _, hr, hk =>
            have hvs : vs = [V.int i, V.int j] := by
              cases hr with
              | cons q1 q2 =>
                cases q2 with
                | cons q3 q4 =>
                  cases q4
                  cases q1
                  cases q3
                  rfl
            have hb := r3.sub _ _ (ht.2 i j hvs)
            have ek : k = [Sum.inl i, Sum.inl j] := by
              have hk : some [Sum.inl i, Sum.inl j] = some k := hk
              injection hk with hk
              exact hk.symm
            have hb : H3 b = some (.tup (k.map kV)) := by rw [hb, hvs, ek]; rfl
            split at e
            · rename_i hlt
              have lv := (look_val (k := k) g2 g3).2
              have hlz : (ks.zip ws).length < sizeLine := by rw [List.length_zip]; omega
              refine ⟨a, _, rfl, DPut.t (k := k) g1 hb hlz, ?_⟩
              have hw : ad3[n]? = some a ∧ st3[n]? ≠ some .dead := ⟨ha, by rw [hx]; intro z; cases z⟩
              split at e
              · rename_i hs
                cases e
                refine ok3 _ _ _ _ (Step.write ha) (r3.write hw ⟨setAt k v ks ws, ?_, by rw [setAt_len]; exact g2, reps_setAt y1 g3⟩) (en2.step s3)
                rw [upd_same]
                unfold putK
                rw [valV_any, ← lv, if_pos hs, zip_setAt]
              · rename_i hs
                cases e
                refine ok3 _ _ _ _ (Step.write ha) (r3.write hw ⟨ws ++ [v], ?_, by simp [g2], g3.append (.one y1)⟩) (en2.step s3)
                rw [upd_same]
                unfold putK
                rw [valV_any, ← lv, if_neg hs, zip_snoc g2]
            · cases e
        · cases e
      · cases e
    · exact ok3.elim
  · cases h
theorem ss_dputT {o v : E} {fs : Es} {ps : Stmt} (g : GoodS C N X sc ow W) (h : chkS C.T C.G C.cls N sc ow (.dput o (.tup fs) v) ps = true) : PS X ps (tS C X W (.dput o (.tup fs) v)) := by
  unfold chkS at h
  split at h
  · rename_i po pi p1 pe pos
    simp only [Bool.and_eq_true] at h
    obtain ⟨⟨⟨h1, h2⟩, h3⟩, h4⟩ := h
    unfold chkE at h4
    split at h4
    · rename_i qs x1 tpos
      refine (ps_dput (by have := units_ok g.g; omega) (sndE o h3 g.g).ex (pe_tup (sndEs fs h4 g.g).1) (sndE v h2 g.g).ex (by cases pe <;> rfl)).imp fun D σ H q => ?_
      obtain ⟨F, ad, env, st, r, en, ok⟩ := q
      unfold exS at ok
      refine ⟨F, ad, env, st, r, en, ok.bindE en fun d st1 F1 ad1 H1 v s1 r1 x1 ok1 => ?_⟩
      refine ⟨F1, ad1, env, st1, r1, en.step s1, ok1.bindE (en.step s1) fun d2 st2 F2 ad2 H2 w s2 r2 x2 ok2 => ?_⟩
      have en2 := (en.step s1).step s2
      refine ⟨F2, ad2, env, st2, r2, en2, ok2.bindTup en2 fun es st3 F3 ad3 H3 vs s3 r3 xs3 hl ok3 => ⟨by rw [xs3.length]; exact hl, fun p hp => ?_⟩⟩
      have y2 := x2.step s3
      have y1 := (x1.step s2).step s3
      have nF : F3 p = none := by
        cases e : F3 p with
        | none => rfl
        | some o => rw [r3.sub p o e] at hp; cases hp
      split at ok3
      · rename_i st' e
        unfold dputV at e
        split at e
        · rename_i e0; cases e0
        · rename_i e0; cases e0
        · rename_i n es' e0
          cases e0
          cases y2 with
          | ref ha =>
          rename_i a
          split at e
          · rename_i ks ds k _ hx hk
            obtain ⟨ws, g1, g2, g3⟩ := r3.cell _ _ _ hx ha
            split at e
            · rename_i hlt
              have ev := keys_reps xs3 hk
              subst ev
              have lv := (look_val (k := k) g2 g3).2
              have hlz : (ks.zip ws).length < sizeLine := by rw [List.length_zip]; omega
              have hT : (upd H3 p (.tup (k.map kV))) a = some (.dT (ks.zip ws)) := by rw [upd_ne (fun z => by rw [z, hp] at g1; cases g1)]; exact g1
              refine ⟨a, _, rfl, DPut.t (k := k) hT upd_same hlz, ?_⟩
              have hw : ad3[n]? = some a ∧ st3[n]? ≠ some .dead := ⟨ha, by rw [hx]; intro z; cases z⟩
              have rb := r3.beside (o := .tup (k.map kV)) hp
              have en3 := en2.step s3
              split at e
              · rename_i hs
                cases e
                refine ok3 _ _ _ _ ((Step.beside hp).trans (Step.write ha)) (rb.write hw ⟨setAt k v ks ws, ?_, by rw [setAt_len]; exact g2, reps_setAt y1 g3⟩) en3
                rw [upd_same]
                unfold putK
                rw [valV_any, ← lv, if_pos hs, zip_setAt]
              · rename_i hs
                cases e
                refine ok3 _ _ _ _ ((Step.beside hp).trans (Step.write ha)) (rb.write hw ⟨ws ++ [v], ?_, by simp [g2], g3.append (.one y1)⟩) en3
                rw [upd_same]
                unfold putK
                rw [valV_any, ← lv, if_neg hs, zip_snoc g2]
            · cases e
          · cases e
        · cases e
      · exact ok3.elim
    · cases h4
  · cases h
theorem ss_dput {o i v : E} {ps : Stmt} (g : GoodS C N X sc ow W) (h : chkS C.T C.G C.cls N sc ow (.dput o i v) ps = true) : PS X ps (tS C X W (.dput o i v)) := by
  cases hi : isTupE i with
  | false => exact ss_dputK hi g h
  | true =>
    cases i <;> first | (cases hi; done) | exact ss_dputT g h
theorem ss_expr {e : E} {ps : Stmt} (g : GoodS C N X sc ow W) (h : chkS C.T C.G C.cls N sc ow (.expr e) ps = true) : PS X ps (tS C X W (.expr e)) := by
  unfold chkS at h
  split at h
  · rename_i pe pos
    simp only [Bool.and_eq_true, Bool.not_eq_true'] at h
    refine (ps_expr (sndE e h.2 g.g).ex (by cases pe <;> first | rfl | (exact absurd h.1 (by simp [compB])))).imp fun D σ H q => ?_
    obtain ⟨F, ad, env, st, r, en, ok⟩ := q
    unfold exS at ok
    exact ⟨F, ad, env, st, r, en, ok.bindE en fun d st1 F1 ad1 H1 v s1 r1 x1 ok1 => ok1 _ _ _ _ (Step.refl _ _ _) r1 (en.step s1)⟩
  · cases h
theorem ss_ret {e : E} {ps : Stmt} (g : GoodS C N X sc ow W) (h : chkS C.T C.G C.cls N sc ow (.ret e) ps = true) : PS X ps (tS C X W (.ret e)) := by
  unfold chkS at h
  split at h
  · rename_i pe pos
    refine (ps_ret (sndE e h g.g).ex).imp fun D σ H q => ?_
    obtain ⟨F, ad, env, st, r, en, ok⟩ := q
    unfold exS at ok
    exact ⟨F, ad, env, st, r, en, ok.bindE en fun d st1 F1 ad1 H1 v s1 r1 x1 ok1 => ok1 _ _ _ _ (Step.refl _ _ _) r1 x1⟩
  · cases h
theorem ss_retN {ps : Stmt} (h : chkS C.T C.G C.cls N sc ow .retN ps = true) : PS X ps (tS C X W .retN) := by
  unfold chkS at h
  split at h
  · refine ps_retN.imp fun D σ H q => ?_
    obtain ⟨F, ad, env, st, r, en, ok⟩ := q
    unfold exS at ok
    exact ok _ _ _ _ (Step.refl _ _ _) r .none
  · cases h
theorem ss_raise {c : Str} {ps : Stmt} (g : GoodS C N X sc ow W) (h : chkS C.T C.G C.cls N sc ow (.raise c) ps = true) : PS X ps (tS C X W (.raise c)) := by
  unfold chkS at h
  split at h
  · simp only [Bool.and_eq_true, beq_iff_eq] at h
    obtain ⟨⟨⟨h1, h2⟩, h3⟩, h4⟩ := h
    subst h1
    obtain ⟨a, ha⟩ := Option.isSome_iff_exists.mp h2
    obtain ⟨⟨B, newId, initId, bmB, k1, k2⟩, k3, k4, k5, k6⟩ := g.exc _ _ ha
    refine (L2N.ps_raise g.g.calm g.tk (L2N.pmk_own k1 k2 k3 k4 (raises_own k5 k6) (gl_of g.g.sc h3) (ok1 h4).1)).imp fun D σ H q => ?_
    obtain ⟨F, ad, env, st, r, en, ok⟩ := q
    unfold exS at ok
    exact ok _ _ _ _ a (Step.refl _ _ _) r en ha
  · cases h
end
end MP

/-! Suites, defs called from suites, the try statement. -/
namespace MP
open PySem PySem.Spec PyProof.Rows L2

abbrev EF : L2.St → XK := fun _ _ _ _ => False
abbrev WF : WX := fun _ _ _ _ => False
/-! ### the context of a def that is called within a suite -/
def cxG (CX : CXT) (P : Program) (w : World) (K : PySem.W.Frag) (mg : Str → Option Value) (base : Heap) (N : List Str) (qual : Str) (scope : Scope) (f : Addr) (cd : Value) (A : Around) (outer : List PySem.Env) (s : Shared) (H : Hp) (E : XK) : Cx :=
  { cxOf CX P w K mg base N qual scope f cd A outer s H E with calm := false }
theorem inv_startG {CX : CXT} {P : Program} {w : World} {K : PySem.W.Frag} {mg : Str → Option Value} {base : Heap} {N ps : List Str} {qual : Str} {scope : Scope} {f : Addr} {cd : Value} {A : Around} {outer : List PySem.Env} {s s1 : Shared} {H : Hp} {E : XK} {us : List Value} {vs : List V}
    (S : FnScope N ps scope) (e0 : Env0 P w K mg base A outer s H) (hl : vs.length = ps.length) (r : Vals vs us)
    (x : InCallC s s.heap.objs.size (bindL (envOfC qual scope s.heap.objs.size f cd).kindOf (ps.zip us) fun _ => none) (cellsFrom (s.heap.objs.size + 1) scope.names []) (bindC (envOfC qual scope s.heap.objs.size f cd).kindOf (ps.zip us) fun _ => none) s1) :
    Inv (cxG CX P w K mg base N qual scope f cd A outer s H E) [] (L2.start N vs) H s1 := by
  have hpl : ps.length ≤ N.length := by have := congrArg List.length S.pre; rw [List.length_take] at this; omega
  obtain ⟨h1, tk, rfl, hk⟩ := x.done
  have noA : ∀ b : Addr, b ∉ (cxG CX P w K mg base N qual scope f cd A outer s H E).ex := fun b z => absurd (show b ∈ ([] : List Addr) from z) (by simp)
  refine ⟨⟨e0.mod, S.kind, rfl, rfl, Nat.le_refl _, fun y z c h1 h2 => ?_, fun y hy => ?_, fun y c _ h => ?_, (fun z => Bool.noConfusion (show false = true from z)), Around.frames_deeper e0.frames, .inr ⟨rfl, rfl⟩, fun b z => absurd z (noA b), e0.bs, e0.bsz, fun b _ _ => noA b, fun b z => absurd z (noA b), e0.funs, e0.frf⟩,
    rfl, e0.bare, Un.kept hk, ⟨_, x.toInCall.ns, fun i y v h1 h2 h3 => ?_⟩, fun y c h => ⟨_, x.cell y c h⟩, e0.hok.fresh (Nat.le_refl _), fun y c h => ?_, fun q hq => ?_, e0.hok.kept hk, ?_⟩
  · exact name_of_addr x.apart (PySem.mem_of_lookup h1) (PySem.mem_of_lookup h2)
  · have hy : scope.names.lookup y = some .cell ∨ scope.names.lookup y = some .free := hy
    rcases hy with hy | hy
    · exact cell_has hy
    · exact absurd rfl (S.nofree _ (PySem.mem_of_lookup hy))
  · exact Nat.le_of_lt (x.above y c (PySem.mem_of_lookup h))
  · have hi : i < vs.length := by
      unfold L2.start at h2
      by_cases hi : i < vs.length
      · exact hi
      · rw [List.getElem?_append_right (by simpa using hi)] at h2
        rw [List.getElem?_replicate] at h2
        split at h2 <;> cases h2
    have ha : vs[i]? = some v := by
      unfold L2.start at h2
      rw [List.getElem?_append_left (by simpa using hi), List.getElem?_map] at h2
      cases e : vs[i]? with
      | none => rw [e] at h2; cases h2
      | some a => rw [e] at h2; cases h2; rfl
    obtain ⟨u, hu, rv⟩ := r.get ha
    have hp : ps[i]? = some y := by
      rw [← S.pre, List.getElem?_take_of_lt (by omega)]; exact h1
    have ndP : ps.Nodup := by rw [← S.pre]; exact S.nd.sublist (List.take_sublist _ _)
    refine ⟨u, rv, ?_⟩
    rcases S.par y (List.mem_of_getElem? hp) with k | k
    · exact .inl ⟨k, bindL_get ndP hp hu k⟩
    · obtain ⟨c, e⟩ := cell_has (n := s.heap.objs.size + 1) k
      refine .inr ⟨.inl k, c, e, ?_⟩
      have q := x.cell y c e
      rw [bindC_get ndP hp hu (by show scope.names.lookup y ≠ _; rw [k]; decide)] at q
      exact q
  · exact e0.hok.fresh (Nat.le_of_lt (x.above y c (PySem.mem_of_lookup h)))
  · have hq : q ∈ ([] : List (Addr × Obj)) := hq
    cases hq
  · unfold L2.start
    show _ = N.length
    rw [List.length_append, List.length_map, List.length_replicate]
    omega
theorem fn_ofG {CX : CXT} {P : Program} {w : World} {K : PySem.W.Frag} {mg : Str → Option Value} {base : Heap} {k : Nat} {f : Addr} {name qual : Str} {params : Arguments} {body : List Stmt} {scope : Scope} {dV kV doc pm cdv ct oc : Value} {an od : Option Addr}
    {osl : Array (Option Value)} {N ps : List Str} {sp : Sp} (lk : K.lookup f = some ⟨oc, od, .func (PySem.W.fnOf name qual params body scope dV kV doc pm an cdv ct), osl⟩) (hcd : PySem.W.codeIn K cdv qual = true) (S : FnScope N ps scope)
    (len : ∀ vs H Q E, sp vs H Q E → vs.length = ps.length)
    (hbody : ∀ (A : Around) (outer : List PySem.Env) (s : Shared) (H : Hp) (vs : List V) (Q : VK) (E : XK), L2H.RoomH k (A.deeper (envOfC qual scope s.heap.objs.size f cdv)) → HotF A H → sp vs H Q E →
      ∃ t, PSs (cxG CX P w K mg base N qual scope f cdv A outer s H E) body t ∧ t { nx := fun _ H' => Q .non H', rt := Q } (L2.start N vs) H) :
    FnG P w K mg base CX (k + 1) f (PySem.W.fnOf name qual params body scope dV kV doc pm an cdv ct) ps sp := by
  refine ⟨len, fun A outer s H args us vs Q E hr hot e0 hb r hsp => ?_⟩
  have hl := len _ _ _ _ hsp
  have KX : K.In s.heap := e0.mod.kin.keeps fun b o e => (e0.bs b o e).1
  have lim : s.heap.NoLimit := e0.mod.nolimit.keeps fun b o e => (e0.bs b o e).1
  have hkind : ∀ y ∈ ps.zip us, scope.names.lookup y.1 = some .local ∨ (scope.names.lookup y.1 = some .cell ∧ ((cellsFrom (s.heap.objs.size + 1) scope.names []).lookup y.1).isSome = true) := fun ⟨n, v⟩ hy => by
    rcases S.par n (List.of_mem_zip hy).1 with q | q
    · exact .inl q
    · exact .inr ⟨q, PySem.W.cellsFrom_some _ _ _ (.inl q)⟩
  refine codeAny_call_function hr.depth (KX _ _ lk) rfl S.co S.gen rfl (PySem.W.codeRec_of KX hcd) (hb _ _ _ _ ?_)
  refine wpAny_newFunctionEnv_cells S.kind hkind fun env he s1 x => ?_
  subst he
  refine ⟨lim.keeps x.toInCall.keep, codeAny_func ?_⟩
  obtain ⟨t, ht, hq⟩ := hbody A outer s H vs Q E (hr.deeper _) hot hsp
  have I : Inv (cxG CX P w K mg base N qual scope f cdv A outer s H E) [] (L2.start N vs) H s1 := inv_startG S e0 hl r x
  refine wpAny_mono (ht.run [] s1 (L2.start N vs) H _ I hq) (fun fl s' hs => ?_) fun e s' hs => hs
  have fin : ∀ {σ' : L2.St} {H' : Hp} {v : V} {u : Value}, Inv (cxG CX P w K mg base N qual scope f cdv A outer s H E) [] σ' H' s' → RelV v u → Q v H' → CE outer P w H s Q u s' :=
    fun {σ' H' v u} J rv q => ⟨v, H', J.os, J.bare, J.base, J.hok, rv, q⟩
  cases fl with
  | ret u =>
    obtain ⟨v, σ', H', J, rv, q⟩ := hs
    exact fin J rv q
  | next =>
    obtain ⟨σ', H', J, q⟩ := hs
    exact fin (v := V.non) (u := Value.none) J rfl q
  | brk =>
    obtain ⟨_, _, _, q⟩ := hs
    exact False.elim q
  | cont =>
    obtain ⟨_, _, _, q⟩ := hs
    exact False.elim q
/-! ### calls of such defs -/
section
variable {X : Cx} {k : Nat} {f : Addr} {fd : FuncData} {ps : List Str} {sp : Sp} {x : Str} {q pos : Pos} {e : Expr} {es : List Expr} {t : TA}
theorem cx_no {P : Program} {w : World} {o : List PySem.Env} {H : Hp} {s : Shared} {e : Value} {s' : Shared} (h : L2N.CX P w o H s (fun _ _ _ => False) e s') : False := by
  obtain ⟨_, _, _, _, _, _, _, _, _, _, _, _, z⟩ := h
  exact z
theorem run_fnG {pins : List (Addr × Obj)} {σ : L2.St} {H : Hp} {s : Shared} {Q : VK} {us : List Value} {vs : List V} (F : FnG X.prog X.w X.K X.mg X.base (L2N.CX X.prog X.w) k f fd ps sp) (hr : L2H.RoomH k X.A) (hc : HotF X.A X.H_0) (hb : Binds X.K fd ps [])
    (I : Inv X pins σ H s) (r : Vals vs us) (h : sp vs H Q fun _ _ _ => False) : wpAny (model X.prog X.w) X.A (call (.ref f) us) (EP X pins σ Q) X.xe s := by
  have hl : us.length = ps.length := by rw [← r.length]; exact F.len _ _ _ _ h
  have b := hb s us I.kIn (by rw [List.append_nil]; exact hl)
  rw [List.append_nil] at b
  refine wpAny_call (codeAny_mono (F.run X.A X.stack s H ⟨us, []⟩ us vs Q (fun _ _ _ => False) hr (hc.now I) I.env0 b r h) fun r s' hq => ?_)
  cases r with
  | error e => exact (cx_no hq).elim
  | ok fl =>
    cases fl with
    | ret u => exact I.after hq
    | next => exact False.elim hq
    | brk => exact False.elim hq
    | cont => exact False.elim hq
theorem pe_callG (F : FnG X.prog X.w X.K X.mg X.base (L2N.CX X.prog X.w) k f fd ps sp) (hr : L2H.RoomH k X.A) (hc : HotF X.A X.H_0) (hg : Gl X x) (hm : X.mg x = some (.ref f)) (hk : PySem.W.keepIn X.K (.ref f) = true) (hb : Binds X.K fd ps [])
    (ha : PA X (e :: es) t) (hdb : (x == ("__debug__" : Str)) = false := by decide) (he : starEach (e :: es) X.env = (false, eval e X.env) :: starEach es X.env := by rfl) (hpl : (backTo pos (starEach es X.env)).any (·.1) = false := by rfl) :
    PE X (.Call (.Name x q) (e :: es) [] pos) (tCallS sp EF t) := by
  refine ⟨fun pins s σ H Q I h => ?_⟩
  refine wpAny_Call_Name_kw (ld_glob I hg hm ?_ hdb)
  refine PySem.W.callWith_K (h₀ := X.base) I.ok.mod.kin hk (thn (ha.run pos pins s σ H _ I h) fun us s1 ⟨vs, H1, I1, r, q⟩ => ⟨I1.kIn, ?_⟩) he hpl
  exact run_fnG F hr hc hb I1 r q
end
/-! ### expressions, statements -/
structure MildS (C : Con) (N : List Str) (X : Cx) (sc : Scope) (ow : Str → Bool) : Prop where
  toMild : Mild C N X sc
  ow : ∀ x, ow x = true → X.fn x = true
  room : L2H.RoomH C.k X.A
  kind : sc.kind = .function
  hot : HotF X.A X.H_0
theorem MildS.blk {C : Con} {N : List Str} {X : Cx} {sc : Scope} {ow : Str → Bool} (g : MildS C N X sc ow) (s : Shared) (H : Hp) (scope : Scope) (cl : List (Str × Addr)) (Cc : Addr) (fp : List Addr) (hk : scope.kind = .function) (hot : HotF X.A H) : MildS C N (X.blk s H scope (compEnvC scope cl Cc X.env) fp) (relS scope sc) (owB scope) :=
  ⟨⟨g.toMild.hN, g.toMild.nd, by rw [← g.toMild.sc]; rfl, g.toMild.un, g.toMild.facts⟩, fun x h => h, g.room, hk, hot⟩
theorem locH {C : Con} {N : List Str} {X : Cx} {sc : Scope} {ow : Str → Bool} {x : Str} (g : MildS C N X sc ow) (h : locB sc ow x = true) : Loc X.env.scope x ∧ (X.fn x = true ∨ X.env.scope.names.lookup x = some .local) := by
  unfold locB at h
  rw [g.toMild.sc]
  split at h
  · exact ⟨.inl (by assumption), .inr (by assumption)⟩
  · exact ⟨.inr (by assumption), .inl (g.ow x h)⟩
  · cases h
theorem pg_ofH {C : Con} {N : List Str} {X : Cx} {sc : Scope} {ow : Str → Bool} (g : MildS C N X sc ow) {i : Nat} {pe : Expr} (h : chkTg N sc ow (.one i) pe = true) : PG X pe (tT X.K (.one i)) := by
  unfold chkTg at h
  dsimp only at h
  split at h
  · simp only [Bool.and_eq_true, beq_iff_eq] at h
    obtain ⟨l1, l2⟩ := locH g h.2
    exact pg_name (by rw [g.toMild.hN]; exact g.toMild.nd) (by rw [g.toMild.hN]; exact h.1) l1 l2
  · cases h
theorem pi_r1F {C : Con} {N : List Str} {X : Cx} {sc : Scope} {ow : Str → Bool} {ew : L2.St → XK} {a : E} {pa : Expr} {p pos : Pos} (g : MildS C N X sc ow) (hs : glB sc "range" = true) (ha : Sd C X ew a pa) (ns : starB pa = false) : PIF X (.Call (.Name "range" p) [pa] [] pos) (tI C X ew (.range1 a)) := by
  refine (pi_rangeF (gl_of g.toMild.sc hs) (g.toMild.facts.blt "range" (by decide)) (pa_cons ha.ex pa_nil (star_each ns)) (star_each ns)).imp fun σ H R ⟨F, ad, env, st, r, en, ok⟩ => ?_
  unfold evI at ok
  show tX C X ew a σ H fun x H1 => ∃ j : Int, [x] = [V.int j] ∧ -(2 ^ 62) ≤ j ∧ j < 2 ^ 62 ∧ R (Itr 0 j.toNat) H1
  refine ⟨F, ad, env, st, r, en, ok.bindF fun x st1 F1 ad1 H1 v s1 r1 x1 ok1 => ?_⟩
  split at ok1
  · rename_i n
    cases x1
    split at ok1
    · rename_i hz
      have hsz : sizeLine = 16777216 := sizeLine_eq
      have ok2 := ok1 F1 ad1 H1 (Step.refl _ _ _) r1
      exact ⟨n, rfl, hz.2, by omega, ok2 _ jok_range⟩
    · exact ok1.elim
  · exact ok1.elim
section
variable {C : Con} {N : List Str} {hot : Def → Bool}
theorem nocall {X : Cx} {f : Nat} {d : Def} {x : Str} {p pos : Pos} {a : Addr} {fd : FuncData} (F : FnG X.prog X.w X.K X.mg X.base (L2N.CX X.prog X.w) C.k a fd d.pars (spF C X.K C.k f)) (hm : X.mg x = some (.ref a)) (hk : PySem.W.keepIn X.K (.ref a) = true) (hb : Binds X.K fd d.pars []) (ho : okN x = true) (hg : Gl X x) (room : L2H.RoomH C.k X.A) (hc : HotF X.A X.H_0) : PE X (.Call (.Name x p) [] [] pos) (tX C X EF (.call f .nil)) := by
    refine ⟨fun pins s σ H Q I h => ?_⟩
    refine wpAny_Call_Name_kw (ld_glob I hg hm ?_ (ok1 ho).1)
    have q1 := key_call h
    obtain ⟨F2, ad, env, st, r, en, ok⟩ := q1
    unfold evXs at ok
    exact PySem.W.callWith_K0 I.kIn hk (run_fnG (us := []) F room hc hb I .nil (ok F2 ad H [] (Step.refl _ _ _) r .nil))
mutual
theorem sndH : ∀ (e : E) {X : Cx} {sc : Scope} {ew : L2.St → XK} {ow : Str → Bool} {pe : Expr}, hotE C.T hot e = true → (∀ d, hot d = true → hotD C.T d = true ∧ ew = EF) → chkE C.T C.G N sc ow e pe = true → MildS C N X sc ow → Sd C X ew e pe
  | .var i, _, _, _, _, _, _, _, h, g => sd_var g.toMild h
  | .lit d, _, _, _, _, _, _, _, h, g => sd_lit (by unfold chkE at h; exact h)
  | .bin o a b, _, _, _, _, _, q, hd, h, g => by
    unfold hotE at q
    rw [Bool.and_eq_true] at q
    unfold chkE at h
    split at h
    · simp only [Bool.and_eq_true, decide_eq_true_eq] at h
      obtain ⟨⟨h1, h2⟩, h3⟩ := h
      subst h1
      exact sd_bin (sndH a q.1 hd h2 g) (sndH b q.2 hd h3 g)
    · cases h
  | .cmp o a b, _, _, _, _, _, q, hd, h, g => by
    unfold hotE at q
    rw [Bool.and_eq_true] at q
    unfold chkE at h
    split at h
    · simp only [Bool.and_eq_true, decide_eq_true_eq, Bool.not_eq_true'] at h
      obtain ⟨⟨⟨h1, h2⟩, h3⟩, h4⟩ := h
      subst h1
      exact sd_cmp g.toMild (sndH a q.1 hd h3 g) (sndH b q.2 hd h4 g) h2
    · cases h
  | .land a b, _, _, _, _, _, q, hd, h, g => by
    unfold hotE at q
    rw [Bool.and_eq_true] at q
    unfold chkE at h
    split at h
    · simp only [Bool.and_eq_true] at h
      obtain ⟨⟨⟨h1, h2⟩, h3⟩, h4⟩ := h
      have hb := sndH b q.2 hd h4 g
      exact sd_land (sndH a q.1 hd h3 g) h1 (pe_one hb.ex) (pw_and1 (hb.tst h2))
    · simp only [Bool.and_eq_true] at h
      obtain ⟨⟨h1, h3⟩, h4⟩ := h
      have hb := sndH b q.2 hd h4 g
      exact sd_land (sndH a q.1 hd h3 g) h1 hb.ex (hb.who rfl)
    · cases h
  | .lor a b, _, _, _, _, _, q, hd, h, g => by
    unfold hotE at q
    rw [Bool.and_eq_true] at q
    unfold chkE at h
    split at h
    · simp only [Bool.and_eq_true] at h
      obtain ⟨⟨⟨h1, h2⟩, h3⟩, h4⟩ := h
      have hb := sndH b q.2 hd h4 g
      exact sd_lor (sndH a q.1 hd h3 g) h1 (pe_one hb.ex) (pw_or1 (hb.tst h2))
    · simp only [Bool.and_eq_true] at h
      obtain ⟨⟨h1, h3⟩, h4⟩ := h
      have hb := sndH b q.2 hd h4 g
      exact sd_lor (sndH a q.1 hd h3 g) h1 hb.ex (hb.who rfl)
    · cases h
  | .lnot a, _, _, _, _, _, q, hd, h, g => by
    unfold hotE at q
    unfold chkE at h
    split at h
    · simp only [Bool.and_eq_true] at h
      exact sd_lnot (sndH a q hd h.2 g) h.1
    · cases h
  | .ite c a b, _, _, _, _, _, q, hd, h, g => by
    unfold hotE at q
    simp only [Bool.and_eq_true] at q
    unfold chkE at h
    split at h
    · simp only [Bool.and_eq_true] at h
      obtain ⟨⟨⟨h1, h2⟩, h3⟩, h4⟩ := h
      exact sd_ite (sndH c q.1.1 hd h2 g) h1 (sndH a q.1.2 hd h3 g) (sndH b q.2 hd h4 g)
    · cases h
  | .tup es, _, _, _, _, _, q, hd, h, g => by
    unfold hotE at q
    unfold chkE at h
    split at h
    · exact sd_tup (sndHs es q hd h g).1
    · cases h
  | .list es, _, _, _, _, _, q, hd, h, g => by
    unfold hotE at q
    unfold chkE at h
    split at h
    · exact sd_list (sndHs es q hd h g).1
    · cases h
  | .ix a b, _, _, _, _, _, q, hd, h, g => by
    unfold hotE at q
    rw [Bool.and_eq_true] at q
    unfold chkE at h
    split at h
    · simp only [Bool.and_eq_true] at h
      obtain ⟨⟨h1, h2⟩, h3⟩ := h
      exact sd_ix (sndH a q.1 hd h2 g) (sndH b q.2 hd h3 g) h1
    · cases h
  | .bi f es, _, _, _, _, _, q, hd, h, g => by
    unfold hotE at q
    split at q
    · unfold chkE at h
      dsimp only at h
      split at h
      · simp only [Bool.and_eq_true, beq_iff_eq, Bool.not_eq_true'] at h
        obtain ⟨⟨⟨⟨⟨⟨⟨⟨h1, h2⟩, h3⟩, h4⟩, h5⟩, h6⟩, h7⟩, h8⟩, h9⟩ := h
        split at h9
        · rename_i e
          unfold hotEs at q
          rw [Bool.and_eq_true] at q
          exact sd_isE g.toMild h1 h3 h4 h5 h2 h6 h7 (sndH e q.1 hd h9 g) h8
        · cases h9
      · cases h
    · cases q
  | .mt m o es, _, _, _, _, _, q, hd, h, g => by
    have q2 : hotE C.T hot o = true ∧ hotEs C.T hot es = true := by
      unfold hotE at q
      split at q
      · rw [Bool.and_eq_true] at q; exact q
      · rw [Bool.and_eq_true] at q; exact q
      · cases q
    unfold chkE at h
    split at h
    · split at h
      · rename_i n z hm
        simp only [Bool.and_eq_true, beq_iff_eq, Bool.not_eq_true', decide_eq_true_eq] at h
        obtain ⟨⟨⟨⟨⟨⟨h1, h2⟩, h3⟩, h4⟩, h5⟩, h6⟩, h7⟩ := h
        obtain ⟨k1, k2, k3⟩ := sndHs es q2.2 hd h7 g
        exact sd_mt g.toMild hm h1 h2 (sndH o q2.1 hd h3 g) (by simpa using h4) h5 h6 k1 k2 k3
      · split at h
        · unfold hotE at q; cases q
        · cases h
    · cases h
  | .call f es, _, _, ew, _, pe, q, hd, h, g => by
    unfold hotE at q
    unfold chkE at h
    split at h
    · rename_i x p ps pos
      split at h
      · rename_i d hT
        rw [hT] at q
        dsimp only at q
        rw [Bool.and_eq_true] at q
        simp only [Bool.and_eq_true, beq_iff_eq] at h
        obtain ⟨⟨⟨h1, h2⟩, h3⟩, h4⟩ := h
        obtain ⟨k1, k2, k3⟩ := sndHs es q.2 hd h4 g
        obtain ⟨hq, eE⟩ := hd d q.1
        subst eE
        obtain ⟨a, fd, F, hm, hk, hb⟩ := g.toMild.facts.hot f d hT hq
        rw [h1] at hm
        refine Sd.plain ?_ rfl
        cases ps with
        | nil =>
          have hes := k3 rfl
          subst hes
          exact nocall F hm hk hb h2 (gl_of g.toMild.sc h3) g.room g.hot
        | cons p0 ps =>
          unfold nostar at k2
          simp only [Bool.and_eq_true, Bool.not_eq_true'] at k2
          exact (pe_callG F g.room g.hot (gl_of g.toMild.sc h3) hm hk hb k1 (ok1 h2).1 (star_each k2.1) (back_any k2.2)).imp fun σ H Q z => key_call z
      · cases h
    · cases h
  | .glob _ _, _, _, _, _, _, q, _, _, _ => by unfold hotE at q; cases q
  | .chain _ _ _ _ _, _, _, _, _, _, q, _, _, _ => by unfold hotE at q; cases q
  | .sl _ _ _, _, _, _, _, _, q, _, _, _ => by unfold hotE at q; cases q
  | .callC _ _, _, _, _, _, _, q, _, _, _ => by unfold hotE at q; cases q
  | .callS _ _, _, _, _, _, _, q, _, _, _ => by unfold hotE at q; cases q
  | .comp elt tg it cond own, X, sc, ew, ow, _, q, hd, h, g => by
    unfold hotE at q
    simp only [Bool.and_eq_true] at q
    obtain ⟨⟨⟨q1, q2⟩, q3⟩, q4⟩ := q
    unfold chkE at h
    split at h
    · rename_i pelt ptg pit pifs scope pos
      simp only [Bool.and_eq_true, Bool.not_eq_true'] at h
      obtain ⟨⟨⟨⟨⟨⟨h1, h2⟩, h3⟩, h4⟩, h5⟩, h6⟩, h7⟩ := h
      have bk : BlkOk X.N X.env.scope scope (ownP N own) := by rw [g.toMild.hN, g.toMild.sc]; exact blkOk_by h1
      have hd9 : ∀ d, hot d = true → hotD C.T d = true ∧ E9 = EF := fun d z => ⟨(hd d z).1, rfl⟩
      cases tg with
      | many is => cases q1
      | one i =>
      refine Sd.plain ((pe_lcF g.hot (by rw [g.toMild.hN]; exact g.toMild.nd) (sndHI it q2 hd h2 g) bk (fun s H Cc cl fp c => pg_ofH (g.blk s H scope cl Cc fp bk.kind c) h5) (tt := tC9 C X cond) (te := tX C X E9 elt) (fun s H Cc cl fp c => ?_) (fun s H Cc cl fp c => (sndH elt q3 hd9 h6 (g.blk s H scope cl Cc fp bk.kind c)).ex) (not_set h3)).imp fun σ H Q z => ?_) rfl
      · cases pifs with
        | nil =>
          have e1 : cond = .lit (.bool true) := by
            simp only at h7
            unfold isTrueLit at h7
            split at h7
            · rfl
            · cases h7
          subst e1
          refine ⟨fun pins s σ H Q I q => pts_nil.run pins s σ H Q I ?_⟩
          obtain ⟨F, ad, env, st, r, en, ok⟩ := q
          unfold evX at ok
          obtain ⟨c, e, q⟩ := ok.val r (.bool true)
          cases e
          exact q
        | cons pc r =>
          cases r with
          | nil =>
            simp only [Bool.and_eq_true] at h7
            exact pts_one ((sndH cond q4 hd9 h7.2 (g.blk s H scope cl Cc fp bk.kind c)).tst h7.1)
          | cons _ _ => cases h7
      · rw [ownP_snd]
        exact comp_key (nat_all h4) z
    · cases h
  | .cell _, _, _, _, _, _, q, _, _, _ => by unfold hotE at q; cases q
  | .dnew _, _, _, _, _, _, q, _, _, _ => by unfold hotE at q; cases q
theorem sndHs : ∀ (es : Es) {X : Cx} {sc : Scope} {ew : L2.St → XK} {ow : Str → Bool} {ps : List Expr}, hotEs C.T hot es = true → (∀ d, hot d = true → hotD C.T d = true ∧ ew = EF) → chkEs C.T C.G N sc ow es ps = true → MildS C N X sc ow → PA X ps (tXs C X ew es) ∧ nostar ps = true ∧ (ps = [] → es = .nil)
  | .nil, _, _, _, _, ps, _, _, h, g => by
    unfold chkEs at h
    have e : ps = [] := by simpa using h
    subst e
    exact ⟨sd_nil, rfl, fun _ => rfl⟩
  | .cons e es, _, _, _, _, ps, q, hd, h, g => by
    unfold hotEs at q
    rw [Bool.and_eq_true] at q
    unfold chkEs at h
    split at h
    · simp only [Bool.and_eq_true, Bool.not_eq_true'] at h
      obtain ⟨⟨h1, h2⟩, h3⟩ := h
      obtain ⟨k1, k2, k3⟩ := sndHs es q.2 hd h3 g
      refine ⟨sd_cons (sndH e q.1 hd h2 g) k1 h1, ?_, fun z => by cases z⟩
      unfold nostar
      rw [h1, k2]; rfl
    · cases h
theorem sndHI : ∀ (it : It) {X : Cx} {sc : Scope} {ew : L2.St → XK} {ow : Str → Bool} {tup : Bool} {pe : Expr}, hotI C.T hot it = true → (∀ d, hot d = true → hotD C.T d = true ∧ ew = EF) → chkI C.T C.G N sc ow tup it pe = true → MildS C N X sc ow → PIF X pe (tI C X ew it)
  | .range1 a, _, _, _, _, _, _, q, hd, h, g => by
    unfold hotI at q
    unfold chkI at h
    split at h
    · simp only [Bool.and_eq_true, beq_iff_eq, Bool.not_eq_true'] at h
      obtain ⟨⟨⟨h1, h2⟩, h3⟩, h4⟩ := h
      subst h1
      exact pi_r1F g h2 (sndH a q hd h4 g) h3
    · cases h
  | .seq _, _, _, _, _, _, _, q, _, _, _ => by unfold hotI at q; cases q
  | .range2 _ _, _, _, _, _, _, _, q, _, _, _ => by unfold hotI at q; cases q
  | .zip _ _, _, _, _, _, _, _, q, _, _, _ => by unfold hotI at q; cases q
end
/-! ### statements -/
variable {X : Cx} {sc : Scope}
theorem hot_comp {T : Nat → Option Def} {e : E} (h : hotE T hot e = true) (hc : (!isCo e) = true) : isComp e = none := by
  cases e <;> first | rfl | (cases hc; done) | (unfold hotE at h; cases h)
theorem hs_set {W : WX} {i : Nat} {e : E} {ow : Str → Bool} {ps : Stmt} (q0 : (hotE C.T hot e && !isCo e) = true) (hd : ∀ d, hot d = true → hotD C.T d = true ∧ WE W = EF) (g : MildS C N X sc ow) (h : chkS C.T C.G C.cls N sc ow (.set i e) ps = true) : PS X ps (tS C X W (.set i e)) := by
  rw [Bool.and_eq_true] at q0
  obtain ⟨q, qc⟩ := q0
  unfold chkS at h
  split at h
  · rename_i x px pe pos
    simp only [Bool.and_eq_true, beq_iff_eq, Bool.not_eq_true'] at h
    obtain ⟨⟨⟨⟨h1, h2⟩, h3⟩, h4⟩, h5⟩ := h
    obtain ⟨l1, l2⟩ := locH g h2
    have hk : X.env.scope.kind = .function := by rw [g.toMild.sc]; exact g.kind
    have hsw := swap_eq (x := x) (px := px) (l := pos.line) hk h4
    rw [g.toMild.sc] at hsw
    have hs : swapB sc x px pe = false := by
      rw [hot_comp q qc] at h5
      simpa using h5
    rw [hs] at hsw
    exact (ps_set (by rw [g.toMild.hN]; exact g.toMild.nd) (by rw [g.toMild.hN]; exact h1) l1 (sndH e q hd h3 g).ex hsw l2).imp fun D σ H q => set_key q
  · cases h
mutual
theorem sndHS : ∀ (s : S) {W : WX} {ow : Str → Bool} {p : Stmt}, hotS C.T hot s = true → (∀ d, hot d = true → hotD C.T d = true ∧ WE W = EF) → chkS C.T C.G C.cls N sc ow s p = true → MildS C N X sc ow → PS X p (tS C X W s)
  | .set i e, _, _, _, q, hd, h, g => hs_set (by unfold hotS at q; exact q) hd g h
  | .ret e, _, _, _, q, hd, h, g => by
    unfold hotS at q
    unfold chkS at h
    split at h
    · rename_i pe pos
      refine (ps_ret (sndH e q hd h g).ex).imp fun D σ H q => ?_
      obtain ⟨F, ad, env, st, r, en, ok⟩ := q
      unfold exS at ok
      exact ⟨F, ad, env, st, r, en, ok.bindE en fun d st1 F1 ad1 H1 v s1 r1 x1 ok1 => ok1 _ _ _ _ (Step.refl _ _ _) r1 x1⟩
    · cases h
  | .ife c a b, _, _, _, q, hd, h, g => by
    unfold hotS at q
    simp only [Bool.and_eq_true] at q
    unfold chkS at h
    split at h
    · simp only [Bool.and_eq_true] at h
      obtain ⟨⟨⟨h1, h2⟩, h3⟩, h4⟩ := h
      refine (ps_if ((sndH c q.1.1 hd h2 g).tst h1) (sndHL a q.1.2 hd h3 g) (sndHL b q.2 hd h4 g)).imp fun D σ H ⟨F, ad, env, st, r, en, ok⟩ => ?_
      unfold exS at ok
      refine ⟨F, ad, env, st, r, en, ok.bindE en fun d st1 F1 ad1 H1 v s1 r1 x1 ok1 => ?_⟩
      split at ok1
      · cases x1
        exact ⟨true, rfl, iteT ⟨F1, ad1, env, st1, r1, en.step s1, ok1⟩⟩
      · cases x1
        exact ⟨false, rfl, iteF ⟨F1, ad1, env, st1, r1, en.step s1, ok1⟩⟩
      · exact ok1.elim
    · cases h
  | .ifeT _ _ _ _, _, _, _, q, _, _, _ => by unfold hotS at q; cases q
  | .unpack _ _, _, _, _, q, _, _, _ => by unfold hotS at q; cases q
  | .par2 _ _ _ _, _, _, _, q, _, _, _ => by unfold hotS at q; cases q
  | .par3 _ _ _ _ _ _, _, _, _, q, _, _, _ => by unfold hotS at q; cases q
  | .put _ _ _, _, _, _, q, _, _, _ => by unfold hotS at q; cases q
  | .dput _ _ _, _, _, _, q, _, _, _ => by unfold hotS at q; cases q
  | .expr _, _, _, _, q, _, _, _ => by unfold hotS at q; cases q
  | .retN, _, _, _, q, _, _, _ => by unfold hotS at q; cases q
  | .for_ _ _ _ _ _, _, _, _, q, _, _, _ => by unfold hotS at q; cases q
  | .while_ _ _ _ _, _, _, _, q, _, _, _ => by unfold hotS at q; cases q
  | .raise _, _, _, _, q, _, _, _ => by unfold hotS at q; cases q
  | .fz _, _, _, _, q, _, _, _ => by unfold hotS at q; cases q
  | .dead, _, _, _, q, _, _, _ => by unfold hotS at q; cases q
  | .tryA _ _ _, _, _, _, q, _, _, _ => by unfold hotS at q; cases q
theorem sndHL : ∀ (ss : List S) {W : WX} {ow : Str → Bool} {ps : List Stmt}, hotL C.T hot ss = true → (∀ d, hot d = true → hotD C.T d = true ∧ WE W = EF) → chkL C.T C.G C.cls N sc ow ss ps = true → MildS C N X sc ow → PSs X ps (tSs C X W ss)
  | [], _, _, ps, _, _, h, g => by
    unfold chkL at h
    split at h
    · exact pss_nil.imp fun D σ H ⟨F, ad, env, st, r, en, ok⟩ => by
        unfold exL at ok
        exact ok _ _ _ _ (Step.refl _ _ _) r en
    · cases h
  | s :: ss, W, _, ps, q, hd, h, g => by
    unfold hotL at q
    rw [Bool.and_eq_true] at q
    unfold chkL at h
    by_cases hy : isDead s = true
    · cases s <;> first | (cases hy; done) | (unfold hotS at q; cases q.1)
    rw [if_neg hy] at h
    by_cases hz : isFz s = true
    · cases s <;> first | (cases hz; done) | (unfold hotS at q; cases q.1)
    rw [if_neg hz] at h
    split at h
    · simp only [Bool.and_eq_true] at h
      refine (pss_cons (sndHS s q.1 hd h.1 g) (sndHL ss q.2 hd h.2 g)).imp fun D σ H ⟨F, ad, env, st, r, en, ok⟩ => ?_
      show tS C X W s { D with nx := tSs C X W ss D } σ H
      unfold exL at ok
      refine ⟨F, ad, env, st, r, en, ?_⟩
      cases q : exS (run C.T C.k) s env st with
      | nx env' st' =>
        rw [q] at ok
        exact fun F' ad' H' σ' s' r' en' => ⟨F', ad', env', st', r', en', OkX.step s' ok⟩
      | rt d st' => rw [q] at ok; exact ok
      | err c env' st' => rw [q] at ok; exact ok
      | stuck => rw [q] at ok; exact ok
    · cases h
end
end
end MP

/-! Tests, loops, bodies. -/
namespace MP
open PySem PySem.Spec PyProof.Rows L2

section
variable {K : PySem.W.Frag} {cls : Str → Option Addr} {W : WX} {F F1 : Hp} {ad ad1 : List Addr} {H H1 : Hp} {st st1 : Sto} {D D' : Ends}
theorem CellAt.lowT {n : Nat} {a : Addr} : ∀ {c : Cell}, CellAt K F ad H a c → c.low n = true → CellAt K F (ad.take n) H a c
  | .lst _, ⟨vs, h, r⟩, l => ⟨vs, h, r.lowT l⟩
  | .dk _ _, ⟨vs, h, e, r⟩, l => ⟨vs, h, e, r.lowT l⟩
  | .dt _ _, ⟨vs, h, e, r⟩, l => ⟨vs, h, e, r.lowT l⟩
  | .dead, h, _ => h
theorem RelS.takeT {n : Nat} (r : RelS K F ad st H) (l : (st.take n).all (Cell.low n) = true) : RelS K F (ad.take n) (st.take n) H where
  sub := r.sub
  nd := r.nd.sublist (List.take_sublist _ _)
  out := fun m a h hd => by
    have hm : m < n := by
      have := (List.getElem?_eq_some_iff.mp h).1
      simp only [List.length_take] at this
      omega
    rw [List.getElem?_take_of_lt hm] at h hd
    exact r.out m a h hd
  len := by simp [r.len]
  live := fun a h => r.live a (List.mem_of_mem_take h)
  cell := fun m c a h1 h2 => by
    have hc := List.all_eq_true.mp l c (List.mem_of_getElem? h1)
    have hm : m < n := by
      have := (List.getElem?_eq_some_iff.mp h1).1
      simp only [List.length_take] at this
      omega
    rw [List.getElem?_take_of_lt hm] at h1 h2
    exact (r.cell m c a h1 h2).lowT hc
theorem envBelow_at {n : Nat} : ∀ {env : MP.Env} {i : Nat} {d : MP.D}, envBelow n env = true → env[i]? = some (some d) → d.low n = true
  | some x :: r, 0, d, h, e => by
    simp only [envBelow, Bool.and_eq_true] at h
    simp only [List.getElem?_cons_zero, Option.some.injEq] at e
    subst e
    exact h.1
  | none :: r, 0, d, h, e => by simp at e
  | some x :: r, i + 1, d, h, e => by
    simp only [envBelow, Bool.and_eq_true] at h
    exact envBelow_at h.2 (by simpa using e)
  | none :: r, i + 1, d, h, e => by
    simp only [envBelow] at h
    exact envBelow_at h (by simpa using e)
  | [], i, d, h, e => by simp at e
theorem fin_ok {trim : Bool} {n : Nat} {tmp : List Nat} {env env' : MP.Env} {st' : Sto} {σ : L2.St} {F0 : Hp} {ad0 : List Addr} {H0 : Hp} (hn : n = ad0.length) (s : Step F0 ad0 H0 F ad H) (r : RelS K F ad st H) (en : EnvRel K F ad env σ) (e : fin trim n tmp env st = some (env', st')) :
    ∃ ad', Step F0 ad0 H0 F ad' H ∧ RelS K F ad' st' H ∧ EnvRel K F ad' env' σ := by
  unfold fin at e
  cases trim with
  | false =>
    rw [if_neg (by decide)] at e
    cases e
    exact ⟨ad, s, r, en.wipeL tmp⟩
  | true =>
    rw [if_pos rfl] at e
    split at e
    · rename_i hb
      rw [Bool.and_eq_true] at hb
      cases e
      obtain ⟨more, em⟩ := s.pre
      have e0 : ad.take n = ad0 := by rw [em, hn]; simp
      refine ⟨ad.take n, ⟨s.le, ⟨[], by rw [e0]; simp⟩, s.newF, fun a h1 h2 => absurd (by rw [e0] at h1; exact h1) h2, s.keep, s.dom⟩, r.takeT hb.2, ⟨by rw [wipeE_len]; exact en.len, fun i d h => ?_⟩⟩
      obtain ⟨v, h1, h2⟩ := (en.wipeL tmp).at_ i d h
      exact ⟨v, h1, h2.lowT (envBelow_at hb.1 h)⟩
    · cases e
theorem OkX.imp {r : MP.X} (h : OkX K cls W F ad H r D) (hn : ∀ σ H, D.nx σ H → D'.nx σ H) (hr : ∀ v H, D.rt v H → D'.rt v H) : OkX K cls W F ad H r D' := by
  cases r with
  | nx env st' => exact fun F' ad' H' v s' r' x' => hn _ _ (h F' ad' H' v s' r' x')
  | rt d st' => exact fun F' ad' H' v s' r' x' => hr _ _ (h F' ad' H' v s' r' x')
  | err c env st' => exact h
  | stuck => exact h
end
section
variable {C : Con} {N : List Str} {X : Cx} {sc : Scope} {ow : Str → Bool} {W : WX}
theorem ss_nil : PSs X [] (tSs C X W []) := pss_nil.imp fun D σ H ⟨F, ad, env, st, r, en, ok⟩ => by
  unfold exL at ok
  exact ok _ _ _ _ (Step.refl _ _ _) r en
theorem fz_step {n : Nat} {a : Addr} {vs : List V} {xs : List MP.D} {F : Hp} {ad : List Addr} {st : Sto} {H : Hp} (r : RelS X.K F ad st H) (ha : ad[n]? = some a) (hn : st[n]? = some (.lst xs)) (h1 : H a = some (.lst vs)) (h2 : Reps X.K F ad vs xs) :
    RelS X.K (upd F a (.lst vs)) ad (st.set n .dead) H ∧ Step F ad H (upd F a (.lst vs)) ad H := by
  have hF : F a = none := r.out n a ha (by rw [hn]; intro z; cases z)
  have hlt : n < st.length := (List.getElem?_eq_some_iff.mp hn).1
  have uniq : ∀ {m : Nat} {b : Addr}, ad[m]? = some b → m ≠ n → b ≠ a := fun {m b} hb hne z => by
    subst z
    obtain ⟨l1, e1⟩ := List.getElem?_eq_some_iff.mp hb
    obtain ⟨l2, e2⟩ := List.getElem?_eq_some_iff.mp ha
    exact hne ((List.getElem_inj r.nd).mp (e1.trans e2.symm))
  refine ⟨⟨fun b o h => ?_, r.nd, fun m b hb hd => ?_, by simp [r.len], r.live, fun m c b hc hb => ?_⟩, ⟨up_frozen hF, ⟨[], by simp⟩, fun b h1 h2 => ?_, fun b h1 h2 => absurd h1 h2, fun _ _ _ h => h, fun _ h => h⟩⟩
  · by_cases e : b = a
    · rw [e, upd_same] at h; cases h; rw [e]; exact h1
    · rw [upd_ne e] at h; exact r.sub b o h
  · have hne : m ≠ n := fun e => by
      subst e
      rw [List.getElem?_set_self hlt] at hd
      exact hd rfl
    rw [upd_ne (uniq hb hne)]
    exact r.out m b hb (by rw [List.getElem?_set_ne (Ne.symm hne)] at hd; exact hd)
  · by_cases e : m = n
    · subst e
      rw [List.getElem?_set_self hlt] at hc
      cases hc
      rw [ha] at hb
      cases hb
      exact ⟨vs, upd_same, h1⟩
    · rw [List.getElem?_set_ne (Ne.symm e)] at hc
      exact (r.cell m c b hc hb).up (up_frozen hF) (fun _ _ h => h) fun _ h => h
  · by_cases e : b = a
    · rw [e]; exact .inr (.inl (List.mem_of_getElem? ha))
    · rw [upd_ne e] at h2; exact absurd h1 h2
theorem ss_fz {i : Nat} {ss : List S} {ps : List Stmt} (h2 : PSs X ps (tSs C X W ss)) : PSs X ps (tSs C X W (.fz i :: ss)) := by
  refine h2.imp fun D σ H ⟨F, ad, env, st, r, en, ok⟩ => ?_
  unfold exL exS fzX at ok
  cases hv : env[i]? with
  | none => rw [hv] at ok; exact ok.elim
  | some o =>
  cases o with
  | none => rw [hv] at ok; exact ok.elim
  | some d0 =>
  cases d0 with
  | ref n =>
    rw [hv] at ok
    dsimp only at ok
    obtain ⟨v, hv1, hv2⟩ := en.at_ i _ hv
    cases hv2 with
    | ref ha =>
      cases hn : st[n]? with
      | none => rw [hn] at ok; exact ok.elim
      | some c =>
      cases c with
      | lst xs =>
        rw [hn] at ok
        dsimp only at ok
        obtain ⟨vs, h1, h2⟩ := r.cell _ _ _ hn ha
        obtain ⟨r', s'⟩ := fz_step r ha hn h1 h2
        refine ⟨_, ad, _, _, r', ⟨by simp [en.len], fun j d hj => ?_⟩, OkX.step s' ok⟩
        by_cases e : j = i
        · subst e
          rw [List.getElem?_set_self (List.getElem?_eq_some_iff.mp hv).1] at hj
          cases hj
          exact ⟨_, hv1, .list upd_same (h2.step s')⟩
        · rw [List.getElem?_set_ne (Ne.symm e)] at hj
          obtain ⟨w, hw1, hw2⟩ := en.at_ j d hj
          exact ⟨w, hw1, hw2.step s'⟩
      | _ => rw [hn] at ok; exact ok.elim
  | _ => rw [hv] at ok; exact ok.elim
theorem ss_cons {s : S} {ss : List S} {p : Stmt} {ps : List Stmt} (h1 : PS X p (tS C X W s)) (h2 : PSs X ps (tSs C X W ss)) : PSs X (p :: ps) (tSs C X W (s :: ss)) := by
  refine (pss_cons h1 h2).imp fun D σ H ⟨F, ad, env, st, r, en, ok⟩ => ?_
  show tS C X W s { D with nx := tSs C X W ss D } σ H
  unfold exL at ok
  refine ⟨F, ad, env, st, r, en, ?_⟩
  cases q : exS (run C.T C.k) s env st with
  | nx env' st' =>
    rw [q] at ok
    exact fun F' ad' H' σ' s' r' en' => ⟨F', ad', env', st', r', en', OkX.step s' ok⟩
  | rt d st' => rw [q] at ok; exact ok
  | err c env' st' => rw [q] at ok; exact ok
  | stuck => rw [q] at ok; exact ok
theorem ss_ife {c : E} {a b : List S} {pc : Expr} {pa pb : List Stmt} {pos : Pos} (hc : Sd C X (WE W) c pc) (tc : tokB pc = true) (ha : PSs X pa (tSs C X W a)) (hb : PSs X pb (tSs C X W b)) : PS X (.If pc pa pb pos) (tS C X W (.ife c a b)) := by
  refine (ps_if (hc.tst tc) ha hb).imp fun D σ H ⟨F, ad, env, st, r, en, ok⟩ => ?_
  unfold exS at ok
  refine ⟨F, ad, env, st, r, en, ok.bindE en fun d st1 F1 ad1 H1 v s1 r1 x1 ok1 => ?_⟩
  split at ok1
  · cases x1
    exact ⟨true, rfl, iteT ⟨F1, ad1, env, st1, r1, en.step s1, ok1⟩⟩
  · cases x1
    exact ⟨false, rfl, iteF ⟨F1, ad1, env, st1, r1, en.step s1, ok1⟩⟩
  · exact ok1.elim
theorem okx_fin {K : PySem.W.Frag} {cls : Str → Option Addr} {F0 : Hp} {ad0 : List Addr} {H0 : Hp} {n : Nat} {tmp : List Nat} {D : Ends} (hn : n = ad0.length) {x : MP.X} (ok : OkX K cls W F0 ad0 H0 (finX n tmp x) D) : OkX K cls W F0 ad0 H0 x D := by
  cases x with
  | nx env st =>
    unfold finX at ok
    dsimp only at ok
    cases hf : fin true n tmp env st with
    | none => rw [hf] at ok; exact ok.elim
    | some p =>
      obtain ⟨e2, s2⟩ := p
      rw [hf] at ok
      intro F' ad' H' σ' s r en
      obtain ⟨ad2, s3, r3, en3⟩ := fin_ok hn s r en hf
      exact ok F' ad2 H' σ' s3 r3 en3
  | rt d st => exact ok
  | err c env st => exact ok
  | stuck => exact ok
theorem ss_ifeT {c : E} {a b : List S} {tmp : List Nat} {p : Stmt} (h : PS X p (tS C X W (.ife c a b))) : PS X p (tS C X W (.ifeT c a b tmp)) := by
  refine h.imp fun D σ H ⟨F, ad, env, st, r, en, ok⟩ => ⟨F, ad, env, st, r, en, ?_⟩
  unfold exS at ok ⊢
  exact okx_fin r.len.symm ok
theorem ss_for {tg : Tg} {it : It} {body : List S} {tmp : List Nat} {trim : Bool} {ptg pit : Expr} {pb : List Stmt} {pos : Pos} (g : GoodS C N X sc ow W) (hi : PI X ptg pit (tI C X (WE W) it)) (hg : PG X ptg (tT X.K tg)) (hb : PSs X pb (tSs C X W body)) (hs : setB pit = false) :
    PS X (.For ptg pit pb [] pos) (tS C X W (.for_ tg it body tmp trim)) := by
  refine (ps_for g.own g.g.calm hi hg hb (not_set hs)).imp fun D σ H ⟨F, ad, env, st, r, en, ok⟩ => ?_
  unfold exS at ok
  refine ⟨F, ad, env, st, r, en, ok.bindIt en fun p st1 F1 ad1 H1 s1 r1 ok1 => ?_⟩
  intro J hJ
  obtain ⟨src, ds⟩ := p
  dsimp only at ok1 hJ ⊢
  have en1 := en.step s1
  clear ok r en
  by_cases hst : stands src ds st1 = true
  case neg =>
    rw [if_pos (by simpa using hst)] at ok1; exact ok1.elim
  rw [if_neg (by simpa using hst)] at ok1
  have hn : st1.length = ad1.length := r1.len.symm
  let bodyF : MP.D → MP.Env → Sto → MP.X := fun d env st => match bindT env tg d with
        | some env' => exL (run C.T C.k) body env' st
        | Option.none => .stuck
  let Wc : Nat → L2.St → Hp → Prop := fun i σ H => i ≤ ds.length ∧ ∃ F' ad' env' st', Step F1 ad1 H1 F' ad' H ∧ RelS X.K F' ad' st' H ∧ EnvRel X.K F' ad' env' σ ∧ stands src ds st' = true ∧ OkX X.K C.cls W F1 ad1 H1 (loopF (stands src ds) trim st1.length tmp bodyF (ds.drop i) env' st') D
  refine ⟨fun i m σ H => m = ds.length - i ∧ Wc i σ H, ⟨ds.length, by simp, Nat.zero_le _, F1, ad1, env, st1, Step.refl _ _ _, r1, en1, hst, by rw [List.drop_zero]; exact ok1⟩, ?_⟩
  rintro i m σ2 H2 ⟨rfl, hi, F2, ad2, env2, st2, s2, r2, en2, hst2, ok2⟩
  by_cases hlt : i < ds.length
  · obtain ⟨jgo, jyld⟩ := hJ.go i F2 ad2 st2 H2 s2 r2 hst2 hlt
    refine .inr ⟨jgo, Wc (i + 1), fun σ' H' w => ⟨ds.length - (i + 1), by omega, rfl, w⟩, fun x H' hy => ?_⟩
    obtain ⟨F3, s3, r3, d, hd, x3⟩ := jyld x H' hy
    have hdrop : ds.drop i = d :: ds.drop (i + 1) := by
      rw [List.drop_eq_getElem_cons hlt]
      congr 1
      rw [List.getElem?_eq_getElem hlt] at hd
      exact Option.some.inj hd
    rw [hdrop] at ok2
    unfold loopF at ok2
    have hbd : bodyF d env2 st2 = (match bindT env2 tg d with
        | some env' => exL (run C.T C.k) body env' st2
        | Option.none => .stuck) := rfl
    rw [hbd] at ok2
    cases hb2 : bindT env2 tg d with
    | none => rw [hb2] at ok2; exact ok2.elim
    | some env3 =>
    rw [hb2] at ok2
    dsimp only at ok2
    refine tT_ok r3 x3 (en2.step s3) hb2 fun σ3 en3 _ => ?_
    have s13 := s2.trans s3
    refine ⟨F3, ad2, env3, st2, r3, en3, ?_⟩
    cases q : exL (run C.T C.k) body env3 st2 with
    | nx env4 st4 =>
      rw [q] at ok2
      dsimp only at ok2
      intro F4 ad4 H4 σ4 s4 r4 en4
      cases hf : fin trim st1.length tmp env4 st4 with
      | none => rw [hf] at ok2; exact ok2.elim
      | some p =>
      obtain ⟨env5, st5⟩ := p
      rw [hf] at ok2
      dsimp only at ok2
      by_cases hst5 : stands src ds st5 = true
      case neg =>
        rw [if_neg hst5] at ok2; exact ok2.elim
      rw [if_pos hst5] at ok2
      obtain ⟨ad5, s5, r5, en5⟩ := fin_ok hn (s13.trans s4) r4 en4 hf
      exact ⟨hlt, F4, ad5, env5, st5, s5, r5, en5, hst5, ok2⟩
    | rt d4 st4 =>
      rw [q] at ok2
      exact fun F4 ad4 H4 v s4 r4 x4 => ok2 F4 ad4 H4 v (s13.trans s4) r4 x4
    | err c env4 st4 =>
      rw [q] at ok2
      exact fun F4 ad4 H4 σ4 a s4 r4 en4 e => ok2 F4 ad4 H4 σ4 a (s13.trans s4) r4 en4 e
    | stuck => rw [q] at ok2; exact ok2.elim
  · have e : i = ds.length := by omega
    subst e
    refine .inl ⟨hJ.stop _ F2 ad2 st2 H2 s2 r2 hst2 (Nat.le_refl _), ?_⟩
    rw [List.drop_length] at ok2
    unfold loopF at ok2
    exact ok2 F2 ad2 H2 σ2 s2 r2 en2
theorem ss_while {c : E} {body : List S} {tmp : List Nat} {trim : Bool} {pc : Expr} {pb : List Stmt} {pos : Pos} (g : GoodS C N X sc ow W) (hc : Sd C X (WE W) c pc) (tc : tokB pc = true) (hb : PSs X pb (tSs C X W body)) :
    PS X (.While pc pb [] pos) (tS C X W (.while_ c body tmp trim)) := by
  refine (ps_while g.own (hc.tst tc) hb).imp fun D σ H ⟨F, ad, env, st, r, en, ok⟩ => ?_
  unfold exS at ok
  have hn : st.length = ad.length := r.len.symm
  generalize wmost = wm at ok
  refine ⟨fun m σ' H' => ∃ F' ad' env' st', Step F ad H F' ad' H' ∧ RelS X.K F' ad' st' H' ∧ EnvRel X.K F' ad' env' σ' ∧
    OkX X.K C.cls W F ad H (loopW trim st.length tmp (fun env st => (evE (run C.T C.k) c env st).bind boolR) (fun env st => exL (run C.T C.k) body env st) m env' st') D, ⟨wm, F, ad, env, st, Step.refl _ _ _, r, en, ok⟩, ?_⟩
  rintro m σ2 H2 ⟨F2, ad2, env2, st2, s2, r2, en2, ok2⟩
  cases m with
  | zero => exact ok2.elim
  | succ m =>
  unfold loopW at ok2
  refine ⟨F2, ad2, env2, st2, r2, en2, ?_⟩
  cases q : evX (run C.T C.k) c env2 st2 with
  | stuck =>
    rw [show evE (run C.T C.k) c env2 st2 = .stuck by unfold evE; rw [q]; rfl] at ok2; exact ok2.elim
  | err e st3 =>
    rw [show evE (run C.T C.k) c env2 st2 = .err e st3 by unfold evE; rw [q]; rfl] at ok2
    exact fun F3 ad3 H3 a s3 r3 ec => ok2 F3 ad3 H3 σ2 a (s2.trans s3) r3 (en2.step s3) ec
  | ok x st3 =>
  rw [show evE (run C.T C.k) c env2 st2 = .ok x.d st3 by unfold evE; rw [q]; rfl, R.bind_ok] at ok2
  intro F3 ad3 H3 v s3 r3 xr
  obtain ⟨F4, s4, r4, x4⟩ := freezeX s3 r3 xr
  generalize x.d = xd at *
  cases x4 with
  | bool b =>
   cases b with
   | true =>
    rw [show boolR (MP.D.bool true) st3 = .ok true st3 from rfl] at ok2
    dsimp only at ok2
    refine ⟨true, rfl, iteT ⟨fun σ' H' => ∃ F' ad' env' st', Step F ad H F' ad' H' ∧ RelS X.K F' ad' st' H' ∧ EnvRel X.K F' ad' env' σ' ∧
      OkX X.K C.cls W F ad H (loopW trim st.length tmp (fun env st => (evE (run C.T C.k) c env st).bind boolR) (fun env st => exL (run C.T C.k) body env st) m env' st') D, fun σ' H' w => ⟨m, by omega, w⟩, ?_⟩⟩
    refine ⟨F4, ad3, env2, st3, r4, en2.step s4, ?_⟩
    have s14 := s2.trans s4
    cases q5 : exL (run C.T C.k) body env2 st3 with
    | nx env5 st5 =>
      rw [q5] at ok2
      dsimp only at ok2
      intro F5 ad5 H5 σ5 s5 r5 en5
      cases hf : fin trim st.length tmp env5 st5 with
      | none => rw [hf] at ok2; exact ok2.elim
      | some p =>
      obtain ⟨env6, st6⟩ := p
      rw [hf] at ok2
      dsimp only at ok2
      obtain ⟨ad6, s6, r6, en6⟩ := fin_ok hn (s14.trans s5) r5 en5 hf
      exact ⟨F5, ad6, env6, st6, s6, r6, en6, ok2⟩
    | rt d5 st5 =>
      rw [q5] at ok2
      exact fun F5 ad5 H5 v s5 r5 x5 => ok2 F5 ad5 H5 v (s14.trans s5) r5 x5
    | err c env5 st5 =>
      rw [q5] at ok2
      exact fun F5 ad5 H5 σ5 a s5 r5 en5 e => ok2 F5 ad5 H5 σ5 a (s14.trans s5) r5 en5 e
    | stuck => rw [q5] at ok2; exact ok2.elim
   | false =>
    refine ⟨false, rfl, iteF ?_⟩
    exact ok2 F4 ad3 H3 σ2 (s2.trans s4) r4 (en2.step s4)
  | _ => exact ok2.elim
theorem lookup_local {X : Cx} {n : Str} (h : localB sc n = true) (e : X.env.scope = sc) : X.env.kindOf n = some .local := by
  unfold localB at h
  rw [beq_iff_eq] at h
  show X.env.scope.names.lookup n = _
  rw [e]; exact h
theorem GoodS.tr {pn : List (Addr × Obj)} {xe : Value → Shared → Prop} {W' : WX} (g : GoodS C N X sc ow W) (tk : L2N.Takes (X.tr pn xe) W') (po : PassesOwn (model X.prog X.w) X.A X.env xe) : GoodS C N (X.tr pn xe) sc ow W' :=
  ⟨⟨g.g.hN, g.g.nd, g.g.sc, g.g.calm, g.g.room, fun σ => L2N.passAt tk σ, g.g.ow, g.g.facts, g.g.gd⟩, po, tk, g.exc, g.kind, g.st, g.fr, g.ex⟩
theorem GoodS.suite {a : Addr} {oe : Obj} {pn : List (Addr × Obj)} (g : GoodS C N X sc ow W) (hot : HotF (suF X a oe pn).A (suF X a oe pn).H_0) : MildS C N (suF X a oe pn) sc ow :=
  ⟨⟨g.g.hN, g.g.nd, g.g.sc, by have := units_ok g.g; exact this, g.g.facts⟩, g.g.ow, ⟨g.g.room.dp, g.g.room.un⟩, g.kind, hot⟩
theorem ss_tryA {body suite : List S} {i : Nat} {x n : Str} {np pos pos' : Pos} {pb psu : List Stmt} {p0 : Stmt} (g : GoodS C N X sc ow W) (hx : x = "HallError") (hg : glB sc x = true) (hh : isExG (C.G "HallError") = true) (hi : N[i]? = some n) (hl : localB sc n = true) (hq : hotL C.T (hotD C.T) suite = true)
    (hb : ∀ {X' : Cx} {W' : WX}, GoodS C N X' sc ow W' → PSs X' pb (tSs C X' W' body)) (hs : chkL C.T C.G C.cls N sc ow suite (p0 :: psu) = true) :
    PS X (.Try pb [.ExceptHandler (some (.Name x np)) (some n) (p0 :: psu) pos'] [] [] pos) (tS C X W (.tryA body i suite)) := by
  subst hx
  have E := g.g.facts.exw hh
  obtain ⟨h, hm, hex⟩ := E.hall
  have hN : X.N[i]? = some n := by rw [g.g.hN]; exact hi
  refine (ps_try_asF (X := X) (c := .ref h) (i := i) (tb := fun W' => tSs C X W' body) (ts := fun _ => tSs C X WF suite) g.st g.fr g.ex (by rw [g.g.hN]; exact g.g.nd) hN (lookup_local hl g.g.sc) ⟨gl_of g.g.sc hg, by decide, .inl hm⟩ (fun W' pn xe tk po => hb (g.tr tk po)) (fun a oe cls pn hot => sndHL suite hq (fun _ z => ⟨z, rfl⟩) hs (g.suite hot))).imp fun D σ H ⟨F, ad, env, st, r, en, ok⟩ => ?_
  refine ⟨F, ad, env, st, r, en, ?_⟩
  unfold exS at ok
  cases q : exL (run C.T C.k) body env st with
  | stuck => rw [q] at ok; exact ok.elim
  | nx env' st' => rw [q] at ok; exact ok
  | rt d st' => rw [q] at ok; exact ok
  | err c env' st' =>
    rw [q] at ok
    dsimp only at ok
    intro F' ad' H' σ' a0 s' r' en' ec
    obtain ⟨hk, ha⟩ := E.at_ c a0 ec
    refine ⟨hex c a0 hk ha, fun a oe na hz hf => ?_⟩
    have hF : F' a = none := by
      cases e : F' a with
      | none => rfl
      | some o => rw [r'.sub a o e] at na; cases na
    have hA : a ∉ ad' := fun m => r'.live a m na
    have s2 : Step F ad H (upd F' a (.frz oe (.own a))) ad' (upd H' a (.frz oe (.own a))) := (s'.trans (Step.beside na)).frozen hF (s'.dom a na)
    have r2 : RelS X.K (upd F' a (.frz oe (.own a))) ad' st' (upd H' a (.frz oe (.own a))) := (r'.beside na).frozen upd_same hF hA
    have en2 : EnvRel X.K (upd F' a (.frz oe (.own a))) ad' env' σ' := ⟨en'.len, fun j d hj => by
      obtain ⟨v, h1, h2⟩ := en'.at_ j d hj
      exact ⟨v, h1, h2.up (up_frozen hF) fun _ _ z => z⟩⟩
    have en3 := en2.set i (Rep.exc (K := X.K) (c := c) upd_same ⟨hk, ⟨a0, ha, hz.1⟩, hz.2, hf⟩ : Rep X.K (upd F' a (.frz oe (.own a))) ad' (.ref a) (.exc c))
    refine ⟨_, ad', _, st', r2, en3, ?_⟩
    cases q2 : exL (run C.T C.k) suite (env'.set i (some (.exc c))) st' with
    | nx env2 st2 =>
      rw [q2] at ok
      intro F3 ad3 H3 σ3 s3 r3 en4
      exact ok F3 ad3 H3 _ (s2.trans s3) r3 (en4.wipe2 [i])
    | rt d st2 => rw [q2] at ok; exact ok.elim
    | err c2 env2 st2 => rw [q2] at ok; exact ok.elim
    | stuck => rw [q2] at ok; exact ok.elim
mutual
theorem sndS : ∀ (s : S) {X : Cx} {W : WX} {p : Stmt}, GoodS C N X sc ow W → chkS C.T C.G C.cls N sc ow s p = true → PS X p (tS C X W s)
  | .set i e, _, _, _, g, h => ss_set g h
  | .unpack is e, _, _, _, g, h => ss_unpack g h
  | .par2 i j a b, _, _, _, g, h => ss_par2 g h
  | .par3 i j k a b c, _, _, _, g, h => ss_par3 g h
  | .put o i v, _, _, _, g, h => ss_put g h
  | .dput o i v, _, _, _, g, h => ss_dput g h
  | .expr e, _, _, _, g, h => ss_expr g h
  | .ret e, _, _, _, g, h => ss_ret g h
  | .retN, _, _, _, g, h => ss_retN h
  | .ife c a b, _, _, _, g, h => by
    unfold chkS at h
    split at h
    · simp only [Bool.and_eq_true] at h
      obtain ⟨⟨⟨h1, h2⟩, h3⟩, h4⟩ := h
      exact ss_ife (sndE c h2 g.g) h1 (sndL a g h3) (sndL b g h4)
    · cases h
  | .ifeT c a b tmp, _, _, _, g, h => by
    unfold chkS at h
    split at h
    · simp only [Bool.and_eq_true] at h
      obtain ⟨⟨⟨h1, h2⟩, h3⟩, h4⟩ := h
      exact ss_ifeT (ss_ife (sndE c h2 g.g) h1 (sndL a g h3) (sndL b g h4))
    · cases h
  | .for_ tg it body tmp trim, _, _, _, g, h => by
    unfold chkS at h
    split at h
    · simp only [Bool.and_eq_true, Bool.not_eq_true'] at h
      obtain ⟨⟨⟨h1, h2⟩, h3⟩, h4⟩ := h
      exact ss_for g (sndI it h2 g.g _ fun z => z) (pg_of g.g h1) (sndL body g h4) h3
    · cases h
  | .while_ c body tmp trim, _, _, _, g, h => by
    unfold chkS at h
    split at h
    · simp only [Bool.and_eq_true] at h
      obtain ⟨⟨h1, h2⟩, h3⟩ := h
      exact ss_while g (sndE c h2 g.g) h1 (sndL body g h3)
    · cases h
  | .raise c, _, _, _, g, h => ss_raise g h
  | .fz i, _, _, _, g, h => by
    unfold chkS at h
    cases h
  | .dead, _, _, _, g, h => by
    unfold chkS at h
    cases h
  | .tryA body i suite, _, _, _, g, h => by
    unfold chkS at h
    split at h
    · simp only [Bool.and_eq_true, beq_iff_eq] at h
      obtain ⟨⟨⟨⟨⟨⟨⟨h1, h2⟩, h3⟩, h4⟩, h5⟩, h6⟩, h7⟩, h8⟩ := h
      exact ss_tryA g h1 h2 h3 h4 h5 h6 (fun g' => sndL body g' h7) h8
    · cases h
theorem sndL : ∀ (ss : List S) {X : Cx} {W : WX} {ps : List Stmt}, GoodS C N X sc ow W → chkL C.T C.G C.cls N sc ow ss ps = true → PSs X ps (tSs C X W ss)
  | [], _, _, ps, g, h => by
    unfold chkL at h
    split at h
    · exact ss_nil
    · cases h
  | s :: ss, _, _, ps, g, h => by
    unfold chkL at h
    by_cases hy : isDead s = true
    · have : s = .dead := by
        cases s <;> first | rfl | cases hy
      subst this
      exact ⟨fun pins s0 σ H D I q => by
        obtain ⟨F, ad, env, st, r, en, ok⟩ := q
        unfold exL at ok
        unfold exS at ok
        exact ok.elim⟩
    rw [if_neg hy] at h
    by_cases hz : isFz s = true
    · rw [if_pos hz] at h
      have : ∃ i, s = .fz i := by
        cases s <;> first | exact ⟨_, rfl⟩ | cases hz
      obtain ⟨i, rfl⟩ := this
      exact ss_fz (sndL ss g h)
    rw [if_neg hz] at h
    split at h
    · simp only [Bool.and_eq_true] at h
      exact ss_cons (sndS s g h.1) (sndL ss g h.2)
    · cases h
end
end
end MP

/-! Defs; the end. -/
namespace MP
open PySem PySem.Spec PyProof.Rows L2

/-- a body, its text ahead of it left out -/
def chkB (T : Nat → Option Def) (G : Str → Option D) (cls : Str → Option Addr) (N : List Str) (sc : Scope) (ss : List S) : List Stmt → Bool
  | .Expr (.Constant (.str _) _ _) _ :: ps => chkL T G cls N sc (fun _ => true) ss ps
  | ps => chkL T G cls N sc (fun _ => true) ss ps
structure DefP (T : Nat → Option Def) (G : Str → Option D) (exc : List Str) (d : Def) (e : He.DefD) : Prop where
  at_ : e.at_ = (d.name, none)
  dfl : e.dfl = []
  kwd : e.kwd = []
  sc : FnScope d.locs d.pars e.scope
  chk : ∀ cls : Str → Option Addr, (∀ c ∈ exc, (cls c).isSome = true) → chkB T G cls d.locs e.scope d.body e.body = true
  bind : ∀ (kV doc pm : Value) (an : Option Addr) (cdv ct : Value) (us : List Value), us.length = d.pars.length → bindArgs (PySem.W.fnOf e.name e.qual e.params e.body e.scope .none kV doc pm an cdv ct) ⟨us, []⟩ = pure (d.pars.zip us)
/-- the check without the classes' addresses -/
theorem chkB_cls {T : Nat → Option Def} {G : Str → Option D} {N : List Str} {sc : Scope} {ss : List S} {ps : List Stmt} {exc : List Str} (h : chkB T G (fun c => if exc.contains c then some 0 else none) N sc ss ps = true) :
    ∀ cls : Str → Option Addr, (∀ c ∈ exc, (cls c).isSome = true) → chkB T G cls N sc ss ps = true := fun cls hc => by
  unfold chkB at h ⊢
  split at h <;> exact go hc _ h
where
  goS {cls : Str → Option Addr} {ow : Str → Bool} (hc : ∀ c ∈ exc, (cls c).isSome = true) : ∀ (s : S) {p : Stmt}, chkS T G (fun c => if exc.contains c then some 0 else none) N sc ow s p = true → chkS T G cls N sc ow s p = true
    | .set i e, _, h => by unfold chkS at h ⊢; exact h
    | .unpack is e, _, h => by unfold chkS at h ⊢; exact h
    | .par2 i j a b, _, h => by unfold chkS at h ⊢; exact h
    | .par3 i j k a b c, _, h => by unfold chkS at h ⊢; exact h
    | .put o i v, _, h => by unfold chkS at h ⊢; exact h
    | .dput o i v, _, h => by unfold chkS at h ⊢; exact h
    | .expr e, _, h => by unfold chkS at h ⊢; exact h
    | .ret e, _, h => by unfold chkS at h ⊢; exact h
    | .retN, _, h => by unfold chkS at h ⊢; exact h
    | .ife c a b, _, h => by
      unfold chkS at h ⊢
      split at h
      · simp only [Bool.and_eq_true] at h ⊢
        obtain ⟨⟨⟨h1, h2⟩, h3⟩, h4⟩ := h
        exact ⟨⟨⟨h1, h2⟩, go hc a h3⟩, go hc b h4⟩
      · cases h
    | .ifeT c a b tmp, _, h => by
      unfold chkS at h ⊢
      split at h
      · simp only [Bool.and_eq_true] at h ⊢
        obtain ⟨⟨⟨h1, h2⟩, h3⟩, h4⟩ := h
        exact ⟨⟨⟨h1, h2⟩, go hc a h3⟩, go hc b h4⟩
      · cases h
    | .for_ tg it body tmp trim, _, h => by
      unfold chkS at h ⊢
      split at h
      · simp only [Bool.and_eq_true] at h ⊢
        obtain ⟨⟨⟨h1, h2⟩, h3⟩, h4⟩ := h
        exact ⟨⟨⟨h1, h2⟩, h3⟩, go hc body h4⟩
      · cases h
    | .while_ c body tmp trim, _, h => by
      unfold chkS at h ⊢
      split at h
      · simp only [Bool.and_eq_true] at h ⊢
        obtain ⟨⟨h1, h2⟩, h3⟩ := h
        exact ⟨⟨h1, h2⟩, go hc body h3⟩
      · cases h
    | .fz _, _, h => by unfold chkS at h; cases h
    | .dead, _, h => by unfold chkS at h; cases h
    | .tryA body i suite, _, h => by
      unfold chkS at h ⊢
      split at h
      · simp only [Bool.and_eq_true] at h ⊢
        obtain ⟨⟨h1, h2⟩, h3⟩ := h
        exact ⟨⟨h1, go hc body h2⟩, go hc suite h3⟩
      · cases h
    | .raise c, _, h => by
      unfold chkS at h ⊢
      split at h
      · simp only [Bool.and_eq_true, beq_iff_eq] at h ⊢
        obtain ⟨⟨⟨h1, h2⟩, h3⟩, h4⟩ := h
        refine ⟨⟨⟨h1, hc c ?_⟩, h3⟩, h4⟩
        by_cases q : exc.contains c = true
        · simpa using q
        · rw [if_neg q] at h2; cases h2
      · cases h
  go {cls : Str → Option Addr} {ow : Str → Bool} (hc : ∀ c ∈ exc, (cls c).isSome = true) : ∀ (ss : List S) {ps : List Stmt}, chkL T G (fun c => if exc.contains c then some 0 else none) N sc ow ss ps = true → chkL T G cls N sc ow ss ps = true
    | [], ps, h => by unfold chkL at h ⊢; exact h
    | s :: ss, ps, h => by
      unfold chkL at h ⊢
      by_cases hy : isDead s = true
      · rw [if_pos hy]
      rw [if_neg hy] at h ⊢
      by_cases hz : isFz s = true
      · rw [if_pos hz] at h ⊢
        exact go hc ss h
      rw [if_neg hz] at h ⊢
      split at h
      · simp only [Bool.and_eq_true] at h ⊢
        exact ⟨goS hc s h.1, go hc ss h.2⟩
      · cases h
section
variable {P : Program} {w : World} {K : PySem.W.Frag} {mg : Str → Option Value} {base : Heap} {T : Nat → Option Def} {G : Str → Option D} {cls : Str → Option Addr}
theorem sndB {C : Con} {N : List Str} {X : Cx} {sc : Scope} {W : WX} {ss : List S} {ps : List Stmt} (g : GoodS C N X sc (fun _ => true) W) (h : chkB C.T C.G C.cls N sc ss ps = true) : PSs X ps (tSs C X W ss) := by
  unfold chkB at h
  split at h
  · exact (pss_cons ps_doc (sndL ss g h)).imp fun D σ H q => q
  · exact sndL ss g h
theorem sndBH {C : Con} {N : List Str} {X : Cx} {sc : Scope} {W : WX} {ss : List S} {ps : List Stmt} (hq : hotL C.T (fun _ => false) ss = true) (g : MildS C N X sc (fun _ => true)) (h : chkB C.T C.G C.cls N sc ss ps = true) : PSs X ps (tSs C X W ss) := by
  have hd : ∀ d : Def, (fun _ => false) d = true → hotD C.T d = true ∧ WE W = EF := fun _ z => by cases z
  unfold chkB at h
  split at h
  · exact (pss_cons ps_doc (sndHL ss hq hd h g)).imp fun D σ H q => q
  · exact sndHL ss hq hd h g
theorem run_len {k f : Nat} {d : Def} {ds : List D} {st : Sto} (hT : T f = some d) (h : run T k f ds st ≠ .stuck) : ds.length = d.pars.length := by
  cases k with
  | zero => exact absurd rfl h
  | succ k =>
    unfold run at h
    rw [hT] at h
    dsimp only at h
    unfold runD at h
    by_cases q : ds.length = d.pars.length
    · exact q
    · rw [if_neg q] at h; exact absurd rfl h
theorem sp_len {C : Con} {k f : Nat} {d : Def} (hT : C.T f = some d) : ∀ vs H Q E, spF C K k f vs H Q E → vs.length = d.pars.length := fun vs H Q E ⟨F, ad, st, ds, r, rs, ok⟩ => by
  rw [rs.length]
  refine run_len (T := C.T) (k := k) (f := f) (st := st) hT fun e => ?_
  rw [e] at ok
  exact ok
theorem start_env {F : Hp} {ad : List Addr} {vs : List V} {ds : List D} {N : List Str} (h : Reps K F ad vs ds) : EnvRel K F ad (ds.map some ++ List.replicate (N.length - ds.length) Option.none) (L2.start N vs) := by
  have hl := h.length
  refine ⟨by simp [L2.start, hl], fun i d e => ?_⟩
  by_cases hi : i < ds.length
  · rw [List.getElem?_append_left (by simpa using hi), List.getElem?_map] at e
    cases q : ds[i]? with
    | none => rw [q] at e; cases e
    | some d' =>
      rw [q] at e
      cases e
      obtain ⟨v, h1, h2⟩ := h.get q
      refine ⟨v, ?_, h2⟩
      unfold L2.start
      rw [List.getElem?_append_left (by simp [hl, hi]), List.getElem?_map, h1]; rfl
  · rw [List.getElem?_append_right (by simpa using hi), List.getElem?_replicate] at e
    split at e <;> cases e
/-- what the head tells -/
structure Told (K : PySem.W.Frag) (w : World) (mg : Str → Option Value) (T : Nat → Option Def) (G : Str → Option D) (exc : List Str) (cls : Str → Option Addr) : Prop where
  defs : ∀ f d, T f = some d → ∃ e a fd, DefP T G exc d e ∧ FunD K e.name e.qual e.params e.body e.scope (e.dvs K) (e.kws K) a fd ∧ mg d.name = some (.ref a)
  glo : ∀ x d, G x = some d → d.isDk = false → ∃ u v, mg x = some u ∧ RelV v u ∧ ∀ F ad, Rep K F ad v d
  tab : ∀ x ks vs, G x = some (.dk (ks.map Sum.inr) (vs.map D.int)) → ∃ a, mg x = some (.ref a) ∧ TabK K w a ks vs
  blt : ∀ x, x ∈ bnames → mg x = none
  exo : ∀ c a, cls c = some a → ExcOk K mg c a
  all : ∀ c ∈ exc, (cls c).isSome = true
  exw : isExG (G "HallError") = true → ∀ k, ExW K mg ⟨T, cls, G, k⟩
  nrp : isRp (G "repr") = false
def FnsAt (K : PySem.W.Frag) (w : World) (mg : Str → Option Value) (T : Nat → Option Def) (G : Str → Option D) (cls : Str → Option Addr) (k : Nat) : Prop :=
  ∀ (f : Nat) (d : Def), T f = some d → ∃ a fd, (∀ (P : Program) (base : Heap), FnOk P w K mg base (L2N.CX P w) k a fd d.pars (spF ⟨T, cls, G, k⟩ K k f)) ∧ mg d.name = some (.ref a) ∧ PySem.W.keepIn K (.ref a) = true ∧ Binds K fd d.pars [] ∧ ∀ (s : Shared) (us : List Value), us.length = d.pars.length → BindsTo s fd ⟨us, []⟩ (d.pars.zip us)
def HotAt (K : PySem.W.Frag) (w : World) (mg : Str → Option Value) (T : Nat → Option Def) (G : Str → Option D) (cls : Str → Option Addr) (k : Nat) : Prop :=
  ∀ (f : Nat) (d : Def), T f = some d → hotD T d = true → ∃ a fd, (∀ (P : Program) (base : Heap), FnG P w K mg base (L2N.CX P w) k a fd d.pars (spF ⟨T, cls, G, k⟩ K k f)) ∧ mg d.name = some (.ref a) ∧ PySem.W.keepIn K (.ref a) = true ∧ Binds K fd d.pars []
theorem facts_at {exc : List Str} (t : Told K w mg T G exc cls) {k : Nat} (h1 : FnsAt K w mg T G cls k) (h2 : HotAt K w mg T G cls k) (P : Program) (base : Heap) : Facts P w K mg base ⟨T, cls, G, k⟩ :=
  ⟨fun f d h => let ⟨a, fd, h1, h2, h3, h4, _⟩ := h1 f d h; ⟨a, fd, h1 _ _, h2, h3, h4⟩, t.glo, t.tab, t.blt, fun h => t.exw h k, fun f d h hh => let ⟨a, fd, h1, h2, h3, h4⟩ := h2 f d h hh; ⟨a, fd, h1 _ _, h2, h3, h4⟩⟩
theorem body_sp {k f : Nat} {d : Def} {vs : List V} {H : Hp} {Q : VK} {E : XK} (hT : T f = some d) (hsp : spF ⟨T, cls, G, k + 1⟩ K (k + 1) f vs H Q E) : ∃ F ad env st, RelS K F ad st H ∧ EnvRel K F ad env (L2.start d.locs vs) ∧ OkX K cls (fun c dd _ H => E c dd H) F ad H (exL (run T k) d.body env st) { nx := fun _ H' => Q .non H', rt := Q } := by
  obtain ⟨F, ad, st, ds, r, rs, ok⟩ := hsp
  have hl : ds.length = d.pars.length := run_len (T := T) (k := k + 1) (f := f) (st := st) hT fun q => by
    dsimp only at ok
    rw [q] at ok; exact ok
  refine ⟨F, ad, ds.map some ++ List.replicate (d.locs.length - ds.length) Option.none, st, r, start_env rs, ?_⟩
  dsimp only at ok ⊢
  unfold run at ok
  rw [hT] at ok
  dsimp only at ok
  unfold runD at ok
  rw [if_pos hl] at ok
  cases q : exL (run T k) d.body (ds.map some ++ List.replicate (d.locs.length - ds.length) Option.none) st with
  | nx env st' =>
    rw [q] at ok
    exact fun F' ad' H' σ' s' r' _ => ok F' ad' H' .non s' r' .none
  | rt x st' => rw [q] at ok; exact ok
  | err c env st' =>
    rw [q] at ok
    exact fun F' ad' H' σ' a s' r' _ e => ok F' ad' H' a s' r' e
  | stuck => rw [q] at ok; exact ok.elim
theorem fh_all {exc : List Str} (t : Told K w mg T G exc cls) : ∀ k : Nat, FnsAt K w mg T G cls k ∧ HotAt K w mg T G cls k
  | 0 => by
    refine ⟨fun f d hT => ?_, fun f d hT hh => ?_⟩
    · obtain ⟨e, a, fd, dp, F, hm⟩ := t.defs f d hT
      have e1 : e.dvs K = [] := by unfold He.DefD.dvs; rw [dp.dfl]; rfl
      rw [e1] at F
      exact ⟨a, fd, fun _ _ => ⟨sp_len hT, fun A outer s H args us vs Q E _ _ _ _ ⟨_, _, _, _, _, _, ok⟩ => ok.elim⟩, hm, F.kp, F.bindsN dp.bind, F.bindsA dp.bind⟩
    · obtain ⟨e, a, fd, dp, F, hm⟩ := t.defs f d hT
      have e1 : e.dvs K = [] := by unfold He.DefD.dvs; rw [dp.dfl]; rfl
      rw [e1] at F
      exact ⟨a, fd, fun _ _ => ⟨sp_len hT, fun A outer s H args us vs Q E _ _ _ _ _ ⟨_, _, _, _, _, _, ok⟩ => ok.elim⟩, hm, F.kp, F.bindsN dp.bind⟩
  | k + 1 => by
    obtain ⟨ih1, ih2⟩ := fh_all t k
    have ft := facts_at t ih1 ih2
    refine ⟨fun f d hT => ?_, fun f d hT hh => ?_⟩
    · obtain ⟨e, a, fd, dp, F, hm⟩ := t.defs f d hT
      have e1 : e.dvs K = [] := by unfold He.DefD.dvs; rw [dp.dfl]; rfl
      rw [e1] at F
      refine ⟨a, fd, fun P base => F.ok dp.sc (sp_len hT) (fun cdv A outer s H vs Q E hr hsp => ?_), hm, F.kp, F.bindsN dp.bind, F.bindsA dp.bind⟩
      have g : GoodS ⟨T, cls, G, k⟩ d.locs (cxOf (L2N.CX P w) P w K mg base d.locs e.qual e.scope a cdv A outer s H E) e.scope (fun _ => true) (fun c dd _ H => E c dd H) := by
        have tk : L2N.Takes (cxOf (L2N.CX P w) P w K mg base d.locs e.qual e.scope a cdv A outer s H E) (fun c dd _ H => E c dd H) := L2N.takes_of rfl rfl rfl rfl
        exact ⟨⟨rfl, dp.sc.nd, rfl, rfl, hr, fun σ => L2N.passAt tk σ, fun x h => h, ft P base, fun z => absurd (show isRp (G "repr") = true from z) (by rw [t.nrp]; decide)⟩, passes_of rfl, tk, t.exo, dp.sc.kind, rfl, rfl, rfl⟩
      exact ⟨_, sndB g (dp.chk cls t.all), body_sp hT hsp⟩
    · obtain ⟨e, a, fd, dp, F, hm⟩ := t.defs f d hT
      have e1 : e.dvs K = [] := by unfold He.DefD.dvs; rw [dp.dfl]; rfl
      rw [e1] at F
      have kp := F.kp
      have hb := F.bindsN dp.bind
      obtain ⟨oc, od, dV, kV, doc, pm, an, cdv, ct, osl, rfl, lk, hcd, _, _⟩ := F.ex
      refine ⟨a, _, fun P base => fn_ofG lk hcd dp.sc (sp_len hT) (fun A outer s H vs Q E hr hot hsp => ?_), hm, kp, hb⟩
      have g : MildS ⟨T, cls, G, k⟩ d.locs (cxG (L2N.CX P w) P w K mg base d.locs e.qual e.scope a cdv A outer s H E) e.scope (fun _ => true) :=
        ⟨⟨rfl, dp.sc.nd, rfl, by have := hr.un; show (A.deeper _).units + 65 < cLine; omega, ft P base⟩, fun x h => h, hr, dp.sc.kind, hot⟩
      exact ⟨_, sndBH (C := ⟨T, cls, G, k⟩) (ss := d.body) hh g (dp.chk cls t.all), body_sp hT hsp⟩
theorem fns_all {exc : List Str} (t : Told K w mg T G exc cls) (k : Nat) : FnsAt K w mg T G cls k := (fh_all t k).1
/-! ### the exception classes, by the head's check -/
def excCB (K : PySem.W.Frag) (D : Addr) : Bool :=
  PySem.W.findIn K (.ref D) "__getattribute__" == some (some (.builtin "BaseException.__getattribute__")) && PySem.W.findIn K (.ref D) "__getattr__" == some none && PySem.W.subIn K (.ref D) (.type "BaseException") == some true && PySem.W.hasDictIn K D &&
  PySem.W.findIn K (.ref D) "__class__" == some (some (.builtin "object.__class__")) && PySem.W.specialIn K (.builtin "object.__class__") "__get__" == some (some (.builtin "getset_descriptor.__get__")) && PySem.W.takesIn K (.builtin "object.__class__") == some true && PySem.W.mroIn K D (.type "object") == some true
theorem excCB_ok {K : PySem.W.Frag} {D : Addr} (h : excCB K D = true) : ExcC K D := by
  unfold excCB at h
  simp only [Bool.and_eq_true, beq_iff_eq] at h
  obtain ⟨⟨⟨⟨⟨⟨⟨h1, h2⟩, h3⟩, h4⟩, h5⟩, h6⟩, h7⟩, h8⟩ := h
  exact ⟨h1, h2, h3, h4, h5, h6, h7, h8⟩
def exwB (K : PySem.W.Frag) (hh : Addr) (gs : List (Str × Addr)) : Bool := exNames.all fun c => match excA K c with
  | none => true
  | some a => excCB K a && PySem.W.exmOne K (.ref a) (.ref hh) == some true && PySem.W.kitOne K (.ref a) (.type "ValueError") == some true && gs.all fun g => PySem.W.kitOne K (.ref a) (.ref g.2) == some (isSub c g.1)
theorem exwB_ok {K : PySem.W.Frag} {hh : Addr} {gs : List (Str × Addr)} (h : exwB K hh gs = true) {c : Str} {a : Addr} (hk : kn c = true) (ha : excA K c = some a) :
    ExcC K a ∧ PySem.W.exmOne K (.ref a) (.ref hh) = some true ∧ PySem.W.kitOne K (.ref a) (.type "ValueError") = some true ∧ ∀ g ∈ gs, PySem.W.kitOne K (.ref a) (.ref g.2) = some (isSub c g.1) := by
  have hc : c ∈ exNames := by unfold kn at hk; simpa using hk
  have h := List.all_eq_true.mp h c hc
  rw [ha] at h
  simp only [Bool.and_eq_true, beq_iff_eq] at h
  obtain ⟨⟨⟨h1, h2⟩, h3⟩, h4⟩ := h
  exact ⟨excCB_ok h1, h2, h3, fun g hg => beq_iff_eq.mp (List.all_eq_true.mp h4 g hg)⟩
def excsB (K : PySem.W.Frag) (l : List (Str × Addr)) : Bool := l.all fun p => kn p.1 && excA K p.1 == some p.2
theorem excsB_ok {K : PySem.W.Frag} {l : List (Str × Addr)} (h : excsB K l = true) {p : Str × Addr} (hp : p ∈ l) : kn p.1 = true ∧ excA K p.1 = some p.2 := by
  have h := List.all_eq_true.mp h p hp
  rw [Bool.and_eq_true, beq_iff_eq] at h
  exact h
/-- a call's exception, whatever the world -/
def CXa (P : Program) : CXT := fun o H s E u s' => ∃ w, L2N.CX P w o H s E u s'
theorem FnOk_any {k : Nat} {f : Addr} {fd : FuncData} {ps : List Str} {sp : Sp} (F : FnOk P w K mg base (L2N.CX P w) k f fd ps sp) : FnOk P w K mg base (CXa P) k f fd ps sp :=
  ⟨F.len, fun A outer s H args us vs Q E hr he hb hv hs => codeAny_mono (F.run A outer s H args us vs Q E hr he hb hv hs) fun r s' h => by
    cases r with
    | error e => exact ⟨w, h⟩
    | ok fl => cases fl <;> exact h⟩
theorem cxa_no {H : Hp} {s : Shared} {e : Value} {s' : Shared} (h : CXa P [] H s (fun _ _ _ => False) e s') : False := by
  obtain ⟨w, _, _, _, _, _, _, _, _, _, _, _, _, z⟩ := h
  exact z
/-- the law: what it computes is True -/
theorem law_sp {C : Con} {k f : Nat} {n : Nat} (h : ∀ ns : List Int, ns.length ≤ n → ∃ st, run C.T k f [.scr ns] [] = .ok (.bool true) st) (H : Hp) (a : Addr) (ns : List Int) (hn : ns.length ≤ n) (hS : SqL K H a (ns.map V.int)) :
    spF C K k f [.ref a] H (fun v _ => v = .bl true) fun _ _ _ => False := by
  obtain ⟨st, e⟩ := h ns hn
  refine ⟨H, [], [], [.scr ns], start_rel fun _ _ h => h, .cons (.scr hS) .nil, ?_⟩
  rw [e]
  intro F' ad' H' v s r x
  cases x
  rfl
end
end MP

/-! A law that shows values: its def runs while nothing else is being shown. -/
namespace MP
open PySem PySem.Spec PyProof.Rows L2
/-- what a def promises where nothing is being shown -/
def FnR (P : Program) (w : World) (K : PySem.W.Frag) (mg : Str → Option Value) (base : Heap) (CX : CXT) (k : Nat) (f : Addr) (fd : FuncData) (ps : List Str) (sp : Sp) : Prop :=
  ∀ (A : Around) (outer : List PySem.Env) (s : Shared) (H : Hp) (args : Args) (us : List Value) (vs : List V) (Q : VK) (E : XK), A.guards = some [] → Room k A → Env0 P w K mg base A outer s H → BindsTo s fd args (ps.zip us) → Vals vs us → sp vs H Q E →
    codeAny (model P w) A (.call (.ref f) args) (CR CX outer P w H s Q E) s
section
variable {CX : CXT} {P : Program} {w : World} {K : PySem.W.Frag} {mg : Str → Option Value} {base : Heap} {k : Nat} {f : Addr} {sp : Sp} {N ps : List Str} {scope : Scope} {qual : Str} {body : List Stmt}
theorem fnR_of {nm : Str} {pm : Arguments} {dV kV doc pmv cdv ct oc : Value} {an od : Option Addr} {osl : Array (Option Value)} (lk : K.lookup f = some ⟨oc, od, .func (PySem.W.fnOf nm qual pm body scope dV kV doc pmv an cdv ct), osl⟩)
    (hcd : PySem.W.codeIn K cdv qual = true) (S : FnScope N ps scope) (len : ∀ vs H Q E, sp vs H Q E → vs.length = ps.length)
    (hb : ∀ (A : Around) (outer : List PySem.Env) (s : Shared) (H : Hp) (vs : List V) (Q : VK) (E : XK), A.guards = some [] → Room k (A.deeper (envOfC qual scope s.heap.objs.size f cdv)) → sp vs H Q E →
      ∃ t, PSs (cxOf CX P w K mg base N qual scope f cdv A outer s H E) body t ∧ t { nx := fun _ H' => Q .non H', rt := Q } (L2.start N vs) H) :
    FnR P w K mg base CX (k + 1) f (PySem.W.fnOf nm qual pm body scope dV kV doc pmv an cdv ct) ps sp := by
  intro A outer s H args us vs Q E hg hr e0 hbi r hsp
  have hl := len _ _ _ _ hsp
  have hin : K.In s.heap := e0.mod.kin.keeps fun b o z => (e0.bs b o z).1
  have lim : s.heap.NoLimit := e0.mod.nolimit.keeps fun b o z => (e0.bs b o z).1
  refine codeAny_call_function hr.depth (hin _ _ lk) rfl S.co S.gen rfl (PySem.W.codeRec_of hin hcd) (hbi _ _ _ _ (wpAny_newFunctionEnv_cells S.kind (fun p hp => ?_) fun env he s1 x => ?_))
  · obtain ⟨n, v⟩ := p
    rcases S.par n (List.of_mem_zip hp).1 with z | z
    · exact .inl z
    · exact .inr ⟨z, PySem.W.cellsFrom_some _ _ _ (.inl z)⟩
  · subst he
    refine ⟨lim.keeps x.toInCall.keep, codeAny_func ?_⟩
    obtain ⟨t, ht, hq⟩ := hb A outer s H vs Q E hg (hr.deeper _) hsp
    have I : Inv (cxOf CX P w K mg base N qual scope f cdv A outer s H E) [] (L2.start N vs) H s1 := inv_start S hr.hd e0 hl r x
    refine wpAny_mono (ht.run [] s1 (L2.start N vs) H _ I hq) (fun fl s' hs => ?_) fun e s' hs => hs
    cases fl with
    | ret u =>
      obtain ⟨v, σ', H', J, rv, z⟩ := hs
      exact ⟨v, H', J.os, J.bare, J.base, J.hok, rv, z⟩
    | next =>
      obtain ⟨σ', H', J, z⟩ := hs
      exact ⟨V.non, H', J.os, J.bare, J.base, J.hok, rfl, z⟩
    | brk =>
      obtain ⟨_, _, _, z⟩ := hs
      exact False.elim z
    | cont =>
      obtain ⟨_, _, _, z⟩ := hs
      exact False.elim z
end
/-! ### the law's def, over the other ones -/
def markG (G : Str → Option D) : Str → Option D := fun x => if x = "repr" then some (.dk [] [.none]) else G x
def spL (C : Con) (K : PySem.W.Frag) (d : Def) : Sp := fun vs H Q E => ∃ F ad st ds, RelS K F ad st H ∧ Reps K F ad vs ds ∧ OkD K C.cls E F ad H (runD (run C.T C.k) d ds st) Q
section
variable {w : World} {K : PySem.W.Frag} {mg : Str → Option Value} {T : Nat → Option Def} {G : Str → Option D} {cls : Str → Option Addr} {exc : List Str}
theorem facts_mark (t : Told K w mg T G exc cls) (hx : mg "repr" = none) (k : Nat) (P : Program) (base : Heap) : Facts P w K mg base ⟨T, cls, markG G, k⟩ := by
  obtain ⟨h1, h2⟩ := fh_all t k
  have f := facts_at t h1 h2 P base
  refine ⟨f.fns, fun x d h hd => ?_, fun x ks vs h => ?_, f.blt, fun h => ?_, f.hot⟩
  · have h : markG G x = some d := h
    unfold markG at h
    split at h
    · cases h; cases hd
    · exact f.glo x d h hd
  · have h : markG G x = some _ := h
    unfold markG at h
    split at h
    · injection h with h
      injection h with h1 h2
      cases vs with
      | nil => cases h2
      | cons v vs => injection h2 with h2 h3; cases h2
    · exact f.tab x ks vs h
  · have h : isExG (markG G "HallError") = true := h
    unfold markG at h
    rw [if_neg (by decide)] at h
    have e := t.exw h k
    refine ⟨e.hall, e.at_, e.ex, fun g hg => ?_, e.ve, e.nv⟩
    have hg : isExG (markG G g) = true := hg
    unfold markG at hg
    split at hg
    · cases hg
    · exact e.one g hg
theorem law_fn (t : Told K w mg T G exc cls) {d : Def} {e : He.DefD} {a : Addr} {fd : FuncData} (dp : DefP T (markG G) exc d e) (F : FunD K e.name e.qual e.params e.body e.scope (e.dvs K) (e.kws K) a fd) (k : Nat) (P : Program) (base : Heap) :
    FnR P w K mg base (L2N.CX P w) (k + 1) a fd d.pars (spL ⟨T, cls, markG G, k⟩ K d) ∧ ∀ (s : Shared) (us : List Value), us.length = d.pars.length → BindsTo s fd ⟨us, []⟩ (d.pars.zip us) := by
  have e1 : e.dvs K = [] := by unfold He.DefD.dvs; rw [dp.dfl]; rfl
  rw [e1] at F
  have len : ∀ vs H Q E, spL ⟨T, cls, markG G, k⟩ K d vs H Q E → vs.length = d.pars.length := fun vs H Q E ⟨_, ad, st, ds, _, rs, ok⟩ => by
    rw [rs.length]
    unfold runD at ok
    split at ok
    · assumption
    · exact ok.elim
  refine ⟨?_, F.bindsA dp.bind⟩
  obtain ⟨oc, od, dV, kV, doc, pm, an, cdv, ct, osl, rfl, lk, hcd, _, _⟩ := F.ex
  refine fnR_of lk hcd dp.sc len fun A outer s H vs Q E hg hr hsp => ?_
  have tk : L2N.Takes (cxOf (L2N.CX P w) P w K mg base d.locs e.qual e.scope a cdv A outer s H E) (fun c dd _ H => E c dd H) := L2N.takes_of rfl rfl rfl rfl
  have g : GoodS ⟨T, cls, markG G, k⟩ d.locs (cxOf (L2N.CX P w) P w K mg base d.locs e.qual e.scope a cdv A outer s H E) e.scope (fun _ => true) (fun c dd _ H => E c dd H) :=
    ⟨⟨rfl, dp.sc.nd, rfl, rfl, hr, fun σ => L2N.passAt tk σ, fun x h => h, facts_mark t (t.blt "repr" (by decide)) k P base, fun _ => hg⟩, passes_of rfl, tk, t.exo, dp.sc.kind, rfl, rfl, rfl⟩
  refine ⟨_, sndB g (dp.chk cls t.all), ?_⟩
  have hl := len _ _ _ _ hsp
  obtain ⟨F2, ad, st, ds, r, rs, ok⟩ := hsp
  refine ⟨F2, ad, ds.map some ++ List.replicate (d.locs.length - ds.length) Option.none, st, r, start_env rs, ?_⟩
  dsimp only at ok ⊢
  unfold runD at ok
  rw [if_pos (rs.length.symm.trans hl)] at ok
  cases q : exL (run T k) d.body (ds.map some ++ List.replicate (d.locs.length - ds.length) Option.none) st with
  | nx env st' =>
    rw [q] at ok
    exact fun F' ad' H' σ' s' r' _ => ok F' ad' H' .non s' r' .none
  | rt x st' => rw [q] at ok; exact ok
  | err c env st' =>
    rw [q] at ok
    exact fun F' ad' H' σ' a s' r' _ e => ok F' ad' H' a s' r' e
  | stuck => rw [q] at ok; exact ok.elim
theorem lawR_sp {C : Con} {d : Def} {n : Nat} (h : ∀ ns : List Int, ns.length ≤ n → ∃ st, runD (run C.T C.k) d [.scr ns] [] = .ok (.bool true) st) (H : Hp) (a : Addr) (ns : List Int) (hn : ns.length ≤ n) (hS : SqL K H a (ns.map V.int)) :
    spL C K d [.ref a] H (fun v _ => v = .bl true) fun _ _ _ => False := by
  obtain ⟨st, e⟩ := h ns hn
  refine ⟨H, [], [], [.scr ns], start_rel fun _ _ h => h, .cons (.scr hS) .nil, ?_⟩
  rw [e]
  intro F' ad' H' v s r x
  cases x
  rfl
end
/-! ### the head: the law is called where nothing is being shown -/
theorem lawR_call {P : Program} {w : World} {K : PySem.W.Frag} {mg mb : Str → Option Value} {CX : CXT} {k : Nat} {fa a : Addr} {fd : FuncData} {x : Str} {sp : Sp} {s : Shared} {vs : List Value} {ns : List Int}
    (hin : K.In s.heap) (hns : s.heap.Ns mainGlobals mg) (hb : s.heap.Ns builtinsNs mb) (hbb : ∀ y : Str, y ≠ "__name__" → mb y = bootBuiltins y) (hlim : s.heap.NoLimit) (hg : s.gens = #[])
    (ha : s.heap.get? a = some { cls := .type "list", data := .seq vs.toArray }) (hi : IntsAre vs ns) (hl : ns.length ≤ sizeLine) (hr : Room k callerA)
    (F : ∀ base : Heap, K.In base → base.Ns mainGlobals mg → FnR P w K mg base CX k fa fd [x] sp) (hbi : ∀ (t : Shared) (u : Value), BindsTo t fd ⟨[u], []⟩ [(x, u)])
    (hsp : ∀ H : Hp, L2.Only H → SqL K H a (ns.map V.int) → sp [.ref a] H (fun v _ => v = .bl true) fun _ _ _ => False)
    (hCX : ∀ H e t, CX [] H s (fun _ _ _ => False) e t → False) :
    codeAny (model P w) callerA (.call (.ref fa) ⟨[.ref a], []⟩) (fun r t => r = .ok (.ret (.bool true)) ∧ OldK s.heap t.heap ∧ t.os = s.os ∧ AllBare t.gens) s := by
  have core : ∀ H : Hp, L2.Only H → SqL K H a (ns.map V.int) → HOk P w H s.heap → (∀ b, H b ≠ none → b = a) → (H a ≠ none → K.lookup a = none) →
      codeAny (model P w) callerA (.call (.ref fa) ⟨[.ref a], []⟩) (fun r t => r = .ok (.ret (.bool true)) ∧ OldK s.heap t.heap ∧ t.os = s.os ∧ AllBare t.gens) s := by
    intro H hO hS hok hA hK
    have only_a : ∀ {b : Addr}, (b = a → False) → H b = none := fun {b} hn => by
      cases z : H b with
      | none => rfl
      | some u => exact (hn (hA b (by rw [z]; simp))).elim
    have noD : ∀ {b : Addr} {o : Obj} {es : Array DictEntry} {ep : Nat}, s.heap.get? b = some o → o.data = .dict es ep → H b = none := fun {b o es ep} e d => only_a fun z => by
      subst z
      rw [ha] at e
      cases e
      exact nomatch (show Data.seq vs.toArray _ = Data.dict es ep from d)
    have keepNs : ∀ {b : Addr} {m : Str → Option Value}, s.heap.Ns b m → (hidT s.heap H).Ns b m := fun {b m} ⟨o, es, ep, e, d, r⟩ => ⟨o, es, ep, hidT_get e (noD e d), d, r⟩
    have hKb : K.In (hidT s.heap H) := fun b o e => hidT_get (hin b o e) (by
      by_cases z : b = a
      · subst z
        cases z2 : H b with
        | none => rfl
        | some u => rw [hK (by rw [z2]; simp)] at e; cases e
      · exact only_a z)
    have hM : Mod K mg (hidT s.heap H) := ⟨hKb, keepNs hns, ⟨mb, keepNs hb, hbb⟩, let ⟨mc, h1, h2⟩ := hlim; ⟨mc, keepNs h1, h2⟩⟩
    have e0 : Env0 P w K mg (hidT s.heap H) callerA [] s H :=
      { frames := rfl, mod := hM, bs := fun b o e => of_hidT e, bsz := Nat.le_of_eq (hidT_size _ _), funs := trivial, frf := fun b hb => absurd (show b ∈ ([] : List Addr) from hb) (by simp), hok := hok, bare := .of_eq hg }
    refine codeAny_mono (F _ hKb (keepNs hns) callerA [] s H ⟨[.ref a], []⟩ [.ref a] [.ref a] _ _ rfl hr e0 (hbi s (.ref a)) (.cons rfl .nil) (hsp H hO hS)) fun r t h => ?_
    match r, h with
    | .error e, h => exact (hCX H e t h).elim
    | .ok .next, h => exact False.elim h
    | .ok .brk, h => exact False.elim h
    | .ok .cont, h => exact False.elim h
    | .ok (.ret u), h =>
      obtain ⟨v, H', os, bare, un, hok', rv, z⟩ := h
      have z' : v = .bl true := z
      subst z'
      obtain rfl : u = Value.bool true := rv
      refine ⟨rfl, OldK.of_keep fun b o e => ?_, os, bare⟩
      rcases hO b with z | ⟨ob, xs, z⟩
      · exact un.keep b o e z (by intro z; exact absurd (show b ∈ ([] : List Addr) from z) (by simp)) (by simp)
      · obtain ⟨e1, _⟩ := hok b _ z
        obtain ⟨e2, _⟩ := hok' b _ (un.frzs b ob _ z)
        rw [e] at e1
        cases e1
        exact e2
  have rv := vals_ints hi
  have lenV := hi.length
  cases hk : K.lookup a with
  | some o =>
    have e := hin a o hk
    rw [ha] at e
    cases e
    refine core (fun _ => none) (fun _ => .inl rfl) (.inr ⟨_, vs.toArray, _, hk, rfl, rfl, rfl, by rw [List.size_toArray, lenV]; exact hl, by simpa using rv⟩) (fun b u z => nomatch (show (none : Option HO) = some u from z)) (fun b z => absurd rfl z) fun z => absurd rfl z
  | none =>
    refine core (fun b => if b = a then some (.frz { cls := .type "list", data := .seq vs.toArray } (.lst (ns.map V.int))) else none) (fun b => ?_) (.inl (.inr ⟨{ cls := .type "list", data := .seq vs.toArray }, if_pos rfl⟩)) (fun b u z => ?_) (fun b z => ?_) fun _ => hk
    · by_cases q : b = a
      · exact .inr ⟨_, _, if_pos q⟩
      · exact .inl (if_neg q)
    · by_cases q : b = a
      · have z' := (if_pos q).symm.trans z
        cases z'
        subst q
        exact ⟨ha, by rw [List.length_map]; exact hl, vs, _, rv, ha⟩
      · have z' := (if_neg q).symm.trans z
        cases z'
    · by_cases q : b = a
      · exact q
      · exact absurd (if_neg q) z
theorem walkR_of {l : PySem.W.OpenLaw} {n k : Nat} {q : Program} {loose : List Str} {XP : (Str → Option Value) → Heap → Prop} {YP : World → Heap → Prop} {d : DefRec} {CX : CXT} {x : Str}
    (hn : l.most = some n) (hn2 : n ≤ sizeLine) (hdf : d.params.defaults = []) (hr : Room k callerA)
    (F : ∀ (w : World) (mg : Str → Option Value) (fa : Addr) (h : Heap), YP w h → h.Ns mainGlobals mg → mg d.name = some (.ref fa) →
      ∃ (K : PySem.W.Frag) (fd : FuncData) (sp : Sp), K.In h ∧ (∀ (s : Shared) (u : Value), BindsTo s fd ⟨[u], []⟩ [(x, u)]) ∧
        (∀ (H : Hp) (a : Addr) (ns : List Int), ns.length ≤ n → L2.Only H → SqL K H a (ns.map V.int) → sp [.ref a] H (fun v _ => v = .bl true) fun _ _ _ => False) ∧
        ∀ base : Heap, K.In base → base.Ns mainGlobals mg → FnR l.prog w K mg base CX k fa fd [x] sp)
    (hCX : ∀ (H : Hp) (s : Shared) (e : Value) (t : Shared), CX [] H s (fun _ _ _ => False) e t → False) :
    PySem.W.WalkO q loose XP YP l.row.toRowW d [] (fun f vs => PySem.call f vs) := by
  refine Att.attach_call hn hdf fun w s₀ s mg mb fa o pm cd doc a vs ns G Y ho hd hcd hmg hobj hints hlen hg => ?_
  obtain ⟨K, fd, sp, hin, hb, hsp, hF⟩ := F w mg fa _ Y G.T.g hmg
  exact lawR_call hin G.T.g G.T.b G.T.builtins G.T.nolimit hg hobj hints (Nat.le_trans hlen hn2) hr hF hb (fun H hO hS => hsp H a ns hlen hO hS) fun H e t => hCX H s e t
theorem FnR_any {P : Program} {w : World} {K : PySem.W.Frag} {mg : Str → Option Value} {base : Heap} {k : Nat} {f : Addr} {fd : FuncData} {ps : List Str} {sp : Sp} (F : FnR P w K mg base (L2N.CX P w) k f fd ps sp) : FnR P w K mg base (CXa P) k f fd ps sp :=
  fun A outer s H args us vs Q E hg hr he hb hv hs => codeAny_mono (F A outer s H args us vs Q E hg hr he hb hv hs) fun r s' h => by
    cases r with
    | error e => exact ⟨w, h⟩
    | ok fl => cases fl <;> exact h
end MP

/-! What the terms compute: loops over lists. -/
namespace MP
open PySem PySem.Spec PyProof.Rows L2

/-- a body's end -/
def endR (r : MP.X) : R D := match r with
  | .nx _ st => .ok .none st
  | .rt x st => .ok x st
  | .err c _ st => .err c st
  | .stuck => .stuck
@[simp] theorem endR_nx (env : MP.Env) (st : Sto) : endR (.nx env st) = .ok .none st := rfl
@[simp] theorem endR_rt (d : D) (st : Sto) : endR (.rt d st) = .ok d st := rfl
@[simp] theorem endR_err (c : Str) (env : MP.Env) (st : Sto) : endR (.err c env st) = .err c st := rfl
theorem run_at {T : Nat → Option Def} {k f : Nat} {d : Def} {args : List D} {st : Sto} (h : T f = some d) (hl : args.length = d.pars.length) :
    run T (k + 1) f args st = endR (exL (run T k) d.body (args.map some ++ List.replicate (d.locs.length - args.length) Option.none) st) := by
  show (match T f with
    | some d => runD (run T k) d args st
    | Option.none => .stuck) = _
  rw [h]
  dsimp only
  unfold runD
  rw [if_pos hl]
  rfl
theorem atI_pos {α : Type} {xs : List α} {i : Int} (h : 0 ≤ i) (h2 : i < xs.length) : atI xs i = xs[i.toNat]? := by
  unfold atI ixN
  rw [if_pos h, if_pos h2]; rfl
theorem atI_neg {α : Type} {xs : List α} {i : Int} (h : i < 0) (h2 : -(xs.length : Int) ≤ i) : atI xs i = xs[(i + xs.length).toNat]? := by
  unfold atI ixN
  rw [if_neg (by omega), if_pos h2]; rfl
/-! ### one step of each form -/
section
variable {cf : CF} {env : MP.Env} {st : Sto}
@[simp] theorem evX_var (i : Nat) : evX cf (.var i) env st = (match env[i]? with
    | some (some d) => .ok (.v d) st
    | _ => .stuck) := by unfold evX <;> rfl
@[simp] theorem evX_lit (d : D) : evX cf (.lit d) env st = .ok (.v d) st := by unfold evX <;> rfl
@[simp] theorem evX_glob (x : Str) (d : D) : evX cf (.glob x d) env st = .ok (.v d) st := by unfold evX <;> rfl
@[simp] theorem evX_bin (o : BOp) (a b : E) : evX cf (.bin o a b) env st = (evX cf a env st).bind fun x st => (evX cf b env st).bind fun y st => binV o x.d y.d st := by rw [evX]
/-- a comparison's end -/
def cmpR (o : COp) (x y : D) (st : Sto) : R Val := match cmpV o st x y with
  | some c => .ok (.v (.bool c)) st
  | Option.none => .stuck
@[simp] theorem evX_cmp (o : COp) (a b : E) : evX cf (.cmp o a b) env st = (evX cf a env st).bind fun x st => (evX cf b env st).bind fun y st => cmpR o x.d y.d st := by rw [evX] <;> rfl
def chainR (c : Option Bool) (r : Sto → R Val) (st : Sto) : R Val := match c with
  | some true => r st
  | some false => .ok (.v (.bool false)) st
  | Option.none => .stuck
@[simp] theorem chainR_b (b : Bool) (r : Sto → R Val) : chainR (some b) r st = if b = true then r st else .ok (.v (.bool false)) st := by cases b <;> rfl
@[simp] theorem evX_chain (o p : COp) (a b c : E) : evX cf (.chain o p a b c) env st = (evX cf a env st).bind fun x st => (evX cf b env st).bind fun y st => chainR (cmpV o st x.d y.d) (fun st => (evX cf c env st).bind fun z st => cmpR p y.d z.d st) st := by rw [evX] <;> rfl
def landR (x : Val) (r : Sto → R Val) (st : Sto) : R Val := match x with
  | .v (.bool true) => r st
  | .v (.bool false) => .ok (.v (.bool false)) st
  | _ => .stuck
def lorR (b : E) (x : Val) (r : Sto → R Val) (st : Sto) : R Val := match x with
  | .v (.bool false) => r st
  | .v (.bool true) => .ok (.v (.bool true)) st
  | .v d => orV b d st
  | _ => .stuck
def notR (x : Val) (st : Sto) : R Val := match x with
  | .v (.bool c) => .ok (.v (.bool (!c))) st
  | _ => .stuck
def iteR (x : Val) (r s : Sto → R Val) (st : Sto) : R Val := match x with
  | .v (.bool true) => r st
  | .v (.bool false) => s st
  | _ => .stuck
@[simp] theorem landR_b (b : Bool) (r : Sto → R Val) : landR (.v (.bool b)) r st = if b = true then r st else .ok (.v (.bool false)) st := by cases b <;> rfl
@[simp] theorem lorR_b (e : E) (b : Bool) (r : Sto → R Val) : lorR e (.v (.bool b)) r st = if b = true then .ok (.v (.bool true)) st else r st := by cases b <;> rfl
@[simp] theorem notR_b (b : Bool) : notR (.v (.bool b)) st = .ok (.v (.bool (!b))) st := rfl
@[simp] theorem iteR_b (b : Bool) (r s : Sto → R Val) : iteR (.v (.bool b)) r s st = if b = true then r st else s st := by cases b <;> rfl
@[simp] theorem evX_land (a b : E) : evX cf (.land a b) env st = (evX cf a env st).bind fun x st => landR x (fun st => evX cf b env st) st := by rw [evX] <;> rfl
@[simp] theorem evX_lor (a b : E) : evX cf (.lor a b) env st = (evX cf a env st).bind fun x st => lorR b x (fun st => evX cf b env st) st := by rw [evX] <;> rfl
@[simp] theorem evX_lnot (a : E) : evX cf (.lnot a) env st = (evX cf a env st).bind fun x st => notR x st := by rw [evX] <;> rfl
@[simp] theorem evX_ite (c a b : E) : evX cf (.ite c a b) env st = (evX cf c env st).bind fun x st => iteR x (fun st => evX cf a env st) (fun st => evX cf b env st) st := by rw [evX] <;> rfl
@[simp] theorem evX_tup (es : Es) : evX cf (.tup es) env st = (evXs cf es env st).bind fun ds st => if ds.length ≤ sizeLine then .ok (.v (.tup ds)) st else .stuck := by rw [evX]
@[simp] theorem evX_list (es : Es) : evX cf (.list es) env st = (evXs cf es env st).bind fun ds st => if ds.length ≤ sizeLine then .ok (.new ds) st else .stuck := by rw [evX]
def ixR (x y : D) (st : Sto) : R Val := match ixV st x y with
  | some d => .ok (.v d) st
  | Option.none => .stuck
@[simp] theorem evX_ix (a b : E) : evX cf (.ix a b) env st = (evX cf a env st).bind fun x st => (evX cf b env st).bind fun y st => ixR x.d y.d st := by rw [evX] <;> rfl
@[simp] theorem evX_sl (a lo hi : E) : evX cf (.sl a lo hi) env st = (evX cf a env st).bind fun x st => (evX cf lo env st).bind fun l st => (match partOf lo l.d with
    | some l => (evX cf hi env st).bind fun u st => (match partOf hi u.d with
      | some u => slV x.d l u st
      | Option.none => .stuck)
    | Option.none => .stuck) := by rw [evX] <;> rfl
@[simp] theorem evX_call (f : Nat) (es : Es) : evX cf (.call f es) env st = (evXs cf es env st).bind fun ds st => callP cf f ds st := by rw [evX]
@[simp] theorem evX_callC (f : Nat) (es : Es) : evX cf (.callC f es) env st = (evXs cf es env st).bind fun ds st => callC cf f ds st := by rw [evX]
@[simp] theorem evX_callS (f : Nat) (es : Es) : evX cf (.callS f es) env st = (evXs cf es env st).bind fun ds st => callS cf f ds st := by rw [evX]
@[simp] theorem evX_bi (f : BI) (es : Es) : evX cf (.bi f es) env st = (evXs cf es env st).bind fun ds st => biV f ds st := by rw [evX]
@[simp] theorem evX_mt (m : MT) (o : E) (es : Es) : evX cf (.mt m o es) env st = (evX cf o env st).bind fun x st => if mtIs m x.d st then (evXs cf es env st).bind fun ds st => mtV m x.d ds st else .stuck := by rw [evX]
/-- a turn of a comprehension -/
def turnC (cf : CF) (elt : E) (tg : Tg) (cond : E) (env : MP.Env) (d : D) (st : Sto) : R (Option D) := match bindT env tg d with
  | some env' => (evX cf cond env' st).bind fun c st => (match c with
    | .v (.bool true) => (evX cf elt env' st).bind fun y st => .ok (some y.d) st
    | .v (.bool false) => .ok Option.none st
    | _ => .stuck)
  | Option.none => .stuck
def compR (ok : Sto → Bool) (f : D → Sto → R (Option D)) (ds : List D) (st : Sto) : R Val := if !ok st then .stuck else match loopC ok f ds st with
  | .ok ys st => if ys.length ≤ sizeLine then .ok (.new ys) st else .stuck
  | _ => .stuck
@[simp] theorem evX_comp (elt : E) (tg : Tg) (it : It) (cond : E) (own : List Nat) : evX cf (.comp elt tg it cond own) env st = (evI cf it env st).bind fun p st => compR (stands p.1 p.2) (turnC cf elt tg cond (wipeE env own)) p.2 st := by rw [evX] <;> rfl
def cellR (x : Val) (st : Sto) : R Val := match x with
  | .new ds => .ok (.v (.ref st.length)) (st ++ [.lst ds])
  | _ => .stuck
@[simp] theorem cellR_new (ds : List D) : cellR (.new ds) st = .ok (.v (.ref st.length)) (st ++ [.lst ds]) := rfl
@[simp] theorem evX_cell (e : E) : evX cf (.cell e) env st = (evX cf e env st).bind fun x st => cellR x st := by rw [evX] <;> rfl
@[simp] theorem evXs_nil : evXs cf .nil env st = .ok [] st := by unfold evXs <;> rfl
@[simp] theorem evXs_cons (e : E) (es : Es) : evXs cf (.cons e es) env st = (evX cf e env st).bind fun x st => (evXs cf es env st).bind fun xs st => .ok (x.d :: xs) st := by rw [evXs]
def itR (d : D) (st : Sto) : R (D × List D) := match items st d with
  | some ds => .ok (d, ds) st
  | Option.none => .stuck
@[simp] theorem evI_seq (e : E) : evI cf (.seq e) env st = (evX cf e env st).bind fun x st => itR x.d st := by rw [evI] <;> rfl
@[simp] theorem evI_range1 (a : E) : evI cf (.range1 a) env st = (evX cf a env st).bind fun x st => (match x with
    | .v (.int n) => if n ≤ sizeLine ∧ -(2 ^ 62) ≤ n then .ok (.none, (rangeI 0 n.toNat).map D.int) st else .stuck
    | _ => .stuck) := by rw [evI] <;> rfl
@[simp] theorem evI_range2 (a b : E) : evI cf (.range2 a b) env st = (evX cf a env st).bind fun x st => (evX cf b env st).bind fun y st => (match x, y with
    | .v (.int i), .v (.int j) => if j - i ≤ sizeLine ∧ -(2 ^ 62) ≤ i ∧ i < 2 ^ 62 ∧ -(2 ^ 62) ≤ j ∧ j < 2 ^ 62 then .ok (.none, (rangeI i (j - i).toNat).map D.int) st else .stuck
    | _, _ => .stuck) := by rw [evI] <;> rfl
@[simp] theorem evE_eq (e : E) : evE cf e env st = (evX cf e env st).bind fun x st => .ok x.d st := rfl
/-! statements -/
@[simp] theorem exS_set (i : Nat) (e : E) : exS cf (.set i e) env st = (evE cf e env st).toX env fun d st => .nx (env.set i (some d)) st := by rw [exS]
def unR (is : List Nat) (env : MP.Env) (d : D) (st : Sto) : MP.X := match bindT env (.many is) d with
  | some env' => .nx env' st
  | Option.none => .stuck
@[simp] theorem exS_unpack (is : List Nat) (e : E) : exS cf (.unpack is e) env st = (evE cf e env st).toX env fun d st => unR is env d st := by rw [exS] <;> rfl
@[simp] theorem exS_par2 (i j : Nat) (a b : E) : exS cf (.par2 i j a b) env st = (evE cf a env st).toX env fun x st => (evE cf b env st).toX env fun y st => .nx ((env.set i (some x)).set j (some y)) st := by rw [exS]
@[simp] theorem exS_par3 (i j k : Nat) (a b c : E) : exS cf (.par3 i j k a b c) env st = (evE cf a env st).toX env fun x st => (evE cf b env st).toX env fun y st => (evE cf c env st).toX env fun z st => .nx (((env.set i (some x)).set j (some y)).set k (some z)) st := by rw [exS]
def putR (env : MP.Env) (x y z : D) (st : Sto) : MP.X := match putV x y z st with
  | some st' => .nx env st'
  | Option.none => .stuck
@[simp] theorem exS_put (o i v : E) : exS cf (.put o i v) env st = (evE cf v env st).toX env fun z st => (evE cf o env st).toX env fun x st => (evE cf i env st).toX env fun y st => putR env x y z st := by rw [exS] <;> rfl
def dputR (tk : Bool) (env : MP.Env) (x y z : D) (st : Sto) : MP.X := match dputV tk x y z st with
  | some st' => .nx env st'
  | Option.none => .stuck
@[simp] theorem exS_dput (o i v : E) : exS cf (.dput o i v) env st = (evE cf v env st).toX env fun z st => (evE cf o env st).toX env fun x st => (evE cf i env st).toX env fun y st => dputR (isTupE i) env x y z st := by rw [exS] <;> rfl
@[simp] theorem evX_dnew (t : Bool) : evX cf (.dnew t) env st = if t = false then .ok (.v (.ref st.length)) (st ++ [.dk [] []]) else .ok (.v (.ref st.length)) (st ++ [.dt [] []]) := by unfold evX <;> rfl
@[simp] theorem exS_expr (e : E) : exS cf (.expr e) env st = (evE cf e env st).toX env fun _ st => .nx env st := by rw [exS]
@[simp] theorem exS_ret (e : E) : exS cf (.ret e) env st = (evE cf e env st).toX env fun d st => .rt d st := by rw [exS]
@[simp] theorem exS_retN : exS cf .retN env st = .rt .none st := by unfold exS <;> rfl
@[simp] theorem exS_raise (c : Str) : exS cf (.raise c) env st = .err c env st := by unfold exS <;> rfl
def ifR (d : D) (a b : Sto → MP.X) (st : Sto) : MP.X := match d with
  | .bool true => a st
  | .bool false => b st
  | _ => .stuck
@[simp] theorem ifR_b (c : Bool) (a b : Sto → MP.X) : ifR (.bool c) a b st = if c = true then a st else b st := by cases c <;> rfl
@[simp] theorem exS_ife (c : E) (a b : List S) : exS cf (.ife c a b) env st = (evE cf c env st).toX env fun d st => ifR d (fun st => exL cf a env st) (fun st => exL cf b env st) st := by rw [exS] <;> rfl
/-- a turn of a loop -/
noncomputable def turnF (cf : CF) (tg : Tg) (body : List S) (d : D) (env : MP.Env) (st : Sto) : MP.X := match bindT env tg d with
  | some env' => exL cf body env' st
  | Option.none => .stuck
def forR (ok : Sto → Bool) (trim : Bool) (n : Nat) (tmp : List Nat) (body : D → MP.Env → Sto → MP.X) (ds : List D) (env : MP.Env) (st : Sto) : MP.X := if !ok st then .stuck else loopF ok trim n tmp body ds env st
@[simp] theorem exS_for (tg : Tg) (it : It) (body : List S) (tmp : List Nat) (trim : Bool) : exS cf (.for_ tg it body tmp trim) env st = (evI cf it env st).toX env fun p st => forR (stands p.1 p.2) trim st.length tmp (turnF cf tg body) p.2 env st := by rw [exS] <;> rfl
def sqX (r : MP.X) (f : MP.Env → Sto → MP.X) : MP.X := match r with
  | .nx env st => f env st
  | x => x
@[simp] theorem sqX_nx (f : MP.Env → Sto → MP.X) : sqX (.nx env st) f = f env st := rfl
@[simp] theorem sqX_rt (d : D) (f : MP.Env → Sto → MP.X) : sqX (.rt d st) f = .rt d st := rfl
@[simp] theorem sqX_err (c : Str) (f : MP.Env → Sto → MP.X) : sqX (.err c env st) f = .err c env st := rfl
@[simp] theorem exL_nil : exL cf [] env st = .nx env st := by unfold exL <;> rfl
@[simp] theorem exL_cons (s : S) (ss : List S) : exL cf (s :: ss) env st = sqX (exS cf s env st) fun env st => exL cf ss env st := by
  rw [exL]
  unfold sqX
  rfl
end
/-! ### operations on known values -/
section
variable {st : Sto}
@[simp] theorem add_ii (i j : Int) : binV .add (.int i) (.int j) st = .ok (.v (.int (i + j))) st := rfl
@[simp] theorem sub_ii (i j : Int) : binV .sub (.int i) (.int j) st = .ok (.v (.int (i - j))) st := rfl
@[simp] theorem mul_ii (i j : Int) : binV .mul (.int i) (.int j) st = if L2.CMul i j then .ok (.v (.int (i * j))) st else .stuck := rfl
@[simp] theorem fdiv_ii (i j : Int) : binV .fdiv (.int i) (.int j) st = if L2.CDivN i j then .ok (.v (.int (i.fdiv j))) st else .stuck := rfl
@[simp] theorem mod_ii (i j : Int) : binV .mod (.int i) (.int j) st = if j ≠ 0 then .ok (.v (.int (i.fmod j))) st else .stuck := rfl
@[simp] theorem pow_ii (i j : Int) : binV .pow (.int i) (.int j) st = if L2.CPow i j then .ok (.v (.int (i ^ j.toNat))) st else .stuck := rfl
@[simp] theorem lt_ii (i j : Int) : cmpV .lt st (.int i) (.int j) = some (decide (i < j)) := rfl
@[simp] theorem le_ii (i j : Int) : cmpV .le st (.int i) (.int j) = some (decide (i ≤ j)) := rfl
@[simp] theorem gt_ii (i j : Int) : cmpV .gt st (.int i) (.int j) = some (decide (j < i)) := rfl
@[simp] theorem ge_ii (i j : Int) : cmpV .ge st (.int i) (.int j) = some (decide (j ≤ i)) := rfl
@[simp] theorem ge_ss (i j : Str) : cmpV .ge st (.str i) (.str j) = some (!decide (i.cps.toList < j.cps.toList)) := rfl
@[simp] theorem lt_ss (i j : Str) : cmpV .lt st (.str i) (.str j) = some (decide (i.cps.toList < j.cps.toList)) := rfl
@[simp] theorem in_ss (i j : Str) : cmpV .isin st (.str i) (.str j) = some (strIn i j) := rfl
@[simp] theorem frz_int (i : Int) : frz st (.int i) = some (.int i) := rfl
@[simp] theorem frz_str (i : Str) : frz st (.str i) = some (.str i) := rfl
@[simp] theorem frz_bool (i : Bool) : frz st (.bool i) = some (.bool i) := rfl
@[simp] theorem frz_none : frz st .none = some .none := rfl
theorem frz_of {d : D} (h : d.noref = true) : frz st d = some d := D.noref_map h
theorem frzs_of {ds : List D} (h : norefs ds = true) : frzs st ds = some ds := norefs_map h
@[simp] theorem shp_int (i : Int) : (D.int i).shp = true := rfl
theorem shp_str (i : Str) (h : i.cps.all (· < 0x110000) = true) : (D.str i).shp = true := by
  show (PyData.canLay0 (.str i) && decide (PyData.depth (.str i) ≤ 64)) = true
  simp only [PyData.canLay0, PyData.depth]
  simpa [PyData.strOk] using h
@[simp] theorem shp_bool (i : Bool) : (D.bool i).shp = true := rfl
@[simp] theorem shp_none : D.none.shp = true := rfl
@[simp] theorem eq_ii (i j : Int) : eqD (.int i) (.int j) = decide (i = j) := by
  show PyData.eqv (.int i) (.int j) = _
  simp only [PyData.eqv]
  rfl
end
theorem loopC_map {α : Type} {ok : Sto → Bool} {f : D → Sto → R (Option D)} {enc : α → D} {r : α → Option D} {st : Sto} (hok : ok st = true) : ∀ {xs : List α}, (∀ x ∈ xs, f (enc x) st = .ok (r x) st) → loopC ok f (xs.map enc) st = .ok (xs.filterMap r) st
  | [], _ => rfl
  | x :: xs, h => by
    rw [List.map_cons]
    unfold loopC
    rw [h x List.mem_cons_self]
    dsimp only
    rw [if_pos hok, loopC_map hok fun y hy => h y (List.mem_cons_of_mem _ hy)]
    cases e : r x with
    | none => simp [e]
    | some y => simp [e]
/-- a loop that may end by a return; else all is as it was -/
theorem loopF_find {α : Type} {ok : Sto → Bool} {trim : Bool} {n : Nat} {tmp : List Nat} {body : D → MP.Env → Sto → MP.X} {enc : α → D} {env : MP.Env} {st : Sto} {r : α → Option D} (hok : ok st = true) :
    ∀ {xs : List α}, (∀ x ∈ xs, match r x with
      | some d => body (enc x) env st = .rt d st
      | Option.none => ∃ env', body (enc x) env st = .nx env' st ∧ fin trim n tmp env' st = some (env, st)) →
    loopF ok trim n tmp body (xs.map enc) env st = (match xs.findSome? r with
      | some d => .rt d st
      | Option.none => .nx env st)
  | [], _ => rfl
  | x :: xs, h => by
    rw [List.map_cons]
    unfold loopF
    have h1 := h x List.mem_cons_self
    rw [List.findSome?_cons]
    cases e : r x with
    | some d =>
      rw [e] at h1
      dsimp only at h1
      rw [h1]
    | none =>
      rw [e] at h1
      obtain ⟨env', h1, h2⟩ := h1
      rw [h1]
      dsimp only
      rw [h2]
      dsimp only
      rw [if_pos hok]
      exact loopF_find hok fun y hy => h y (List.mem_cons_of_mem _ hy)
/-- .. by the same value each time -/
theorem loopF_all {α : Type} {ok : Sto → Bool} {trim : Bool} {n : Nat} {tmp : List Nat} {body : D → MP.Env → Sto → MP.X} {enc : α → D} {env : MP.Env} {st : Sto} (p : α → Bool) (d : D) (hok : ok st = true) :
    ∀ {xs : List α}, (∀ x ∈ xs, (p x = false → body (enc x) env st = .rt d st) ∧ (p x = true → ∃ env', body (enc x) env st = .nx env' st ∧ fin trim n tmp env' st = some (env, st))) →
    loopF ok trim n tmp body (xs.map enc) env st = if xs.all p = true then .nx env st else .rt d st
  | [], _ => rfl
  | x :: xs, h => by
    rw [List.map_cons]
    unfold loopF
    obtain ⟨h1, h2⟩ := h x List.mem_cons_self
    rw [List.all_cons]
    cases e : p x with
    | false => rw [h1 e]; rfl
    | true =>
      obtain ⟨env', h3, h4⟩ := h2 e
      rw [h3]
      dsimp only
      rw [h4]
      dsimp only
      rw [if_pos hok, Bool.true_and]
      exact loopF_all p d hok fun y hy => h y (List.mem_cons_of_mem _ hy)
/-- a loop with a state that is some state each time -/
theorem loopF_ex {α β : Type} {ok : Sto → Bool} {trim : Bool} {n : Nat} {tmp : List Nat} {body : D → MP.Env → Sto → MP.X} {enc : α → D} (I : Nat → β → Prop) (envOf : β → MP.Env) (stOf : β → Sto) (hok : ∀ s, ok (stOf s) = true) :
    ∀ {xs : List α} {j : Nat} {s : β}, I j s → (∀ i x s, xs[i]? = some x → I (j + i) s → ∃ s' env' st', I (j + i + 1) s' ∧ body (enc x) (envOf s) (stOf s) = .nx env' st' ∧ fin trim n tmp env' st' = some (envOf s', stOf s')) →
    ∃ s', loopF ok trim n tmp body (xs.map enc) (envOf s) (stOf s) = .nx (envOf s') (stOf s') ∧ I (j + xs.length) s'
  | [], j, s, i, _ => ⟨s, rfl, i⟩
  | x :: xs, j, s, i, h => by
    obtain ⟨s', env', st', i', h1, h2⟩ := h 0 x s rfl i
    obtain ⟨s2, e2, i2⟩ := loopF_ex I envOf stOf hok (xs := xs) (j := j + 1) (s := s') i' fun i y s hy hi => by
      obtain ⟨s', env', st', a, b, c⟩ := h (i + 1) y s (by simpa using hy) (by rw [show j + (i + 1) = j + 1 + i by omega]; exact hi)
      exact ⟨s', env', st', by rw [show j + 1 + i + 1 = j + (i + 1) + 1 by omega]; exact a, b, c⟩
    refine ⟨s2, ?_, by rw [List.length_cons, show j + (xs.length + 1) = j + 1 + xs.length by omega]; exact i2⟩
    rw [List.map_cons]
    unfold loopF
    rw [h1]
    dsimp only
    rw [h2]
    dsimp only
    rw [if_pos (hok _)]
    exact e2
/-- a loop with a state -/
theorem loopF_fold {α β : Type} {ok : Sto → Bool} {trim : Bool} {n : Nat} {tmp : List Nat} {body : D → MP.Env → Sto → MP.X} {enc : α → D} (I : β → Prop) (envOf : β → MP.Env) (stOf : β → Sto) (g : β → α → β) (hok : ∀ s, ok (stOf s) = true) :
    ∀ {xs : List α} {s : β}, I s → (∀ x ∈ xs, ∀ s, I s → I (g s x) ∧ ∃ env' st', body (enc x) (envOf s) (stOf s) = .nx env' st' ∧ fin trim n tmp env' st' = some (envOf (g s x), stOf (g s x))) →
    loopF ok trim n tmp body (xs.map enc) (envOf s) (stOf s) = .nx (envOf (xs.foldl g s)) (stOf (xs.foldl g s)) ∧ I (xs.foldl g s)
  | [], s, i, _ => ⟨rfl, i⟩
  | x :: xs, s, i, h => by
    rw [List.map_cons]
    unfold loopF
    obtain ⟨i', env', st', h1, h2⟩ := h x List.mem_cons_self s i
    rw [h1]
    dsimp only
    rw [h2]
    dsimp only
    rw [if_pos (hok _)]
    exact loopF_fold I envOf stOf g hok i' fun y hy => h y (List.mem_cons_of_mem _ hy)
/-! ### typed lists -/
def eL {α : Type} (f : α → D) (l : List α) : D := .list (l.map f)
section
variable {α : Type} {f : α → D} {l m : List α} {st : Sto}
@[simp] theorem eL_fold : D.list (l.map f) = eL f l := rfl
@[simp] theorem listOf_eL : listOf st (eL f l) = some (l.map f) := rfl
@[simp] theorem seqOf_eL : seqOf st (eL f l) = some (l.map f) := rfl
@[simp] theorem items_eL : items st (eL f l) = some (l.map f) := rfl
@[simp] theorem stands_eL (ds : List D) : stands (eL f l) ds st = true := rfl
@[simp] theorem stands_none (ds : List D) : stands .none ds st = true := rfl
@[simp] theorem len_eL : lenV (eL f l) st = .ok (.v (.int l.length)) st := by
  show (match seqOf st (eL f l) with
    | some xs => R.ok (Val.v (D.int xs.length)) st
    | Option.none => R.stuck) = _
  rw [seqOf_eL]
  simp
@[simp] theorem len_scr (ns : List Int) : lenV (.scr ns) st = .ok (.v (.int ns.length)) st := by
  show R.ok (Val.v (D.int (ns.map D.int).length)) st = _
  simp
theorem len_str {z : Str} (h : z.length ≤ sizeLine) : lenV (.str z) st = .ok (.v (.int z.length)) st := by
  show (if z.length ≤ sizeLine then R.ok (Val.v (D.int z.length)) st else R.stuck) = _
  rw [if_pos h]
@[simp] theorem bi_len (d : D) : biV .len [d] st = lenV d st := rfl
theorem ix_eL {i : Int} {x : α} (h : atI l i = some x) : ixR (eL f l) (.int i) st = .ok (.v (f x)) st := by
  have e : ixV st (eL f l) (.int i) = some (f x) := by
    show atI (l.map f) i = some (f x)
    unfold atI at h ⊢
    rw [List.length_map]
    cases q : ixN l.length i with
    | none => rw [q] at h; cases h
    | some j =>
      rw [q] at h
      show (l.map f)[j]? = some (f x)
      have h' : l[j]? = some x := h
      rw [List.getElem?_map, h']; rfl
  unfold ixR
  rw [e]
theorem ix_scr {ns : List Int} {i : Int} {x : Int} (h : atI ns i = some x) : ixR (.scr ns) (.int i) st = .ok (.v (.int x)) st := by
  have e : ixV st (.scr ns) (.int i) = some (.int x) := by
    show atI (ns.map D.int) i = some (.int x)
    unfold atI at h ⊢
    rw [List.length_map]
    cases q : ixN ns.length i with
    | none => rw [q] at h; cases h
    | some j =>
      rw [q] at h
      show (ns.map D.int)[j]? = some (.int x)
      have h' : ns[j]? = some x := h
      rw [List.getElem?_map, h']; rfl
  unfold ixR
  rw [e]
theorem norefs_map_of (h : ∀ x ∈ l, (f x).noref = true) : norefs (l.map f) = true := by
  induction l with
  | nil => rfl
  | cons a r ih =>
    show ((f a).noref && norefs (r.map f)) = true
    rw [h a List.mem_cons_self, ih fun x hx => h x (List.mem_cons_of_mem _ hx)]; rfl
theorem noref_eL (h : ∀ x ∈ l, (f x).noref = true) : (eL f l).noref = true := norefs_map_of h
theorem canLays (h : ∀ x ∈ l, (f x).py.canLay0 = true) : PyData.canLayAll0 (pys (l.map f)) = true := by
  induction l with
  | nil => rfl
  | cons a r ih =>
    show ((f a).py.canLay0 && PyData.canLayAll0 (pys (r.map f))) = true
    rw [h a List.mem_cons_self, ih fun x hx => h x (List.mem_cons_of_mem _ hx)]; rfl
theorem depths {n : Nat} (h : ∀ x ∈ l, (f x).py.depth ≤ n) : PyData.depthAll (pys (l.map f)) ≤ n := by
  induction l with
  | nil => exact Nat.zero_le _
  | cons a r ih =>
    show max (f a).py.depth (PyData.depthAll (pys (r.map f))) ≤ n
    have h1 := h a List.mem_cons_self
    have h2 := ih fun x hx => h x (List.mem_cons_of_mem _ hx)
    omega
theorem eqs_map [DecidableEq α] (h : ∀ x ∈ l, ∀ y ∈ m, eqD (f x) (f y) = decide (x = y)) : PyData.eqvAll (pys (l.map f)) (pys (m.map f)) = decide (l = m) := by
  induction l generalizing m with
  | nil =>
    cases m with
    | nil => simp [pys, PyData.eqvAll]
    | cons b r => simp [pys, PyData.eqvAll]
  | cons a r ih =>
    cases m with
    | nil => simp [pys, PyData.eqvAll]
    | cons b s =>
      have e := h a List.mem_cons_self b List.mem_cons_self
      have e2 := ih (m := s) fun x hx y hy => h x (List.mem_cons_of_mem _ hx) y (List.mem_cons_of_mem _ hy)
      unfold eqD at e
      simp only [List.map_cons, pys, PyData.eqvAll, e, e2]
      by_cases q : a = b <;> by_cases q2 : r = s <;> simp [q, q2]
end
/-- what may be compared: no cells, strs in order, not deep -/
structure Cmp (d : D) (n : Nat) : Prop where
  nr : d.noref = true
  lay : d.py.canLay0 = true
  dep : d.py.depth ≤ n
theorem Cmp.shp {d : D} {n : Nat} (h : Cmp d n) (hn : n ≤ 64) : d.shp = true := by
  show (d.py.canLay0 && decide (d.py.depth ≤ 64)) = true
  rw [h.lay]
  simpa using Nat.le_trans h.dep hn
theorem cmp_int (i : Int) : Cmp (.int i) 0 := ⟨rfl, rfl, Nat.le_refl _⟩
theorem cmp_bool (i : Bool) : Cmp (.bool i) 0 := ⟨rfl, rfl, Nat.le_refl _⟩
theorem cmp_none : Cmp .none 0 := ⟨rfl, rfl, Nat.le_refl _⟩
def sOk (x : Str) : Prop := x.cps.all (· < 0x110000) = true
theorem cmp_str {x : Str} (h : sOk x) : Cmp (.str x) 0 := ⟨rfl, by simpa [D.py, PyData.canLay0, PyData.strOk] using (show x.cps.all (· < 0x110000) = true from h), by simp [D.py, PyData.depth]⟩
theorem cmp_eL {α : Type} {f : α → D} {l : List α} {n : Nat} (h : ∀ x ∈ l, Cmp (f x) n) : Cmp (eL f l) (n + 1) :=
  ⟨noref_eL fun x hx => (h x hx).nr, by
    show PyData.canLay0 (.list (pys (l.map f))) = true
    simp only [PyData.canLay0]
    exact canLays fun x hx => (h x hx).lay, by
    show PyData.depth (.list (pys (l.map f))) ≤ n + 1
    simp only [PyData.depth]
    have := depths (f := f) (l := l) fun x hx => (h x hx).dep
    omega⟩
theorem cmp_eq {a b : D} {n m : Nat} {st : Sto} (ha : Cmp a n) (hb : Cmp b m) (hn : n ≤ 64) (hm : m ≤ 64) : cmpR .eq a b st = .ok (.v (.bool (eqD a b))) st := by
  unfold cmpR cmpV
  simp only [frz_of ha.nr, frz_of hb.nr, ha.shp hn, hb.shp hm, Bool.and_self, if_true]
theorem cmp_ne {a b : D} {n m : Nat} {st : Sto} (ha : Cmp a n) (hb : Cmp b m) (hn : n ≤ 64) (hm : m ≤ 64) : cmpR .ne a b st = .ok (.v (.bool (!eqD a b))) st := by
  unfold cmpR cmpV
  simp only [frz_of ha.nr, frz_of hb.nr, ha.shp hn, hb.shp hm, Bool.and_self, if_true]
@[simp] theorem cmp_eq_ii (i j : Int) (st : Sto) : cmpR .eq (.int i) (.int j) st = .ok (.v (.bool (decide (i = j)))) st := by
  rw [cmp_eq (cmp_int i) (cmp_int j) (by decide) (by decide), eq_ii]
@[simp] theorem cmp_ne_ii (i j : Int) (st : Sto) : cmpR .ne (.int i) (.int j) st = .ok (.v (.bool (!decide (i = j)))) st := by
  rw [cmp_ne (cmp_int i) (cmp_int j) (by decide) (by decide), eq_ii]
theorem eq_str (a b : Str) : eqD (.str a) (.str b) = decide (a = b) := by
  show PyData.eqv (.str a) (.str b) = _
  simp only [PyData.eqv]
  rfl
theorem eq_eL {α : Type} [DecidableEq α] {f : α → D} {l m : List α} (h : ∀ x ∈ l, ∀ y ∈ m, eqD (f x) (f y) = decide (x = y)) : eqD (eL f l) (eL f m) = decide (l = m) := by
  show PyData.eqv (.list (pys (l.map f))) (.list (pys (m.map f))) = _
  simp only [PyData.eqv]
  exact eqs_map h
theorem eq_int (a b : Int) : eqD (.int a) (.int b) = decide (a = b) := eq_ii a b
def ltS (a b : Str) : Bool := decide (a.cps.toList < b.cps.toList)
section
variable {st : Sto}
@[simp] theorem r_lt_ii (i j : Int) : cmpR .lt (.int i) (.int j) st = .ok (.v (.bool (decide (i < j)))) st := rfl
@[simp] theorem r_le_ii (i j : Int) : cmpR .le (.int i) (.int j) st = .ok (.v (.bool (decide (i ≤ j)))) st := rfl
@[simp] theorem r_gt_ii (i j : Int) : cmpR .gt (.int i) (.int j) st = .ok (.v (.bool (decide (j < i)))) st := rfl
@[simp] theorem r_ge_ii (i j : Int) : cmpR .ge (.int i) (.int j) st = .ok (.v (.bool (decide (j ≤ i)))) st := rfl
@[simp] theorem r_in_ss (i j : Str) : cmpR .isin (.str i) (.str j) st = .ok (.v (.bool (strIn i j))) st := rfl
@[simp] theorem r_ge_ss (i j : Str) : cmpR .ge (.str i) (.str j) st = .ok (.v (.bool (!ltS i j))) st := rfl
@[simp] theorem r_lt_ss (i j : Str) : cmpR .lt (.str i) (.str j) st = .ok (.v (.bool (ltS i j))) st := rfl
@[simp] theorem noref_int (i : Int) : (D.int i).noref = true := rfl
@[simp] theorem noref_str (i : Str) : (D.str i).noref = true := rfl
@[simp] theorem noref_bool (i : Bool) : (D.bool i).noref = true := rfl
@[simp] theorem noref_none : D.none.noref = true := rfl
@[simp] theorem noref_scr (i : List Int) : (D.scr i).noref = true := rfl
@[simp] theorem noref_eI (l : List Int) : (eL D.int l).noref = true := noref_eL fun _ _ => rfl
@[simp] theorem noref_eS (l : List Str) : (eL D.str l).noref = true := noref_eL fun _ _ => rfl
@[simp] theorem noref_eB (l : List Bool) : (eL D.bool l).noref = true := noref_eL fun _ _ => rfl
@[simp] theorem noref_eII (l : List (List Int)) : (eL (eL D.int) l).noref = true := noref_eL fun _ _ => noref_eI _
@[simp] theorem noref_eSS (l : List (List Str)) : (eL (eL D.str) l).noref = true := noref_eL fun _ _ => noref_eS _
@[simp] theorem norefs_nil : norefs [] = true := rfl
@[simp] theorem norefs_cons (d : D) (ds : List D) : norefs (d :: ds) = (d.noref && norefs ds) := rfl
@[simp] theorem noref_list (ds : List D) : (D.list ds).noref = norefs ds := rfl
@[simp] theorem noref_tup (ds : List D) : (D.tup ds).noref = norefs ds := rfl
@[simp] theorem eL_comp {α β : Type} (f : β → D) (g : α → β) (l : List α) : eL (f ∘ g) l = eL f (l.map g) := by
  unfold eL
  rw [List.map_map]
end
@[simp] theorem ite_okb {c : Prop} [Decidable c] (x y : Bool) (st : Sto) : (if c then R.ok (Val.v (D.bool x)) st else R.ok (Val.v (D.bool y)) st) = R.ok (Val.v (D.bool (if c then x else y))) st := by split <;> rfl
theorem bind_ite {α β : Type} {c : Prop} [Decidable c] (a b : R α) (f : α → Sto → R β) : (if c then a else b).bind f = if c then a.bind f else b.bind f := by split <;> rfl
def allB (bs : List Bool) : Bool := bs.all id
def anyB (bs : List Bool) : Bool := bs.any id
def allP {α : Type} (p : α → Bool) (l : List α) : Bool := l.all p
def anyP {α : Type} (p : α → Bool) (l : List α) : Bool := l.any p
@[simp] theorem allB_map {α : Type} (p : α → Bool) (l : List α) : allB (l.map p) = allP p l := by
  unfold allB allP; rw [List.all_map]; rfl
@[simp] theorem anyB_map {α : Type} (p : α → Bool) (l : List α) : anyB (l.map p) = anyP p l := by
  unfold anyB anyP; rw [List.any_map]; rfl
/-! ### comprehensions, calls -/
section
variable {α β : Type} {ok : Sto → Bool} {f : D → Sto → R (Option D)} {enc : α → D} {e2 : β → D} {st : Sto} {xs : List α}
theorem compR_each (g : α → β) (hok : ok st = true) (hl : xs.length ≤ sizeLine) (h : ∀ x ∈ xs, f (enc x) st = .ok (some (e2 (g x))) st) : compR ok f (xs.map enc) st = .ok (.new ((xs.map g).map e2)) st := by
  unfold compR
  rw [hok, loopC_map (r := fun x => some (e2 (g x))) hok h]
  have e : xs.filterMap (fun x => some (e2 (g x))) = (xs.map g).map e2 := by
    clear hl h
    induction xs with
    | nil => rfl
    | cons x r ih => simp [ih]
  rw [e]
  simp [hl]
theorem compR_filter (p : α → Bool) (g : α → β) (hok : ok st = true) (hl : xs.length ≤ sizeLine) (h : ∀ x ∈ xs, f (enc x) st = .ok (if p x = true then some (e2 (g x)) else Option.none) st) : compR ok f (xs.map enc) st = .ok (.new (((xs.filter p).map g).map e2)) st := by
  unfold compR
  rw [hok, loopC_map (r := fun x => if p x = true then some (e2 (g x)) else Option.none) hok h]
  have e : xs.filterMap (fun x => if p x = true then some (e2 (g x)) else Option.none) = ((xs.filter p).map g).map e2 := by
    clear h hl
    induction xs with
    | nil => rfl
    | cons x r ih =>
      rw [List.filterMap_cons, List.filter_cons]
      by_cases q : p x = true
      · simp [q, ih]
      · simp [q, ih]
  rw [e]
  have h2 : (((xs.filter p).map g).map e2).length ≤ sizeLine := by
    have := List.length_filter_le p xs
    simp only [List.length_map]
    omega
  simp only [Bool.not_true, Bool.false_eq_true, if_false]
  rw [if_pos h2]
theorem intsOf_map : ∀ ns : List Int, intsOf (ns.map D.int) = some ns
  | [] => rfl
  | n :: ns => by
    show (intsOf (ns.map D.int)).map (n :: ·) = _
    rw [intsOf_map ns]; rfl
theorem boolsOf_map : ∀ ns : List Bool, boolsOf (ns.map D.bool) = some ns
  | [] => rfl
  | n :: ns => by
    show (boolsOf (ns.map D.bool)).map (n :: ·) = _
    rw [boolsOf_map ns]; rfl
@[simp] theorem bi_all (bs : List Bool) : biV .all [eL D.bool bs] st = .ok (.v (.bool (allB bs))) st := by
  show onBools (eL D.bool bs) st _ = _
  unfold onBools
  rw [listOf_eL]
  dsimp only
  rw [boolsOf_map]
  rfl
@[simp] theorem bi_any (bs : List Bool) : biV .any [eL D.bool bs] st = .ok (.v (.bool (anyB bs))) st := by
  show onBools (eL D.bool bs) st _ = _
  unfold onBools
  rw [listOf_eL]
  dsimp only
  rw [boolsOf_map]
  rfl
@[simp] theorem bi_sum (ns : List Int) : biV .sum [eL D.int ns] st = .ok (.v (.int ns.sum)) st := by
  show onInts (eL D.int ns) st _ = _
  unfold onInts
  rw [listOf_eL]
  dsimp only
  rw [intsOf_map]
theorem bi_sorted {ns : List Int} (h : ns.length < 64) : biV .sorted [eL D.int ns] st = .ok (.new ((sortI ns).map D.int)) st := by
  show onInts (eL D.int ns) st _ = _
  unfold onInts
  rw [listOf_eL]
  dsimp only
  rw [intsOf_map]
  dsimp only
  rw [if_pos h]
@[simp] theorem bi_max2 (i j : Int) : biV .max2 [.int i, .int j] st = .ok (.v (.int (if j > i then j else i))) st := rfl
@[simp] theorem bi_toInt_b (b : Bool) : biV .toInt [.bool b] st = .ok (.v (.int (if b = true then 1 else 0))) st := rfl
@[simp] theorem bi_toInt_i (b : Int) : biV .toInt [.int b] st = .ok (.v (.int b)) st := rfl
theorem bi_list_ref {n : Nat} {ys : List D} (h : st[n]? = some (.lst ys)) : biV .listOf [.ref n] st = .ok (.new ys) st := by
  show (match seqOf st (.ref n) with
    | some xs => R.ok (Val.new xs) st
    | Option.none => R.stuck) = _
  show (match (match st[n]? with
    | some (.lst xs) => some xs
    | _ => Option.none) with
    | some xs => R.ok (Val.new xs) st
    | Option.none => R.stuck) = _
  rw [h]
@[simp] theorem bi_list_eL : biV .listOf [eL enc xs] st = .ok (.new (xs.map enc)) st := by
  show listV (eL enc xs) st = _
  show (match seqOf st (eL enc xs) with
    | some xs => R.ok (Val.new xs) st
    | Option.none => R.stuck) = _
  rw [seqOf_eL]
theorem callP_at {cf : CF} {k : Nat} {ds : List D} {d : D} {st' : Sto} (hn : norefs ds = true) (e : cf k ds [] = .ok d st') (hd : d.noref = true) : callP cf k ds st = .ok (.v d) st := by
  unfold callP
  rw [frzs_of hn]
  dsimp only
  rw [e]
  dsimp only
  rw [hn, Bool.true_or, Bool.true_or, if_pos rfl, frz_of hd]
theorem callS_at {cf : CF} {k : Nat} {ds : List D} {d : D} {st' : Sto} (e : cf k ds st = .ok d st') : callS cf k ds st = .ok (.v d) st' := by
  unfold callS
  rw [e]
theorem callC_at {cf : CF} {k : Nat} {ds : List D} {d d2 : D} {st' st2 : Sto} (hn : norefs ds = true) (e : cf k ds [] = .ok d st') (h : relay d st' = some (d2, st2)) : callC cf k ds st = .ok (.v (d2.shift st.length)) (st ++ st2.map (Cell.shift st.length)) := by
  unfold callC
  rw [frzs_of hn]
  dsimp only
  rw [e]
  dsimp only
  rw [h]
  dsimp only
  rw [hn, Bool.true_or, if_pos rfl]
theorem callC_atz {cf : CF} {k : Nat} {ds ts : List D} {d d2 : D} {st' st2 : Sto} (hz : frzs st ds = some ts) (e : cf k ts [] = .ok d st') (h : relay d st' = some (d2, st2)) (h2 : d2.nolist = true) (h3 : st2.all Cell.nolist = true) : callC cf k ds st = .ok (.v (d2.shift st.length)) (st ++ st2.map (Cell.shift st.length)) := by
  unfold callC
  rw [hz]
  dsimp only
  rw [e]
  dsimp only
  rw [h]
  dsimp only
  rw [h2, h3, if_pos (by simp)]
end
def eqOr (x a b : Int) : Bool := decide (x = a) || decide (x = b)
@[simp] theorem notin_ints {st : Sto} (x a b : Int) : cmpR .notin (.int x) (.tup [.int a, .int b]) st = .ok (.v (.bool (!eqOr x a b))) st := by
  have e : inD st (.int x) (.tup [.int a, .int b]) = some (eqD (.int a) (.int x) || (eqD (.int b) (.int x) || false)) := rfl
  unfold cmpR cmpV
  dsimp only
  rw [e, eq_ii, eq_ii]
  simp [eqOr, eq_comm]
/-! ### cells -/
section
variable {st : Sto}
def onLst (st : Sto) (n : Nat) (f : List D → R Val) : R Val := match st[n]? with
  | some (.lst xs) => f xs
  | _ => .stuck
@[simp] theorem listOf_ref (n : Nat) : listOf st (.ref n) = (match st[n]? with
    | some (.lst xs) => some xs
    | _ => Option.none) := rfl
@[simp] theorem seqOf_ref (n : Nat) : seqOf st (.ref n) = (match st[n]? with
    | some (.lst xs) => some xs
    | _ => Option.none) := rfl
theorem len_ref {n : Nat} {xs : List D} (h : st[n]? = some (.lst xs)) : lenV (.ref n) st = .ok (.v (.int xs.length)) st := by
  show (match seqOf st (.ref n) with
    | some xs => R.ok (Val.v (D.int xs.length)) st
    | Option.none => R.stuck) = _
  rw [seqOf_ref, h]
theorem mtIs_ref {m : MT} {n : Nat} {xs : List D} (h : st[n]? = some (.lst xs)) (hm : ∀ d st, mtIs m d st = (listOf st d).isSome) : mtIs m (.ref n) st = true := by
  rw [hm, listOf_ref, h]; rfl
@[simp] theorem mtIs_append (d : D) : mtIs .append d st = (listOf st d).isSome := rfl
@[simp] theorem mtIs_pop0 (d : D) : mtIs .pop0 d st = (listOf st d).isSome := rfl
@[simp] theorem mt_append (n : Nat) (y : D) : mtV .append (.ref n) [y] st = (match st[n]? with
    | some (.lst xs) => if xs.length < sizeLine then .ok (.v .none) (st.set n (.lst (xs ++ [y]))) else .stuck
    | _ => .stuck) := rfl
@[simp] theorem mt_pop0 (n : Nat) : mtV .pop0 (.ref n) [] st = (match st[n]? with
    | some (.lst xs) => popV xs fun y => .ok (.v y) (st.set n (.lst xs.dropLast))
    | _ => .stuck) := rfl
theorem ix_ref {n : Nat} {i : Int} {xs : List D} {d : D} (h : st[n]? = some (.lst xs)) (hd : atI xs i = some d) : ixR (.ref n) (.int i) st = .ok (.v d) st := by
  have e : ixV st (.ref n) (.int i) = some d := by
    show (match seqOf st (.ref n) with
      | some xs => atI xs i
      | Option.none => Option.none) = _
    rw [seqOf_ref, h]
    exact hd
  unfold ixR
  rw [e]
theorem ix_str {z : Str} {i : Int} {c : Nat} (hz : z.length ≤ sizeLine) (h : atI z.cps.toList i = some c) : ixR (.str z) (.int i) st = .ok (.v (sgn c)) st := by
  have e : ixV st (.str z) (.int i) = some (sgn c) := by
    show (if z.length ≤ sizeLine then (atI z.cps.toList i).map sgn else Option.none) = _
    rw [if_pos hz, h]; rfl
  unfold ixR
  rw [e]
theorem cmp_nil {α : Type} [DecidableEq α] {f : α → D} {l : List α} {n : Nat} (h : ∀ x ∈ l, Cmp (f x) n) (hn : n ≤ 60) : cmpR .eq (eL f l) (.list []) st = .ok (.v (.bool (decide (l = [])))) st := by
  have e : (D.list []) = eL f [] := rfl
  rw [e, cmp_eq (cmp_eL h) (cmp_eL (f := f) (l := []) (n := 0) fun x hx => by cases hx) (by omega) (by decide), eq_eL fun x _ y hy => by cases hy]
@[simp] theorem cmp_nil_I (l : List Int) : cmpR .eq (eL D.int l) (.list []) st = .ok (.v (.bool (decide (l = [])))) st := cmp_nil (fun x _ => cmp_int x) (by decide)
end
@[simp] theorem wipeE_nil (env : MP.Env) : wipeE env [] = env := rfl
@[simp] theorem wipeE_cons (env : MP.Env) (v : Nat) (vs : List Nat) : wipeE env (v :: vs) = (wipeE env vs).set v Option.none := rfl
@[simp] theorem bindT_one (env : MP.Env) (i : Nat) (d : D) : bindT env (.one i) d = some (env.set i (some d)) := rfl
@[simp] theorem fin_false (n : Nat) (tmp : List Nat) (env : MP.Env) (st : Sto) : fin false n tmp env st = some (wipeE env tmp, st) := rfl
@[simp] theorem cmp_nilnil (st : Sto) : cmpR .eq (.list []) (.list []) st = .ok (.v (.bool true)) st := by
  show cmpR .eq (eL D.int []) (.list []) st = _
  rw [cmp_nil_I]
  rfl
theorem itR_ref {st : Sto} {n : Nat} {ys : List D} (h : st[n]? = some (.lst ys)) : itR (.ref n) st = .ok (.ref n, ys) st := by
  unfold itR
  show (match (match st[n]? with
    | some (.lst xs) => some xs
    | _ => Option.none) with
    | some ds => R.ok (D.ref n, ds) st
    | Option.none => R.stuck) = _
  rw [h]
theorem lays_mem : ∀ {ds : List D}, PyData.canLayAll0 (pys ds) = true → ∀ d ∈ ds, d.py.canLay0 = true
  | [], _, d, h => by cases h
  | x :: xs, h, d, hd => by
    have h' : x.py.canLay0 = true ∧ PyData.canLayAll0 (pys xs) = true := by simpa only [pys, PyData.canLayAll0, Bool.and_eq_true] using h
    rcases List.mem_cons.mp hd with e | e
    · rw [e]; exact h'.1
    · exact lays_mem h'.2 d e
mutual
theorem D.same_refl : ∀ {d : D}, d.py.canLay0 = true → d.same d = true
  | .none, _ => rfl
  | .bool b, _ => by simp [D.same]
  | .int b, _ => by simp [D.same]
  | .str b, _ => by simp [D.same]
  | .list xs, h => by
    simp only [D.same]
    exact sames_refl (lays_mem (by simpa only [D.py, PyData.canLay0] using h))
  | .tup xs, h => by
    simp only [D.same]
    exact sames_refl (lays_mem (by simpa only [D.py, PyData.canLay0] using h))
  | .ref n, _ => by simp [D.same]
  | .dk _ _, h => by simp [D.py, PyData.canLay0] at h
  | .dt _ _, h => by simp [D.py, PyData.canLay0] at h
  | .scr _, h => by simp [D.py, PyData.canLay0] at h
  | .exc _, h => by simp [D.py, PyData.canLay0] at h
theorem sames_refl : ∀ {ds : List D}, (∀ d ∈ ds, d.py.canLay0 = true) → sames ds ds = true
  | [], _ => rfl
  | d :: ds, h => by
    simp only [sames, Bool.and_eq_true]
    exact ⟨D.same_refl (h d List.mem_cons_self), sames_refl fun x hx => h x (List.mem_cons_of_mem _ hx)⟩
end
theorem stands_ref {st : Sto} {n : Nat} {ys : List D} (h : st[n]? = some (.lst ys)) (hl : ∀ d ∈ ys, d.py.canLay0 = true) : stands (.ref n) ys st = true := by
  show (match st[n]? with
    | some (.lst xs) => sames xs ys
    | _ => false) = true
  rw [h]
  exact sames_refl hl
theorem readN_ref {st : Sto} {n : Nat} {ys : List D} (h : st[n]? = some (.lst ys)) (hn : norefs ys = true) : readN st.length st n = some (.list ys) := by
  have hl : n < st.length := (List.getElem?_eq_some_iff.mp h).1
  obtain ⟨k, hk⟩ : ∃ k, st.length = k + 1 := ⟨st.length - 1, by omega⟩
  rw [hk]
  unfold readN
  rw [h]
  dsimp only
  rw [norefs_map hn]
theorem frz_ref {st : Sto} {n : Nat} {ys : List D} (h : st[n]? = some (.lst ys)) (hn : norefs ys = true) : frz st (.ref n) = some (.list ys) := by
  show readN st.length st n = _
  exact readN_ref h hn
theorem frzs_cons {st : Sto} {d t : D} {ds ts : List D} (h : frz st d = some t) (h2 : frzs st ds = some ts) : frzs st (d :: ds) = some (t :: ts) := by
  unfold frzs at h2 ⊢
  unfold frz at h
  simp only [mapRefs, h, h2]
theorem frzs_nil {st : Sto} : frzs st [] = some [] := rfl
theorem frz_tup {st : Sto} {ds ts : List D} (h : frzs st ds = some ts) : frz st (.tup ds) = some (.tup ts) := by
  unfold frzs at h
  unfold frz
  simp only [D.mapRef, h]
theorem callP_fz {cf : CF} {k : Nat} {st : Sto} {ds ts : List D} {d : D} (h : frzs st ds = some ts) (e : cf k ts [] = .ok d []) (hd : d.nolist = true) (hr : d.noref = true) : callP cf k ds st = .ok (.v d) st := by
  unfold callP
  rw [h]
  dsimp only
  rw [e]
  dsimp only
  rw [hd]
  simp [frz_of hr]
theorem in_strs {st : Sto} {m : Str} {ls : List Str} (hm : sOk m) (hl : ∀ x ∈ ls, sOk x) : cmpR .isin (.str m) (.list (ls.map D.str)) st = .ok (.v (.bool (ls.any fun z => decide (z = m)))) st := by
  have c1 := cmp_str hm
  have c2 : Cmp (eL D.str ls) 1 := cmp_eL fun x hx => cmp_str (hl x hx)
  have e : inD st (.str m) (.list (ls.map D.str)) = some ((ls.map D.str).any fun z => eqD z (.str m)) := by
    show (match frz st (.str m), frz st (eL D.str ls) with
      | some d, some (.list ds) => if d.shp && (D.list ds).shp then some (ds.any fun z => eqD z d) else Option.none
      | _, _ => Option.none) = _
    rw [frz_of c1.nr, frz_of c2.nr]
    show (if (D.str m).shp && (eL D.str ls).shp then _ else _) = _
    rw [c1.shp (by decide), c2.shp (by decide)]
    rfl
  unfold cmpR cmpV
  dsimp only
  rw [e]
  dsimp only
  rw [List.any_map]
  have : (fun z => eqD z (D.str m)) ∘ D.str = fun z => decide (z = m) := by
    funext z
    exact eq_str z m
  rw [this]
@[simp] theorem in_ints2 {st : Sto} (x a b : Int) : cmpR .isin (.int x) (.tup [.int a, .int b]) st = .ok (.v (.bool (decide (a = x) || decide (b = x)))) st := by
  have e : inD st (.int x) (.tup [.int a, .int b]) = some (eqD (.int a) (.int x) || (eqD (.int b) (.int x) || false)) := rfl
  unfold cmpR cmpV
  dsimp only
  rw [e, eq_ii, eq_ii, Bool.or_false]
@[simp] theorem in_ints3 {st : Sto} (x a b c : Int) : cmpR .isin (.int x) (.tup [.int a, .int b, .int c]) st = .ok (.v (.bool (decide (a = x) || (decide (b = x) || decide (c = x))))) st := by
  have e : inD st (.int x) (.tup [.int a, .int b, .int c]) = some (eqD (.int a) (.int x) || (eqD (.int b) (.int x) || (eqD (.int c) (.int x) || false))) := rfl
  unfold cmpR cmpV
  dsimp only
  rw [e, eq_ii, eq_ii, eq_ii, Bool.or_false]
mutual
theorem D.shift_nr (k : Nat) : ∀ {d : D}, d.noref = true → d.shift k = d
  | .none, _ => rfl
  | .bool _, _ => rfl
  | .int _, _ => rfl
  | .str _, _ => rfl
  | .scr _, _ => rfl
  | .exc _, _ => rfl
  | .list xs, h => by simp only [D.shift, shifts_nr k (show norefs xs = true from h)]
  | .tup xs, h => by simp only [D.shift, shifts_nr k (show norefs xs = true from h)]
  | .dk ks xs, h => by simp only [D.shift, shifts_nr k (show norefs xs = true from h)]
  | .dt ks xs, h => by simp only [D.shift, shifts_nr k (show norefs xs = true from h)]
  | .ref _, h => by cases h
theorem shifts_nr (k : Nat) : ∀ {ds : List D}, norefs ds = true → shifts k ds = ds
  | [], _ => rfl
  | d :: ds, h => by
    simp only [norefs, Bool.and_eq_true] at h
    simp only [shifts, D.shift_nr k h.1, shifts_nr k h.2]
end
theorem cell_shift_nr {k : Nat} {ds : List D} (h : norefs ds = true) : Cell.shift k (.lst ds) = .lst ds := by
  simp only [Cell.shift, shifts_nr k h]
theorem norefs_I (l : List Int) : norefs (l.map D.int) = true := norefs_map_of fun _ _ => rfl
theorem norefs_S (l : List Str) : norefs (l.map D.str) = true := norefs_map_of fun _ _ => rfl
theorem norefs_II (l : List (List Int)) : norefs (l.map (eL D.int)) = true := norefs_map_of fun _ _ => noref_eI _
theorem norefs_SS (l : List (List Str)) : norefs (l.map (eL D.str)) = true := norefs_map_of fun _ _ => noref_eS _
end MP

/-! The typed layer: Lean values that stand for values, what expressions come to. -/
namespace MP
open PySem PySem.Spec PyProof.Rows L2

/-! ### types -/
structure Tx where
  cs : List Char
  deriving DecidableEq, Inhabited
def Tx.str (t : Tx) : PySem.Str := ⟨(t.cs.map Char.toNat).toArray⟩
def tx (s : String) : Tx := ⟨s.toList⟩
structure T2 (α β : Type) where
  a : α
  b : β
  deriving DecidableEq, Inhabited
structure T3 (α β γ : Type) where
  a : α
  b : β
  c : γ
  deriving DecidableEq, Inhabited
structure T4 (α β γ δ : Type) where
  a : α
  b : β
  c : γ
  d : δ
  deriving DecidableEq, Inhabited
/-- a list of two things that are not of one kind -/
structure H2 (α β : Type) where
  a : α
  b : β
  deriving DecidableEq, Inhabited
structure H3 (α β γ : Type) where
  a : α
  b : β
  c : γ
  deriving DecidableEq, Inhabited
structure H4 (α β γ δ : Type) where
  a : α
  b : β
  c : γ
  d : δ
  deriving DecidableEq, Inhabited
structure Sc where
  ns : List Int
  deriving Inhabited

class Enc (α : Type) where
  enc : α → D
  nr : ∀ x, (enc x).noref = true
open Enc (enc)
class Lay (α : Type) [Enc α] : Prop where
  lay : ∀ x : α, (enc x).py.canLay0 = true
class EqE (α : Type) [DecidableEq α] [Enc α] (n : outParam Nat) : Prop where
  dep : ∀ x : α, (enc x).py.depth ≤ n
  eq : ∀ x y : α, eqD (enc x) (enc y) = decide (x = y)
class NN (α : Type) [Enc α] : Prop where
  l : ∀ x : α, eqD .none (enc x) = false
  r : ∀ x : α, eqD (enc x) .none = false
  nn : ∀ x : α, enc x ≠ D.none
class NL (α : Type) [Enc α] : Prop where
  nl : ∀ x : α, (enc x).nolist = true
/-- no list at all -/
class Fl (α : Type) [Enc α] : Prop where
  fl : ∀ x : α, flatD (enc x) = true
/-- no list itself -/
class NS (α : Type) [Enc α] : Prop where
  ns : ∀ (x : α) (ds : List D), enc x ≠ D.list ds
theorem Tx.ok (t : Tx) : sOk t.str := by
  unfold sOk
  rw [Array.all_eq_true_iff_forall_mem]
  intro c hc
  have hc : c ∈ (t.cs.map Char.toNat).toArray := hc
  rw [List.mem_toArray] at hc
  obtain ⟨x, _, rfl⟩ := List.mem_map.mp hc
  have := x.valid
  simp only [decide_eq_true_eq]
  show x.val.toNat < _
  unfold UInt32.isValidChar Nat.isValidChar at this
  omega
theorem Tx.inj {a b : Tx} (h : a.str = b.str) : a = b := by
  obtain ⟨a⟩ := a
  obtain ⟨b⟩ := b
  unfold Tx.str at h
  injection h with h
  have h := congrArg Array.toList h
  congr 1
  exact (List.map_inj_right (fun x y e => Char.toNat_inj.mp e)).mp (by simpa using h)
instance : Enc Int := ⟨D.int, fun _ => rfl⟩
instance : Enc Bool := ⟨D.bool, fun _ => rfl⟩
instance : Enc Unit := ⟨fun _ => D.none, fun _ => rfl⟩
instance : Enc Tx := ⟨fun t => D.str t.str, fun _ => rfl⟩
instance : Enc Sc := ⟨fun t => D.scr t.ns, fun _ => rfl⟩
instance {α : Type} [Enc α] : Enc (List α) := ⟨fun l => D.list (l.map enc), fun l => noref_eL (fun x _ => Enc.nr x)⟩
instance {α : Type} [Enc α] : Enc (Option α) := ⟨fun o => match o with
  | some x => enc x
  | Option.none => D.none, fun o => by cases o; rfl; exact Enc.nr _⟩
instance {α β : Type} [Enc α] [Enc β] : Enc (T2 α β) := ⟨fun t => D.tup [enc t.a, enc t.b], fun t => by simp [Enc.nr]⟩
instance {α β γ : Type} [Enc α] [Enc β] [Enc γ] : Enc (T3 α β γ) := ⟨fun t => D.tup [enc t.a, enc t.b, enc t.c], fun t => by simp [Enc.nr]⟩
instance {α β γ δ : Type} [Enc α] [Enc β] [Enc γ] [Enc δ] : Enc (T4 α β γ δ) := ⟨fun t => D.tup [enc t.a, enc t.b, enc t.c, enc t.d], fun t => by simp [Enc.nr]⟩
instance {α β : Type} [Enc α] [Enc β] : Enc (H2 α β) := ⟨fun t => D.list [enc t.a, enc t.b], fun t => by simp [Enc.nr]⟩
instance {α β γ : Type} [Enc α] [Enc β] [Enc γ] : Enc (H3 α β γ) := ⟨fun t => D.list [enc t.a, enc t.b, enc t.c], fun t => by simp [Enc.nr]⟩
instance {α β γ δ : Type} [Enc α] [Enc β] [Enc γ] [Enc δ] : Enc (H4 α β γ δ) := ⟨fun t => D.list [enc t.a, enc t.b, enc t.c, enc t.d], fun t => by simp [Enc.nr]⟩
instance : Lay Int := ⟨fun _ => rfl⟩
instance : Lay Bool := ⟨fun _ => rfl⟩
instance : Lay Unit := ⟨fun _ => rfl⟩
instance : Lay Tx := ⟨fun t => (cmp_str t.ok).lay⟩
instance {α : Type} [Enc α] [Lay α] : Lay (List α) := ⟨fun l => by
  show PyData.canLay0 (.list (pys (l.map enc))) = true
  simp only [PyData.canLay0]
  exact canLays fun x _ => Lay.lay x⟩
instance {α : Type} [Enc α] [Lay α] : Lay (Option α) := ⟨fun o => by cases o; rfl; exact Lay.lay (α := α) _⟩
instance {α β : Type} [Enc α] [Enc β] [Lay α] [Lay β] : Lay (T2 α β) := ⟨fun t => by
  show PyData.canLay0 (.tuple [_, _]) = true
  simp only [PyData.canLay0, PyData.canLayAll0, Lay.lay, Bool.and_self]⟩
instance {α β γ : Type} [Enc α] [Enc β] [Enc γ] [Lay α] [Lay β] [Lay γ] : Lay (T3 α β γ) := ⟨fun t => by
  show PyData.canLay0 (.tuple [_, _, _]) = true
  simp only [PyData.canLay0, PyData.canLayAll0, Lay.lay, Bool.and_self]⟩
instance {α β γ δ : Type} [Enc α] [Enc β] [Enc γ] [Enc δ] [Lay α] [Lay β] [Lay γ] [Lay δ] : Lay (T4 α β γ δ) := ⟨fun t => by
  show PyData.canLay0 (.tuple [_, _, _, _]) = true
  simp only [PyData.canLay0, PyData.canLayAll0, Lay.lay, Bool.and_self]⟩
instance {α β : Type} [Enc α] [Enc β] [Lay α] [Lay β] : Lay (H2 α β) := ⟨fun t => by
  show PyData.canLay0 (.list [_, _]) = true
  simp only [PyData.canLay0, PyData.canLayAll0, Lay.lay, Bool.and_self]⟩
instance {α β γ : Type} [Enc α] [Enc β] [Enc γ] [Lay α] [Lay β] [Lay γ] : Lay (H3 α β γ) := ⟨fun t => by
  show PyData.canLay0 (.list [_, _, _]) = true
  simp only [PyData.canLay0, PyData.canLayAll0, Lay.lay, Bool.and_self]⟩
instance {α β γ δ : Type} [Enc α] [Enc β] [Enc γ] [Enc δ] [Lay α] [Lay β] [Lay γ] [Lay δ] : Lay (H4 α β γ δ) := ⟨fun t => by
  show PyData.canLay0 (.list [_, _, _, _]) = true
  simp only [PyData.canLay0, PyData.canLayAll0, Lay.lay, Bool.and_self]⟩
instance : EqE Int 0 := ⟨fun _ => Nat.le_refl _, eq_int⟩
theorem eq_bool (a b : Bool) : eqD (.bool a) (.bool b) = decide (a = b) := by
  show PyData.eqv (.bool a) (.bool b) = _
  simp only [PyData.eqv]
  rfl
instance : EqE Bool 0 := ⟨fun _ => Nat.le_refl _, eq_bool⟩
instance : EqE Unit 0 := ⟨fun _ => Nat.le_refl _, fun _ _ => rfl⟩
instance : EqE Tx 0 := ⟨fun t => (cmp_str t.ok).dep, fun a b => by
  show eqD (.str a.str) (.str b.str) = _
  rw [eq_str]
  by_cases h : a = b
  · subst h; simp
  · have : a.str ≠ b.str := fun e => h (Tx.inj e)
    simp [h, this]⟩
instance {α : Type} [DecidableEq α] [Enc α] {n : Nat} [EqE α n] : EqE (List α) (n + 1) := ⟨fun l => by
  show PyData.depth (.list (pys (l.map enc))) ≤ n + 1
  simp only [PyData.depth]
  have := depths (f := (enc : α → D)) (l := l) (n := n) fun x hx => EqE.dep x
  omega, fun x y => eq_eL fun a _ b _ => EqE.eq a b⟩
instance {α : Type} [DecidableEq α] [Enc α] {n : Nat} [EqE α n] [NN α] : EqE (Option α) n := ⟨fun o => by cases o; exact Nat.zero_le _; exact EqE.dep (α := α) _, fun x y => by
  cases x <;> cases y
  · rfl
  · exact NN.l (α := α) _
  · exact NN.r (α := α) _
  · rename_i a b
    show eqD (enc a) (enc b) = _
    rw [EqE.eq]
    simp⟩
instance {α β : Type} [DecidableEq α] [DecidableEq β] [Enc α] [Enc β] {n m : Nat} [EqE α n] [EqE β m] : EqE (T2 α β) (max n m + 1) := ⟨fun t => by
  show PyData.depth (.tuple [(enc t.a).py, (enc t.b).py]) ≤ _
  simp only [PyData.depth, PyData.depthAll]
  have := EqE.dep t.a
  have := EqE.dep t.b
  omega, fun x y => by
  obtain ⟨a, b⟩ := x
  obtain ⟨c, d⟩ := y
  have h1 := EqE.eq a c
  have h2 := EqE.eq b d
  unfold eqD at h1 h2
  show PyData.eqv (.tuple [(enc a).py, (enc b).py]) (.tuple [(enc c).py, (enc d).py]) = _
  simp only [PyData.eqv, PyData.eqvAll, h1, h2]
  by_cases q : a = c <;> by_cases q2 : b = d <;> simp [q, q2]⟩
instance {α β γ : Type} [DecidableEq α] [DecidableEq β] [DecidableEq γ] [Enc α] [Enc β] [Enc γ] {n m k : Nat} [EqE α n] [EqE β m] [EqE γ k] : EqE (T3 α β γ) (max n (max m k) + 1) := ⟨fun t => by
  show PyData.depth (.tuple [(enc t.a).py, (enc t.b).py, (enc t.c).py]) ≤ _
  simp only [PyData.depth, PyData.depthAll]
  have := EqE.dep t.a
  have := EqE.dep t.b
  have := EqE.dep t.c
  omega, fun x y => by
  obtain ⟨a, b, e⟩ := x
  obtain ⟨c, d, f⟩ := y
  have h1 := EqE.eq a c
  have h2 := EqE.eq b d
  have h3 := EqE.eq e f
  unfold eqD at h1 h2 h3
  show PyData.eqv (.tuple [(enc a).py, (enc b).py, (enc e).py]) (.tuple [(enc c).py, (enc d).py, (enc f).py]) = _
  simp only [PyData.eqv, PyData.eqvAll, h1, h2, h3]
  by_cases q : a = c <;> by_cases q2 : b = d <;> by_cases q3 : e = f <;> simp [q, q2, q3]⟩
instance {α β γ δ : Type} [DecidableEq α] [DecidableEq β] [DecidableEq γ] [DecidableEq δ] [Enc α] [Enc β] [Enc γ] [Enc δ] {n m k l : Nat} [EqE α n] [EqE β m] [EqE γ k] [EqE δ l] : EqE (T4 α β γ δ) (max (max n m) (max k l) + 1) := ⟨fun t => by
  show PyData.depth (.tuple [(enc t.a).py, (enc t.b).py, (enc t.c).py, (enc t.d).py]) ≤ _
  simp only [PyData.depth, PyData.depthAll]
  have := EqE.dep t.a
  have := EqE.dep t.b
  have := EqE.dep t.c
  have := EqE.dep t.d
  omega, fun x y => by
  obtain ⟨a, b, e, g⟩ := x
  obtain ⟨c, d, f, i⟩ := y
  have h1 := EqE.eq a c
  have h2 := EqE.eq b d
  have h3 := EqE.eq e f
  have h4 := EqE.eq g i
  unfold eqD at h1 h2 h3 h4
  show PyData.eqv (.tuple [(enc a).py, (enc b).py, (enc e).py, (enc g).py]) (.tuple [(enc c).py, (enc d).py, (enc f).py, (enc i).py]) = _
  simp only [PyData.eqv, PyData.eqvAll, h1, h2, h3, h4]
  by_cases q : a = c <;> by_cases q2 : b = d <;> by_cases q3 : e = f <;> by_cases q4 : g = i <;> simp [q, q2, q3, q4]⟩
instance {α β : Type} [DecidableEq α] [DecidableEq β] [Enc α] [Enc β] {n m : Nat} [EqE α n] [EqE β m] : EqE (H2 α β) (max n m + 1) := ⟨fun t => by
  show PyData.depth (.list [(enc t.a).py, (enc t.b).py]) ≤ _
  simp only [PyData.depth, PyData.depthAll]
  have := EqE.dep t.a
  have := EqE.dep t.b
  omega, fun x y => by
  obtain ⟨a, b⟩ := x
  obtain ⟨c, d⟩ := y
  have h1 := EqE.eq a c
  have h2 := EqE.eq b d
  unfold eqD at h1 h2
  show PyData.eqv (.list [(enc a).py, (enc b).py]) (.list [(enc c).py, (enc d).py]) = _
  simp only [PyData.eqv, PyData.eqvAll, h1, h2]
  by_cases q : a = c <;> by_cases q2 : b = d <;> simp [q, q2]⟩
instance {α β γ : Type} [DecidableEq α] [DecidableEq β] [DecidableEq γ] [Enc α] [Enc β] [Enc γ] {n m k : Nat} [EqE α n] [EqE β m] [EqE γ k] : EqE (H3 α β γ) (max n (max m k) + 1) := ⟨fun t => by
  show PyData.depth (.list [(enc t.a).py, (enc t.b).py, (enc t.c).py]) ≤ _
  simp only [PyData.depth, PyData.depthAll]
  have := EqE.dep t.a
  have := EqE.dep t.b
  have := EqE.dep t.c
  omega, fun x y => by
  obtain ⟨a, b, e⟩ := x
  obtain ⟨c, d, f⟩ := y
  have h1 := EqE.eq a c
  have h2 := EqE.eq b d
  have h3 := EqE.eq e f
  unfold eqD at h1 h2 h3
  show PyData.eqv (.list [(enc a).py, (enc b).py, (enc e).py]) (.list [(enc c).py, (enc d).py, (enc f).py]) = _
  simp only [PyData.eqv, PyData.eqvAll, h1, h2, h3]
  by_cases q : a = c <;> by_cases q2 : b = d <;> by_cases q3 : e = f <;> simp [q, q2, q3]⟩
instance {α β γ δ : Type} [DecidableEq α] [DecidableEq β] [DecidableEq γ] [DecidableEq δ] [Enc α] [Enc β] [Enc γ] [Enc δ] {n m k l : Nat} [EqE α n] [EqE β m] [EqE γ k] [EqE δ l] : EqE (H4 α β γ δ) (max (max n m) (max k l) + 1) := ⟨fun t => by
  show PyData.depth (.list [(enc t.a).py, (enc t.b).py, (enc t.c).py, (enc t.d).py]) ≤ _
  simp only [PyData.depth, PyData.depthAll]
  have := EqE.dep t.a
  have := EqE.dep t.b
  have := EqE.dep t.c
  have := EqE.dep t.d
  omega, fun x y => by
  obtain ⟨a, b, e, g⟩ := x
  obtain ⟨c, d, f, i⟩ := y
  have h1 := EqE.eq a c
  have h2 := EqE.eq b d
  have h3 := EqE.eq e f
  have h4 := EqE.eq g i
  unfold eqD at h1 h2 h3 h4
  show PyData.eqv (.list [(enc a).py, (enc b).py, (enc e).py, (enc g).py]) (.list [(enc c).py, (enc d).py, (enc f).py, (enc i).py]) = _
  simp only [PyData.eqv, PyData.eqvAll, h1, h2, h3, h4]
  by_cases q : a = c <;> by_cases q2 : b = d <;> by_cases q3 : e = f <;> by_cases q4 : g = i <;> simp [q, q2, q3, q4]⟩
instance : NN Int := ⟨fun _ => rfl, fun _ => rfl, fun _ h => by cases h⟩
instance : NN Bool := ⟨fun _ => rfl, fun _ => rfl, fun _ h => by cases h⟩
instance : NN Tx := ⟨fun _ => rfl, fun _ => rfl, fun _ h => by cases h⟩
instance {α : Type} [Enc α] : NN (List α) := ⟨fun _ => rfl, fun _ => rfl, fun _ h => by cases h⟩
instance {α β : Type} [Enc α] [Enc β] : NN (T2 α β) := ⟨fun _ => rfl, fun _ => rfl, fun _ h => by cases h⟩
instance {α β : Type} [Enc α] [Enc β] : NN (H2 α β) := ⟨fun _ => rfl, fun _ => rfl, fun _ h => by cases h⟩
instance {α β γ δ : Type} [Enc α] [Enc β] [Enc γ] [Enc δ] : NN (T4 α β γ δ) := ⟨fun _ => rfl, fun _ => rfl, fun _ h => by cases h⟩
instance {α β γ : Type} [Enc α] [Enc β] [Enc γ] : NN (T3 α β γ) := ⟨fun _ => rfl, fun _ => rfl, fun _ h => by cases h⟩
instance : NL Int := ⟨fun _ => rfl⟩
instance : NL Bool := ⟨fun _ => rfl⟩
instance : NL Unit := ⟨fun _ => rfl⟩
instance : NL Tx := ⟨fun _ => rfl⟩
instance {α : Type} [Enc α] [NL α] : NL (Option α) := ⟨fun o => by cases o; rfl; exact NL.nl (α := α) _⟩
instance {α β : Type} [Enc α] [Enc β] [NL α] [NL β] : NL (T2 α β) := ⟨fun t => by
  show ((enc t.a).nolist && ((enc t.b).nolist && true)) = true
  simp [NL.nl]⟩
instance : NS Int := ⟨fun _ _ h => by cases h⟩
instance : NS Bool := ⟨fun _ _ h => by cases h⟩
instance : NS Unit := ⟨fun _ _ h => by cases h⟩
instance : NS Tx := ⟨fun _ _ h => by cases h⟩
instance : NS Sc := ⟨fun _ _ h => by cases h⟩
instance {α : Type} [Enc α] [NS α] : NS (Option α) := ⟨fun o ds => by
  cases o
  · intro h; cases h
  · exact NS.ns (α := α) _ ds⟩
instance {α β : Type} [Enc α] [Enc β] : NS (T2 α β) := ⟨fun _ _ h => by cases h⟩
instance {α β γ : Type} [Enc α] [Enc β] [Enc γ] : NS (T3 α β γ) := ⟨fun _ _ h => by cases h⟩
instance {α β γ δ : Type} [Enc α] [Enc β] [Enc γ] [Enc δ] : NS (T4 α β γ δ) := ⟨fun _ _ h => by cases h⟩
instance : Fl Int := ⟨fun _ => rfl⟩
instance : Fl Bool := ⟨fun _ => rfl⟩
instance : Fl Tx := ⟨fun _ => rfl⟩
instance {α : Type} [Enc α] [Fl α] : Fl (Option α) := ⟨fun o => by cases o; rfl; exact Fl.fl (α := α) _⟩
theorem nrs {α : Type} [Enc α] (l : List α) : norefs (l.map enc) = true := norefs_map_of fun x _ => Enc.nr x
theorem nls {α : Type} [Enc α] [NL α] (l : List α) : nolists (l.map enc) = true := by
  induction l with
  | nil => rfl
  | cons a r ih =>
    show ((enc a).nolist && nolists (r.map enc)) = true
    rw [NL.nl, ih]; rfl
theorem lays {α : Type} [Enc α] [Lay α] (l : List α) : ∀ d ∈ l.map enc, d.py.canLay0 = true := fun d hd => by
  obtain ⟨x, _, rfl⟩ := List.mem_map.mp hd
  exact Lay.lay x
theorem shp_of {α : Type} [DecidableEq α] [Enc α] [Lay α] {n : Nat} [EqE α n] (x : α) (hn : n ≤ 64) : (enc x).shp = true := by
  show (PyData.canLay0 (enc x).py && decide (PyData.depth (enc x).py ≤ 64)) = true
  rw [Lay.lay x]
  have := EqE.dep x
  simp; omega
/-! ### what stands for a value -/
/-- a tree, or a cell with a list of trees -/
def Fz (st : Sto) (d t : D) : Prop := d = t ∨ ∃ n ds, d = .ref n ∧ st[n]? = some (.lst ds) ∧ t = .list ds
theorem Fz.frz {st : Sto} {d t : D} (h : Fz st d t) (hn : t.noref = true) : frz st d = some t := by
  rcases h with rfl | ⟨n, ds, rfl, h, rfl⟩
  · exact frz_of hn
  · exact frz_ref h hn
theorem Fz.list {st : Sto} {d : D} {ds : List D} (h : Fz st d (.list ds)) : listOf st d = some ds := by
  rcases h with rfl | ⟨n, ds', rfl, h, e⟩
  · rfl
  · cases e
    rw [listOf_ref, h]
theorem Fz.seq {st : Sto} {d : D} {ds : List D} (h : Fz st d (.list ds)) : seqOf st d = some ds := by
  rcases h with rfl | ⟨n, ds', rfl, h, e⟩
  · rfl
  · cases e
    rw [seqOf_ref, h]
theorem Fz.ns {α : Type} [Enc α] [NS α] {st : Sto} {d : D} {x : α} (h : Fz st d (enc x)) : d = enc x := by
  rcases h with h | ⟨_, ds, _, _, e⟩
  · exact h
  · exact absurd e (NS.ns x ds)
theorem Fz.rec' {st : Sto} {d : D} {ds : List D} {P : D → Prop} (h : Fz st d (.list ds)) (h1 : P (.list ds)) (h2 : ∀ n, st[n]? = some (.lst ds) → P (.ref n)) : P d := by
  rcases h with rfl | ⟨n, ds', rfl, h, e⟩
  · exact h1
  · cases e
    exact h2 n h
section
variable {α β γ δ : Type} [Enc α] [Enc β] [Enc γ] [Enc δ] (cf : CF)
def Tv (e : E) (env : MP.Env) (st : Sto) (x : α) : Prop := ∃ w, evX cf e env st = .ok w st ∧ w.d = enc x
def Nv (e : E) (env : MP.Env) (st : Sto) (x : List α) : Prop := evX cf e env st = .ok (Val.new (x.map enc)) st
def Vv (e : E) (env : MP.Env) (st : Sto) (x : α) : Prop := ∃ w, evX cf e env st = .ok w st ∧ Fz st w.d (enc x)
def Zv (e : E) (env : MP.Env) (st : Sto) (x : α) : Prop := ∃ w, evX cf e env st = .ok w st ∧ frz st w.d = some (enc x)
def As (es : Es) (env : MP.Env) (st : Sto) (ts : List D) : Prop := evXs cf es env st = .ok ts st ∧ norefs ts = true
def Iv (it : It) (env : MP.Env) (st : Sto) (l : List α) : Prop := ∃ src, evI cf it env st = .ok (src, l.map enc) st ∧ stands src (l.map enc) st = true
/-- calls: what is handed back -/
def Okp (f : Nat) (ts : List D) (x : α) : Prop := ∃ d st', cf f ts [] = .ok d st' ∧ frz st' d = some (enc x)
def Okn (f : Nat) (ts : List D) (x : α) : Prop := ∃ d st', cf f ts [] = .ok d st' ∧ frz st' d = some (enc x) ∧ d.nolist = true ∧ st'.all Cell.nolist = true
def Oke (f : Nat) (ts : List D) (x : Except Str α) : Prop := match x with
  | .ok x => Okp cf f ts x
  | .error c => ∃ st', cf f ts [] = .err c st'
end
variable {α β γ δ : Type} [Enc α] [Enc β] [Enc γ] [Enc δ] {cf : CF} {env : MP.Env} {st : Sto}
theorem Nv.t {e : E} {x : List α} (h : Nv cf e env st x) : Tv cf e env st x := ⟨_, h, rfl⟩
theorem Tv.v {e : E} {x : α} (h : Tv cf e env st x) : Vv cf e env st x := by
  obtain ⟨w, e, h⟩ := h
  exact ⟨w, e, .inl h⟩
theorem Nv.v {e : E} {x : List α} (h : Nv cf e env st x) : Vv cf e env st x := h.t.v
theorem Vv.z {e : E} {x : α} (h : Vv cf e env st x) : Zv cf e env st x := by
  obtain ⟨w, e, h⟩ := h
  exact ⟨w, e, h.frz (Enc.nr x)⟩
theorem Tv.z {e : E} {x : α} (h : Tv cf e env st x) : Zv cf e env st x := h.v.z
theorem Vv.t [NS α] {e : E} {x : α} (h : Vv cf e env st x) : Tv cf e env st x := by
  obtain ⟨w, e, h⟩ := h
  exact ⟨w, e, h.ns⟩
/-! ### variables, literals -/
theorem tv_var {i : Nat} {x : α} (h : env[i]? = some (some (enc x))) : Tv cf (.var i) env st x := ⟨.v (enc x), by rw [evX_var, h], rfl⟩
theorem vv_cell {i n : Nat} {x : List α} (h : env[i]? = some (some (.ref n))) (h2 : st[n]? = some (.lst (x.map enc))) : Vv cf (.var i) env st x :=
  ⟨.v (.ref n), by rw [evX_var, h], .inr ⟨n, _, rfl, h2, rfl⟩⟩
theorem tv_lit {d : D} {x : α} (h : d = enc x) : Tv cf (.lit d) env st x := ⟨.v d, by rw [evX_lit], h⟩
theorem tv_glob {s : Str} {d : D} {x : α} (h : d = enc x) : Tv cf (.glob s d) env st x := ⟨.v d, by rw [evX_glob], h⟩
theorem ofString_tx (s : String) : (Str.ofString s) = (tx s).str := Str.ofString_eq_toList s
theorem tv_str {s : String} : Tv cf (.lit (.str (Str.ofString s))) env st (tx s) := tv_lit (congrArg D.str (ofString_tx s))
/-- an option's something -/
theorem Tv.some {e : E} {x : α} (h : Tv cf e env st x) : Tv cf e env st (some x) := h
theorem Vv.some {e : E} {x : α} (h : Vv cf e env st x) : Vv cf e env st (some x) := h
def uw {α : Type} [Inhabited α] (o : Option α) : α := o.getD default
theorem Tv.uw [Inhabited α] {e : E} {o : Option α} (h : Tv cf e env st o) (ho : o.isSome = true) : Tv cf e env st (uw o) := by
  cases o with
  | none => cases ho
  | some x => exact h
theorem Vv.uw [Inhabited α] {e : E} {o : Option α} (h : Vv cf e env st o) (ho : o.isSome = true) : Vv cf e env st (uw o) := by
  cases o with
  | none => cases ho
  | some x => exact h
/-! ### numbers -/
theorem int_of {e : E} {x : Int} (h : Vv cf e env st x) : ∃ w, evX cf e env st = .ok w st ∧ w.d = .int x := h.t
theorem bin_of {o : BOp} {a b : E} {x : α} {y : β} {z : γ} (ha : Vv cf a env st x) (hb : Vv cf b env st y) (h : ∀ d e, Fz st d (enc x) → Fz st e (enc y) → ∃ w, binV o d e st = .ok w st ∧ w.d = enc z) : Tv cf (.bin o a b) env st z := by
  obtain ⟨v, e1, h1⟩ := ha
  obtain ⟨w, e2, h2⟩ := hb
  obtain ⟨u, e3, h3⟩ := h _ _ h1 h2
  refine ⟨u, ?_, h3⟩
  rw [evX_bin, e1, R.bind_ok, e2, R.bind_ok, e3]
theorem tv_add {a b : E} {x y : Int} (ha : Vv cf a env st x) (hb : Vv cf b env st y) : Tv cf (.bin .add a b) env st (x + y) :=
  bin_of ha hb fun d e h1 h2 => by rw [h1.ns, h2.ns]; exact ⟨_, rfl, rfl⟩
theorem tv_sub {a b : E} {x y : Int} (ha : Vv cf a env st x) (hb : Vv cf b env st y) : Tv cf (.bin .sub a b) env st (x - y) :=
  bin_of ha hb fun d e h1 h2 => by rw [h1.ns, h2.ns]; exact ⟨_, rfl, rfl⟩
/-- a factor is small -/
def MulOk (x y : Int) : Prop := (-(2 ^ 64) < x ∧ x < 2 ^ 64) ∨ (-(2 ^ 64) < y ∧ y < 2 ^ 64)
theorem tv_mul {a b : E} {x y : Int} (ha : Vv cf a env st x) (hb : Vv cf b env st y) (h : MulOk x y) : Tv cf (.bin .mul a b) env st (x * y) :=
  bin_of ha hb fun d e h1 h2 => by
    rw [h1.ns, h2.ns]
    refine ⟨.v (.int (x * y)), ?_, rfl⟩
    show (if L2.CMul x y then R.ok (Val.v (D.int (x * y))) st else R.stuck) = _
    exact if_pos (show L2.CMul x y from h)
def DivOk (x y : Int) : Prop := L2.CDivN x y
theorem tv_fdiv {a b : E} {x y : Int} (ha : Vv cf a env st x) (hb : Vv cf b env st y) (h : DivOk x y) : Tv cf (.bin .fdiv a b) env st (x.fdiv y) :=
  bin_of ha hb fun d e h1 h2 => by
    rw [h1.ns, h2.ns]
    refine ⟨.v (.int (x.fdiv y)), ?_, rfl⟩
    show (if L2.CDivN x y then R.ok (Val.v (D.int (x.fdiv y))) st else R.stuck) = _
    exact if_pos (show L2.CDivN x y from h)
theorem tv_mod {a b : E} {x y : Int} (ha : Vv cf a env st x) (hb : Vv cf b env st y) (h : y ≠ 0) : Tv cf (.bin .mod a b) env st (x.fmod y) :=
  bin_of ha hb fun d e h1 h2 => by
    rw [h1.ns, h2.ns]
    refine ⟨.v (.int (x.fmod y)), ?_, rfl⟩
    show (if y ≠ 0 then R.ok (Val.v (D.int (x.fmod y))) st else R.stuck) = _
    rw [if_pos h]
def PowOk (x y : Int) : Prop := L2.CPow x y
instance (x y : Int) : Decidable (PowOk x y) := by unfold PowOk; infer_instance
theorem tv_pow {a b : E} {x y : Int} (ha : Vv cf a env st x) (hb : Vv cf b env st y) (h : PowOk x y) : Tv cf (.bin .pow a b) env st (x ^ y.toNat) :=
  bin_of ha hb fun d e h1 h2 => by
    rw [h1.ns, h2.ns]
    refine ⟨.v (.int (x ^ y.toNat)), ?_, rfl⟩
    show (if L2.CPow x y then R.ok (Val.v (D.int (x ^ y.toNat))) st else R.stuck) = _
    exact if_pos (show L2.CPow x y from h)
/-! ### lists -/
/-- a list's length is let by -/
def Sz {α : Type} (l : List α) : Prop := l.length ≤ 16777216
def Sz1 {α : Type} (l : List α) : Prop := l.length < 16777216
theorem Sz.le {α : Type} {l : List α} (h : Sz l) : l.length ≤ sizeLine := by rw [sizeLine_eq]; exact h
theorem nv_cat {a b : E} {x y : List α} (ha : Vv cf a env st x) (hb : Vv cf b env st y) (h : Sz (x ++ y)) : Nv cf (.bin .add a b) env st (x ++ y) := by
  obtain ⟨v, e1, h1⟩ := ha
  obtain ⟨w, e2, h2⟩ := hb
  have q1 := h1.list
  have q2 := h2.list
  have h' := h.le
  rw [List.length_append] at h'
  have key : addV v.d w.d st = .ok (Val.new ((x ++ y).map enc)) st := by
    rw [List.map_append]
    have fin : ∀ d e, listOf st d = some (x.map enc) → listOf st e = some (y.map enc) → (match listOf st d, listOf st e with
      | some xs, some ys => if xs.length + ys.length ≤ sizeLine then R.ok (Val.new (xs ++ ys)) st else .stuck
      | _, _ => R.stuck) = .ok (Val.new (x.map enc ++ y.map enc)) st := fun d e a b => by
      rw [a, b]
      dsimp only
      rw [List.length_map, List.length_map, if_pos h']
    rcases h1 with h1 | ⟨n, _, h1, _, _⟩
    · rw [h1] at q1 ⊢
      rcases h2 with h2 | ⟨n, _, h2, _, _⟩
      · rw [h2] at q2 ⊢; exact fin _ _ q1 q2
      · rw [h2] at q2 ⊢; exact fin _ _ q1 q2
    · rw [h1] at q1 ⊢
      rcases h2 with h2 | ⟨n, _, h2, _, _⟩
      · rw [h2] at q2 ⊢; exact fin _ _ q1 q2
      · rw [h2] at q2 ⊢; exact fin _ _ q1 q2
  unfold Nv
  rw [evX_bin, e1, R.bind_ok, e2, R.bind_ok]
  exact key
def rep {α : Type} (l : List α) (k : Int) : List α := (List.replicate k.toNat l).flatten
theorem nv_rep {a b : E} {x : List α} {k : Int} (ha : Vv cf a env st x) (hb : Vv cf b env st k) (h : k < 2 ^ 63 ∧ -(2 ^ 63) ≤ k ∧ x.length * k.toNat ≤ 16777216) : Nv cf (.bin .mul a b) env st (rep x k) := by
  obtain ⟨v, e1, h1⟩ := ha
  obtain ⟨w, e2, h2⟩ := int_of hb
  have hs : sizeLine = 16777216 := sizeLine_eq
  have q1 := h1.list
  have key : mulV v.d w.d st = .ok (Val.new ((rep x k).map enc)) st := by
    rw [h2]
    have e : (rep x k).map enc = (List.replicate k.toNat (x.map enc)).flatten := by
      unfold rep
      rw [List.map_flatten, List.map_replicate]
    rw [e]
    have fin : ∀ d, listOf st d = some (x.map enc) → (match listOf st d with
      | some xs => if -(2 ^ 63) ≤ k ∧ k < 2 ^ 63 ∧ xs.length * k.toNat ≤ sizeLine then R.ok (Val.new (List.replicate k.toNat xs).flatten) st else .stuck
      | _ => R.stuck) = .ok (Val.new (List.replicate k.toNat (x.map enc)).flatten) st := fun d a => by
      rw [a]
      dsimp only
      rw [List.length_map, if_pos ⟨h.2.1, h.1, by rw [hs]; exact h.2.2⟩]
    rcases h1 with h1 | ⟨n, _, h1, _, _⟩
    · rw [h1] at q1 ⊢
      exact fin _ q1
    · rw [h1] at q1 ⊢
      exact fin _ q1
  unfold Nv
  rw [evX_bin, e1, R.bind_ok, e2, R.bind_ok]
  exact key
end MP

namespace MP
open PySem PySem.Spec PyProof.Rows L2
open Enc (enc)
variable {α β γ δ : Type} [Enc α] [Enc β] [Enc γ] [Enc δ] {cf : CF} {env : MP.Env} {st : Sto}
/-! ### parts -/
/-- an index is let by -/
def InR (n : Nat) (i : Int) : Prop := -(n : Int) ≤ i ∧ i < n
instance (n : Nat) (i : Int) : Decidable (InR n i) := by unfold InR; infer_instance
def ix {α : Type} [Inhabited α] (l : List α) (i : Int) : α := (atI l i).getD default
theorem atI_in {α : Type} {l : List α} {i : Int} (h : InR l.length i) : ∃ x, atI l i = some x := by
  unfold InR at h
  by_cases h0 : 0 ≤ i
  · rw [atI_pos h0 h.2]
    exact ⟨_, List.getElem?_eq_getElem (by omega)⟩
  · rw [atI_neg (by omega) h.1]
    exact ⟨_, List.getElem?_eq_getElem (by omega)⟩
theorem atI_ix {α : Type} [Inhabited α] {l : List α} {i : Int} (h : InR l.length i) : atI l i = some (ix l i) := by
  obtain ⟨x, e⟩ := atI_in h
  unfold ix
  rw [e]; rfl
theorem ix_mem {α : Type} [Inhabited α] {l : List α} {i : Int} (h : InR l.length i) : ix l i ∈ l := by
  have e := atI_ix h
  unfold atI at e
  cases q : ixN l.length i with
  | none => rw [q] at e; cases e
  | some j => rw [q] at e; exact List.mem_of_getElem? e
theorem atI_map {α β : Type} (f : α → β) (l : List α) (i : Int) : atI (l.map f) i = (atI l i).map f := by
  unfold atI
  rw [List.length_map]
  cases ixN l.length i with
  | none => rfl
  | some j => exact List.getElem?_map ..
theorem ix_of {a b : E} {x : α} {i : Int} {z : β} (ha : Vv cf a env st x) (hb : Vv cf b env st i) (h : ∀ d, Fz st d (enc x) → ixV st d (.int i) = some (enc z)) : Tv cf (.ix a b) env st z := by
  obtain ⟨v, e1, h1⟩ := ha
  obtain ⟨w, e2, h2⟩ := int_of hb
  refine ⟨.v (enc z), ?_, rfl⟩
  rw [evX_ix, e1, R.bind_ok, e2, R.bind_ok, h2]
  unfold ixR
  rw [h _ h1]
theorem tv_ix [Inhabited α] {a b : E} {l : List α} {i : Int} (ha : Vv cf a env st l) (hb : Vv cf b env st i) (h : InR l.length i) : Tv cf (.ix a b) env st (ix l i) :=
  ix_of ha hb fun d hd => by
    have key : atI (l.map (enc : α → D)) i = some (enc (ix l i)) := by rw [atI_map, atI_ix h]; rfl
    exact hd.rec' (P := fun d => ixV st d (.int i) = some (enc (ix l i))) key fun n hn => by
      show (match seqOf st (.ref n) with
        | some xs => L2.atI xs i
        | Option.none => Option.none) = _
      rw [seqOf_ref, hn]
      exact key
theorem tv_ixs {a b : E} {l : Sc} {i : Int} (ha : Vv cf a env st l) (hb : Vv cf b env st i) (h : InR l.ns.length i) : Tv cf (.ix a b) env st (ix l.ns i) :=
  ix_of ha hb fun d hd => by
    rw [hd.ns]
    show atI (l.ns.map D.int) i = _
    rw [atI_map, atI_ix h]; rfl
def len {α : Type} (l : List α) : Int := l.length
def Tx.ix (t : Tx) (i : Int) : Tx := ⟨[MP.ix t.cs i]⟩
def Tx.len (t : Tx) : Int := t.cs.length
theorem Tx.length (t : Tx) : t.str.length = t.cs.length := by
  show (t.cs.map Char.toNat).toArray.size = _
  simp
theorem tv_ixt {a b : E} {l : Tx} {i : Int} (ha : Vv cf a env st l) (hb : Vv cf b env st i) (h : InR l.cs.length i) (hz : Sz l.cs) : Tv cf (.ix a b) env st (l.ix i) :=
  ix_of ha hb fun d hd => by
    rw [hd.ns]
    show (if l.str.length ≤ sizeLine then (atI l.str.cps.toList i).map sgn else Option.none) = _
    rw [if_pos (by rw [Tx.length]; exact hz.le)]
    have e : l.str.cps.toList = l.cs.map Char.toNat := by
      show (l.cs.map Char.toNat).toArray.toList = _
      simp
    rw [e, atI_map, atI_ix h]
    rfl
section
variable {e : E}
end
section
variable {e : E}
end
/-- a slice -/
def cut {α : Type} (l : List α) (lo hi : Option Int) : List α := cutA l lo hi
/-- a slice's bound -/
inductive Bd where
  | no
  | at (i : Int)
def Bd.o : Bd → Option Int
  | .no => Option.none
  | .at i => some i
def Bv (cf : CF) (e : E) (env : MP.Env) (st : Sto) (o : Option Int) : Prop := ∃ w, evX cf e env st = .ok w st ∧ partOf e w.d = some o
theorem bv_no : Bv cf (.lit .none) env st Option.none := ⟨_, evX_lit _, rfl⟩
theorem bv_at {e : E} {i : Int} (h : Vv cf e env st i) : Bv cf e env st (some i) := by
  obtain ⟨w, e1, h1⟩ := int_of h
  refine ⟨w, e1, ?_⟩
  unfold partOf
  by_cases q : isNoneLit e = true
  · have : e = .lit .none := by
      unfold isNoneLit at q
      split at q
      · rfl
      · cases q
    subst this
    rw [evX_lit] at e1
    cases e1
    cases h1
  · rw [if_neg q, h1]
theorem nv_sl {a lo hi : E} {l : List α} {i j : Option Int} (ha : Vv cf a env st l) (hl : Bv cf lo env st i) (hh : Bv cf hi env st j) : Nv cf (.sl a lo hi) env st (cut l i j) := by
  obtain ⟨v, e1, h1⟩ := ha
  obtain ⟨w, e2, h2⟩ := hl
  obtain ⟨u, e3, h3⟩ := hh
  unfold Nv
  rw [evX_sl, e1, R.bind_ok, e2, R.bind_ok, h2]
  dsimp only
  rw [e3, R.bind_ok, h3]
  dsimp only
  have e : (cut l i j).map enc = cutA (l.map (enc : α → D)) i j := by
    unfold cut cutA
    rw [List.map_take, List.map_drop, List.length_map]
  rw [e]
  exact h1.rec' (P := fun d => slV d i j st = R.ok (Val.new (cutA (l.map enc) i j)) st) rfl fun n hn => by
    show (match listOf st (.ref n) with
      | some xs => R.ok (Val.new (cutA xs i j)) st
      | Option.none => R.stuck) = _
    rw [listOf_ref, hn]
def Tx.cut (t : Tx) (lo hi : Option Int) : Tx := ⟨cutA t.cs lo hi⟩
/-! ### comparing -/
theorem cmp_of {o : COp} {a b : E} {x : α} {y : β} {c : Bool} (ha : Vv cf a env st x) (hb : Vv cf b env st y) (h : ∀ d e, Fz st d (enc x) → Fz st e (enc y) → cmpV o st d e = some c) : Tv cf (.cmp o a b) env st c := by
  obtain ⟨v, e1, h1⟩ := ha
  obtain ⟨w, e2, h2⟩ := hb
  refine ⟨.v (.bool c), ?_, rfl⟩
  rw [evX_cmp, e1, R.bind_ok, e2, R.bind_ok]
  unfold cmpR
  rw [h _ _ h1 h2]
theorem tv_lt {a b : E} {x y : Int} (ha : Vv cf a env st x) (hb : Vv cf b env st y) : Tv cf (.cmp .lt a b) env st (decide (x < y)) :=
  cmp_of ha hb fun d e h1 h2 => by rw [h1.ns, h2.ns]; rfl
theorem tv_le {a b : E} {x y : Int} (ha : Vv cf a env st x) (hb : Vv cf b env st y) : Tv cf (.cmp .le a b) env st (decide (x ≤ y)) :=
  cmp_of ha hb fun d e h1 h2 => by rw [h1.ns, h2.ns]; rfl
theorem tv_gt {a b : E} {x y : Int} (ha : Vv cf a env st x) (hb : Vv cf b env st y) : Tv cf (.cmp .gt a b) env st (decide (y < x)) :=
  cmp_of ha hb fun d e h1 h2 => by rw [h1.ns, h2.ns]; rfl
theorem tv_ge {a b : E} {x y : Int} (ha : Vv cf a env st x) (hb : Vv cf b env st y) : Tv cf (.cmp .ge a b) env st (decide (y ≤ x)) :=
  cmp_of ha hb fun d e h1 h2 => by rw [h1.ns, h2.ns]; rfl
def Tx.lt (a b : Tx) : Bool := ltS a.str b.str
theorem tv_get {a b : E} {x y : Tx} (ha : Vv cf a env st x) (hb : Vv cf b env st y) : Tv cf (.cmp .ge a b) env st (!x.lt y) :=
  cmp_of ha hb fun d e h1 h2 => by rw [h1.ns, h2.ns]; rfl
section
variable [DecidableEq α] [Lay α] {n : Nat} [EqE α n]
theorem tv_eq {a b : E} {x y : α} (ha : Vv cf a env st x) (hb : Vv cf b env st y) (hn : n ≤ 64 := by decide) : Tv cf (.cmp .eq a b) env st (decide (x = y)) :=
  cmp_of ha hb fun d e h1 h2 => by
    unfold cmpV
    dsimp only
    rw [h1.frz (Enc.nr x), h2.frz (Enc.nr y)]
    dsimp only
    rw [shp_of x hn, shp_of y hn, EqE.eq]
    rfl
theorem tv_ne {a b : E} {x y : α} (ha : Vv cf a env st x) (hb : Vv cf b env st y) (hn : n ≤ 64 := by decide) : Tv cf (.cmp .ne a b) env st (!decide (x = y)) :=
  cmp_of ha hb fun d e h1 h2 => by
    unfold cmpV
    dsimp only
    rw [h1.frz (Enc.nr x), h2.frz (Enc.nr y)]
    dsimp only
    rw [shp_of x hn, shp_of y hn, EqE.eq]
    rfl
theorem any_enc {k : Nat} [EqE α k] (l : List α) (x : α) : ((l.map enc).any fun z => eqD z (enc x)) = decide (x ∈ l) := by
  rw [List.any_map]
  have : ((fun z => eqD z (enc x)) ∘ (enc : α → D)) = fun z : α => decide (z = x) := by
    funext z
    exact EqE.eq z x
  rw [this, Bool.eq_iff_iff, List.any_eq_true]
  simp
theorem inD_ref (k : Nat) (d : D) : inD st d (.ref k) = (match st[k]?, d with
      | some (.lst _), _ => (match frz st d, frz st (.ref k) with
        | some d, some (.list ds) => if d.shp && (D.list ds).shp then some (ds.any fun z => eqD z d) else Option.none
        | _, _ => Option.none)
      | _, _ => Option.none) := rfl
theorem inD_list {l : List α} {x : α} {d e : D} (h1 : Fz st d (enc x)) (h2 : Fz st e (enc l)) (hn : n ≤ 62) : inD st d e = some (decide (x ∈ l)) := by
  have fin : (match frz st d, frz st e with
    | some d, some (.list ds) => if d.shp && (D.list ds).shp then some (ds.any fun z => eqD z d) else Option.none
    | _, _ => Option.none) = some (decide (x ∈ l)) := by
    rw [h1.frz (Enc.nr x), h2.frz (Enc.nr l)]
    show (if (enc x).shp && (enc l).shp then some ((l.map enc).any fun z => eqD z (enc x)) else Option.none) = _
    rw [shp_of x (by omega), shp_of l (by omega), any_enc]
    rfl
  rcases h2 with h2 | ⟨k, ds, h2, h3, h4⟩
  · rw [h2] at fin ⊢
    exact fin
  · subst h2
    rw [inD_ref, h3]
    exact fin
theorem tv_in {a b : E} {x : α} {l : List α} (ha : Vv cf a env st x) (hb : Vv cf b env st l) (hn : n ≤ 62 := by decide) : Tv cf (.cmp .isin a b) env st (decide (x ∈ l)) :=
  cmp_of ha hb fun d e h1 h2 => inD_list h1 h2 hn
/-- a tuple of some things of one kind -/
theorem inD_tup {k : Nat} [EqE α k] [Fl α] {ds : List D} {l : List α} {x : α} {d : D} (h1 : Fz st d (enc x)) (h2 : ds = l.map enc) : inD st d (.tup ds) = some (decide (x ∈ l)) := by
  have hd : d = enc x := by
    rcases h1 with h | ⟨_, es, _, _, e⟩
    · exact h
    · have := Fl.fl x; rw [e] at this; cases this
  subst h2
  rw [hd]
  have : (l.map (enc : α → D)).all flatD = true := by
    rw [List.all_map, List.all_eq_true]
    exact fun y _ => Fl.fl y
  unfold inD
  dsimp only
  rw [Fl.fl, this, any_enc]
  rfl
end
theorem Fz.flat {d t : D} (h : Fz st d t) (hf : flatD d = true) : d = t := by
  rcases h with h | ⟨_, _, h, _, _⟩
  · exact h
  · rw [h] at hf; cases hf
/-- `in` a tuple that is written out -/
theorem tv_intup [DecidableEq α] [Lay α] {n : Nat} [EqE α n] [Fl α] {a b : E} {x : α} {ds : List D} (l : List α) (ha : Vv cf a env st x) (hb : ∃ w, evX cf b env st = .ok w st ∧ w.d = .tup ds) (hl : ds = l.map enc) : Tv cf (.cmp .isin a b) env st (decide (x ∈ l)) := by
  obtain ⟨v, e1, h1⟩ := ha
  obtain ⟨w, e2, h2⟩ := hb
  refine ⟨.v (.bool (decide (x ∈ l))), ?_, rfl⟩
  rw [evX_cmp, e1, R.bind_ok, e2, R.bind_ok, h2]
  unfold cmpR cmpV
  dsimp only
  rw [inD_tup h1 hl]
def Tx.has (a b : Tx) : Bool := strIn b.str a.str
theorem tv_intx {a b : E} {x y : Tx} (ha : Vv cf a env st x) (hb : Vv cf b env st y) : Tv cf (.cmp .isin a b) env st (y.has x) :=
  cmp_of ha hb fun d e h1 h2 => by rw [h1.ns, h2.ns]; rfl
/-! chains of two -/
/-! ### and, or, not, if -/
theorem tv_and {a b : E} {x y : Bool} (ha : Vv cf a env st x) (hb : x = true → Vv cf b env st y) : Tv cf (.land a b) env st (x && y) := by
  obtain ⟨v, e1, h1⟩ := ha.t
  cases x with
  | false =>
    refine ⟨.v (.bool false), ?_, rfl⟩
    rw [evX_land, e1, R.bind_ok]
    cases v with
    | v d =>
      have : d = .bool false := h1
      subst this; rfl
    | new ds => cases h1
  | true =>
    obtain ⟨w, e2, h2⟩ := (hb rfl).t
    refine ⟨w, ?_, h2⟩
    rw [evX_land, e1, R.bind_ok]
    cases v with
    | v d =>
      have : d = .bool true := h1
      subst this
      rw [landR_b, if_pos rfl, e2]
    | new ds => cases h1
theorem tv_or {a b : E} {x y : Bool} (ha : Vv cf a env st x) (hb : x = false → Vv cf b env st y) : Tv cf (.lor a b) env st (x || y) := by
  obtain ⟨v, e1, h1⟩ := ha.t
  cases x with
  | true =>
    refine ⟨.v (.bool true), ?_, rfl⟩
    rw [evX_lor, e1, R.bind_ok]
    cases v with
    | v d =>
      have : d = .bool true := h1
      subst this; rfl
    | new ds => cases h1
  | false =>
    obtain ⟨w, e2, h2⟩ := (hb rfl).t
    refine ⟨w, ?_, h2⟩
    rw [evX_lor, e1, R.bind_ok]
    cases v with
    | v d =>
      have : d = .bool false := h1
      subst this
      rw [lorR_b, if_neg (by decide), e2]
    | new ds => cases h1
theorem bool_of {e : E} {x : Bool} (h : Vv cf e env st x) : evX cf e env st = .ok (.v (.bool x)) st := by
  obtain ⟨v, e1, h1⟩ := h.t
  cases v with
  | v d =>
    have : d = .bool x := h1
    subst this; exact e1
  | new ds => cases h1
theorem tv_not {a : E} {x : Bool} (ha : Vv cf a env st x) : Tv cf (.lnot a) env st (!x) :=
  ⟨.v (.bool (!x)), by rw [evX_lnot, bool_of ha, R.bind_ok]; rfl, rfl⟩
/-! ### lists and tuples written out -/
theorem as_nil : As cf .nil env st [] := ⟨evXs_nil, rfl⟩
theorem as_cons {e : E} {es : Es} {x : α} {ts : List D} (h : Tv cf e env st x) (h2 : As cf es env st ts) : As cf (.cons e es) env st (enc x :: ts) := by
  obtain ⟨w, e1, h1⟩ := h
  refine ⟨by rw [evXs_cons, e1, R.bind_ok, h2.1, R.bind_ok, h1], ?_⟩
  rw [norefs_cons, Enc.nr x, h2.2]; rfl
theorem nv_list {es : Es} (l : List α) (h : As cf es env st (l.map enc)) (hl : l.length ≤ 1000 := by exact Nat.le_of_ble_eq_true rfl) : Nv cf (.list es) env st l := by
  unfold Nv
  have hs : sizeLine = 16777216 := sizeLine_eq
  rw [evX_list, h.1, R.bind_ok, if_pos (by rw [List.length_map]; omega)]
theorem tup_ev {es : Es} {ts : List D} (h : As cf es env st ts) (hl : ts.length ≤ 1000) : evX cf (.tup es) env st = .ok (.v (.tup ts)) st := by
  have hs : sizeLine = 16777216 := sizeLine_eq
  rw [evX_tup, h.1, R.bind_ok, if_pos (by omega)]
theorem tv_tup {es : Es} {ts : List D} {x : α} (h : As cf es env st ts) (hx : enc x = .tup ts) (hl : ts.length ≤ 1000 := by exact Nat.le_of_ble_eq_true rfl) : Tv cf (.tup es) env st x :=
  ⟨_, tup_ev h hl, hx.symm⟩
/-! ### what is walked -/
theorem iv_seq [Lay α] {e : E} {l : List α} (h : Vv cf e env st l) : Iv cf (.seq e) env st l := by
  obtain ⟨w, e1, h1⟩ := h
  refine ⟨w.d, ?_, ?_⟩
  · rw [evI_seq, e1, R.bind_ok]
    unfold itR
    have : items st w.d = some (l.map enc) := by
      exact h1.rec' (P := fun d => items st d = some (l.map enc)) rfl fun n hn => by
        show seqOf st (.ref n) = _
        rw [seqOf_ref, hn]
    rw [this]
  · exact h1.rec' (P := fun d => stands d (l.map enc) st = true) rfl fun n hn => stands_ref hn (lays l)
def chars (t : Tx) : List Tx := t.cs.map fun c => ⟨[c]⟩
def rng (n : Int) : List Int := rangeI 0 n.toNat
def rng2 (a b : Int) : List Int := rangeI a (b - a).toNat
def RgOk (n : Int) : Prop := n ≤ 16777216 ∧ -(2 ^ 62) ≤ n
def Rg2Ok (i j : Int) : Prop := j - i ≤ 16777216 ∧ -(2 ^ 62) ≤ i ∧ i < 2 ^ 62 ∧ -(2 ^ 62) ≤ j ∧ j < 2 ^ 62
theorem int_v {e : E} {x : Int} (h : Vv cf e env st x) : evX cf e env st = .ok (.v (.int x)) st := by
  obtain ⟨v, e1, h1⟩ := h.t
  cases v with
  | v d =>
    have : d = .int x := h1
    subst this; exact e1
  | new ds => cases h1
theorem iv_range2 {e f : E} {i j : Int} (h : Vv cf e env st i) (h2 : Vv cf f env st j) (hn : Rg2Ok i j) : Iv cf (.range2 e f) env st (rng2 i j) := by
  have hs : sizeLine = 16777216 := sizeLine_eq
  refine ⟨.none, ?_, rfl⟩
  rw [evI_range2, int_v h, R.bind_ok, int_v h2, R.bind_ok]
  dsimp only
  rw [if_pos ⟨by rw [hs]; exact hn.1, hn.2⟩]
  rfl
/-! ### comprehensions -/
section
variable {elt cond : E} {tg : Tg} {it : It} {own : List Nat} {l : List α}
theorem nv_comp (p : α → Bool) (g : α → β) (envOf : α → MP.Env) (hi : Iv cf it env st l) (hz : Sz l) (hb : ∀ x, bindT (wipeE env own) tg (enc x) = some (envOf x))
    (h : ∀ x ∈ l, Vv cf cond (envOf x) st (p x) ∧ (p x = true → Tv cf elt (envOf x) st (g x))) : Nv cf (.comp elt tg it cond own) env st ((l.filter p).map g) := by
  obtain ⟨src, e1, hs⟩ := hi
  unfold Nv
  rw [evX_comp, e1, R.bind_ok]
  dsimp only
  rw [compR_filter p g (e2 := enc) hs hz.le fun x hx => ?_]
  obtain ⟨h1, h2⟩ := h x hx
  unfold turnC
  rw [hb x]
  dsimp only
  rw [bool_of h1, R.bind_ok]
  cases q : p x with
  | false => rfl
  | true =>
    obtain ⟨w, e2, q2⟩ := h2 q
    dsimp only
    rw [e2, R.bind_ok, q2, if_pos rfl]
theorem nv_map (g : α → β) (envOf : α → MP.Env) (hi : Iv cf it env st l) (hz : Sz l) (hb : ∀ x, bindT (wipeE env own) tg (enc x) = some (envOf x))
    (h : ∀ x ∈ l, Tv cf elt (envOf x) st (g x)) : Nv cf (.comp elt tg it (.lit (.bool true)) own) env st (l.map g) := by
  have := nv_comp (cf := cf) (elt := elt) (cond := .lit (.bool true)) (fun _ => true) g envOf hi hz hb fun x hx => ⟨(tv_lit rfl : Tv cf (.lit (.bool true)) (envOf x) st true).v, fun _ => h x hx⟩
  rw [show l.filter (fun _ => true) = l from List.filter_eq_self.mpr fun _ _ => rfl] at this
  exact this
theorem nv_filter {i : Nat} (p : α → Bool) (envOf : α → MP.Env) (hi : Iv cf it env st l) (hz : Sz l) (hb : ∀ x, bindT (wipeE env own) (.one i) (enc x) = some (envOf x)) (he : ∀ x, (envOf x)[i]? = some (some (enc x)))
    (h : ∀ x ∈ l, Vv cf cond (envOf x) st (p x)) : Nv cf (.comp (.var i) (.one i) it cond own) env st (l.filter p) := by
  have := nv_comp (cf := cf) (elt := .var i) (cond := cond) p id envOf hi hz hb fun x hx => ⟨h x hx, fun _ => tv_var (he x)⟩
  simpa using this
end
/-! ### built-in functions -/
section
variable {f : BI} {a b : E}
theorem bi1_of {x : α} {z : β} (ha : Vv cf a env st x) (h : ∀ d, Fz st d (enc x) → ∃ w, biV f [d] st = .ok w st ∧ w.d = enc z) : Tv cf (.bi f (.cons a .nil)) env st z := by
  obtain ⟨v, e1, h1⟩ := ha
  obtain ⟨w, e2, h2⟩ := h _ h1
  exact ⟨w, by rw [evX_bi, evXs_cons, e1, R.bind_ok, evXs_nil, R.bind_ok, R.bind_ok, e2], h2⟩
theorem bi1n_of {x : α} {z : List β} (ha : Vv cf a env st x) (h : ∀ d, Fz st d (enc x) → biV f [d] st = .ok (.new (z.map enc)) st) : Nv cf (.bi f (.cons a .nil)) env st z := by
  obtain ⟨v, e1, h1⟩ := ha
  unfold Nv
  rw [evX_bi, evXs_cons, e1, R.bind_ok, evXs_nil, R.bind_ok, R.bind_ok, h _ h1]
theorem tv_len {l : List α} (ha : Vv cf a env st l) : Tv cf (.bi .len (.cons a .nil)) env st (len l) :=
  bi1_of ha fun d hd => ⟨.v (.int l.length), by
    exact hd.rec' (P := fun d => biV .len [d] st = R.ok (.v (.int l.length)) st) (len_eL (f := enc)) fun n hn => by
      rw [bi_len, len_ref hn, List.length_map], rfl⟩
theorem tv_lens {l : Sc} (ha : Vv cf a env st l) : Tv cf (.bi .len (.cons a .nil)) env st (len l.ns) :=
  bi1_of ha fun d hd => ⟨.v (.int l.ns.length), by rw [hd.ns]; exact len_scr _, rfl⟩
theorem tv_lent {t : Tx} (ha : Vv cf a env st t) (hz : Sz t.cs) : Tv cf (.bi .len (.cons a .nil)) env st t.len :=
  bi1_of ha fun d hd => ⟨.v (.int t.cs.length), by
    rw [hd.ns]
    have := len_str (st := st) (z := t.str) (by rw [Tx.length]; exact hz.le)
    rw [Tx.length] at this
    exact this, rfl⟩
theorem ints_of {l : List Int} {d : D} (h : Fz st d (enc l)) (g : List Int → R Val) : onInts d st g = g l := by
  unfold onInts
  rw [h.list]
  dsimp only
  have : (l.map (enc : Int → D)) = l.map D.int := rfl
  rw [this, intsOf_map]
theorem bools_of {l : List Bool} {d : D} (h : Fz st d (enc l)) (g : List Bool → R Val) : onBools d st g = g l := by
  unfold onBools
  rw [h.list]
  dsimp only
  have : (l.map (enc : Bool → D)) = l.map D.bool := rfl
  rw [this, boolsOf_map]
theorem tv_sum {l : List Int} (ha : Vv cf a env st l) : Tv cf (.bi .sum (.cons a .nil)) env st l.sum :=
  bi1_of ha fun d hd => ⟨.v (.int l.sum), by show onInts d st _ = _; rw [ints_of hd], rfl⟩
theorem tv_all {l : List Bool} (ha : Vv cf a env st l) : Tv cf (.bi .all (.cons a .nil)) env st (l.all id) :=
  bi1_of ha fun d hd => ⟨.v (.bool (l.all id)), by show onBools d st _ = _; rw [bools_of hd], rfl⟩
theorem tv_allm {γ : Type} {l : List γ} {p : γ → Bool} (ha : Vv cf a env st (l.map p)) : Tv cf (.bi .all (.cons a .nil)) env st (l.all p) := by
  have := tv_all ha
  rw [List.all_map] at this
  exact this
def max2 (x y : Int) : Int := if y > x then y else x
theorem tv_isinst {T : String} {x : α} {c : Bool} (ha : Vv cf a env st x) (h : ∀ d, Fz st d (enc x) → ∃ t, tyOf st d = some t ∧ isinstT T t = c) : Tv cf (.bi (.isinst T) (.cons a .nil)) env st c :=
  bi1_of ha fun d hd => ⟨.v (.bool c), by
    obtain ⟨t, h1, h2⟩ := h d hd
    show (match tyOf st d with
      | some t => R.ok (Val.v (.bool (isinstT T t))) st
      | Option.none => R.stuck) = _
    rw [h1]
    dsimp only
    rw [h2], rfl⟩
theorem ty_list {l : List α} (d : D) (h : Fz st d (enc l)) : tyOf st d = some "list" :=
  h.rec' (P := fun d => tyOf st d = some "list") rfl fun n hn => by
    show (match st[n]? with
      | some (.lst _) => some "list"
      | _ => Option.none) = _
    rw [hn]
end
/-! ### methods that change nothing -/
/-! ### calls -/
theorem tv_call {f : Nat} {es : Es} {ts : List D} {x : α} (h : As cf es env st ts) (hf : Okp cf f ts x) : Tv cf (.call f es) env st x := by
  obtain ⟨d, st', e, hd⟩ := hf
  refine ⟨.v (enc x), ?_, rfl⟩
  rw [evX_call, h.1, R.bind_ok]
  unfold callP
  rw [frzs_of h.2]
  dsimp only
  rw [e]
  dsimp only
  rw [h.2, Bool.true_or, Bool.true_or, if_pos rfl, hd]
theorem Okn.p {f : Nat} {ts : List D} {x : α} (h : Okn cf f ts x) : Okp cf f ts x := by
  obtain ⟨d, st', e, hd, _, _⟩ := h
  exact ⟨d, st', e, hd⟩
end MP

/-! The typed layer: statements. -/
namespace MP
open PySem PySem.Spec PyProof.Rows L2
open Enc (enc)
variable {α β γ δ σ : Type} [Enc α] [Enc β] [Enc γ] [Enc δ] {cf : CF} {env : MP.Env} {st : Sto}
def Wp (cf : CF) (ss : List S) (env : MP.Env) (st : Sto) (Q : MP.X → Prop) : Prop := Q (exL cf ss env st)
/-- a def's end -/
def QR (x : α) (r : MP.X) : Prop := ∃ d st', endR r = .ok d st' ∧ frz st' d = some (enc x)
def QE (x : Except Str α) (r : MP.X) : Prop := match x with
  | .ok x => QR x r
  | .error c => ∃ st', endR r = .err c st'
/-- a block's end: it goes on, with some states -/
def QB (P : σ → MP.Env → Sto → Prop) (s : σ) (r : MP.X) : Prop := ∃ env' st', r = .nx env' st' ∧ P s env' st'
/-- a turn's end -/
def QT (trim : Bool) (n : Nat) (tmp : List Nat) (P : σ → MP.Env → Sto → Prop) (s : σ) (r : MP.X) : Prop := ∃ env' st' env2 st2, r = .nx env' st' ∧ fin trim n tmp env' st' = some (env2, st2) ∧ P s env2 st2
/-- what a block comes to: a value handed back, or a state -/
inductive Out (ρ σ : Type) where
  | rt (x : ρ)
  | nx (s : σ)
/-- a value handed back; or a refusal -/
def RV (x : α) (r : MP.X) : Prop := ∃ d st', r = .rt d st' ∧ frz st' d = some (enc x)
def QO {ρ : Type} (R : ρ → MP.X → Prop) (P : σ → MP.Env → Sto → Prop) (o : Out ρ σ) (r : MP.X) : Prop := match o with
  | .rt x => R x r
  | .nx s => QB P s r
def QOT {ρ : Type} (R : ρ → MP.X → Prop) (trim : Bool) (n : Nat) (tmp : List Nat) (P : σ → MP.Env → Sto → Prop) (o : Out ρ σ) (r : MP.X) : Prop := match o with
  | .rt x => R x r
  | .nx s => QT trim n tmp P s r
/-- what ends a def ends a block -/
def Stop (r : MP.X) : Prop := ∀ f, sqX r f = r
theorem rv_q {x : α} {r : MP.X} (h : RV x r) : Stop r ∧ QR x r := by
  obtain ⟨d, st', rfl, h⟩ := h
  exact ⟨fun _ => rfl, d, st', rfl, h⟩
theorem rv_s {x : α} {r : MP.X} (h : RV x r) : Stop r := (rv_q h).1
theorem okp_of {T : Nat → Option Def} {k f : Nat} {d : Def} {ts : List D} {x : α} (h : T f = some d) (hl : ts.length = d.pars.length) (hw : Wp (run T k) d.body (ts.map some ++ List.replicate (d.locs.length - ts.length) Option.none) [] (QR x)) : Okp (run T (k + 1)) f ts x := by
  obtain ⟨d', st', e, hd⟩ := hw
  exact ⟨d', st', by rw [run_at h hl]; exact e, hd⟩
theorem oke_of {T : Nat → Option Def} {k f : Nat} {d : Def} {ts : List D} {x : Except Str α} (h : T f = some d) (hl : ts.length = d.pars.length) (hw : Wp (run T k) d.body (ts.map some ++ List.replicate (d.locs.length - ts.length) Option.none) [] (QE x)) : Oke (run T (k + 1)) f ts x := by
  cases x with
  | ok x => exact okp_of h hl hw
  | error c =>
    obtain ⟨st', e⟩ := hw
    exact ⟨st', by rw [run_at h hl]; exact e⟩
section
variable {Q : MP.X → Prop} {rest : List S}
theorem wp_nil (h : Q (.nx env st)) : Wp cf [] env st Q := by
  show Q (exL cf [] env st)
  rw [exL_nil]; exact h
theorem wp_step {s : S} {env' : MP.Env} {st' : Sto} (h : exS cf s env st = .nx env' st') (hr : Wp cf rest env' st' Q) : Wp cf (s :: rest) env st Q := by
  show Q (exL cf (s :: rest) env st)
  rw [exL_cons, h, sqX_nx]; exact hr
theorem wp_set {i : Nat} {e : E} {x : α} (h : Tv cf e env st x) (hr : Wp cf rest (env.set i (some (enc x))) st Q) : Wp cf (.set i e :: rest) env st Q := by
  obtain ⟨w, e1, h1⟩ := h
  refine wp_step ?_ hr
  rw [exS_set, evE_eq, e1, R.bind_ok, R.toX_ok, h1]
theorem wp_cell {i : Nat} {e : E} {l : List α} (h : Nv cf e env st l) (hr : Wp cf rest (env.set i (some (.ref st.length))) (st ++ [.lst (l.map enc)]) Q) : Wp cf (.set i (.cell e) :: rest) env st Q := by
  refine wp_step ?_ hr
  have h : evX cf e env st = .ok (.new (l.map enc)) st := h
  rw [exS_set, evE_eq, evX_cell, h, R.bind_ok, cellR_new, R.bind_ok, R.toX_ok]
  rfl
theorem wp_expr {e : E} {x : α} (h : Tv cf e env st x) (hr : Wp cf rest env st Q) : Wp cf (.expr e :: rest) env st Q := by
  obtain ⟨w, e1, h1⟩ := h
  refine wp_step ?_ hr
  rw [exS_expr, evE_eq, e1, R.bind_ok, R.toX_ok]
/-! a call that may raise -/
theorem callP_err {f : Nat} {es : Es} {ts : List D} {c : Str} (h : As cf es env st ts) (hf : ∃ st', cf f ts [] = .err c st') : evX cf (.call f es) env st = .err c st := by
  obtain ⟨st', e⟩ := hf
  rw [evX_call, h.1, R.bind_ok]
  unfold callP
  rw [frzs_of h.2]
  dsimp only
  rw [e]
theorem wp_er {s : S} {c : Str} (h : ∃ env' st', exS cf s env st = .err c env' st') (hq : ∀ env' st', Q (.err c env' st')) : Wp cf (s :: rest) env st Q := by
  obtain ⟨env', st', e⟩ := h
  show Q (exL cf (s :: rest) env st)
  rw [exL_cons, e, sqX_err]; exact hq _ _
def els {α ρ : Type} (m : Except Str α) (h : Str → ρ) (f : α → ρ) : ρ := match m with
  | .ok x => f x
  | .error c => h c
/-- a call for its refusal -/
theorem wp_ask {ρ : Type} (R : ρ → MP.X → Prop) {f : Nat} {es : Es} {ts : List D} {m : Except Str α} {hh : Str → ρ} {v : α → ρ} (hR : ∀ c env' st', R (hh c) (.err c env' st')) (h : As cf es env st ts) (hf : Oke cf f ts m) (hr : ∀ x, m = .ok x → Wp cf rest env st (R (v x))) :
    Wp cf (.expr (.call f es) :: rest) env st (R (els m hh v)) := by
  cases m with
  | ok x => exact wp_expr (tv_call h hf) (hr x rfl)
  | error c =>
    refine wp_er ⟨env, st, ?_⟩ fun env' st' => hR c env' st'
    rw [exS_expr, evE_eq, callP_err h hf]; rfl
theorem QE_er {c : Str} {env' : MP.Env} {st' : Sto} : QE (α := α) (.error c) (.err c env' st') := ⟨st', rfl⟩
theorem wp_raise {c : Str} (h : Q (.err c env st)) : Wp cf (.raise c :: rest) env st Q := by
  show Q (exL cf (.raise c :: rest) env st)
  rw [exL_cons, exS_raise]; exact h
/-- a call that is known to be let by -/
def isOk {α : Type} (m : Except Str α) : Prop := ∃ x, m = .ok x
def okv {α : Type} [Inhabited α] (m : Except Str α) : α := match m with
  | .ok x => x
  | .error _ => default
theorem oke_ok [Inhabited α] {f : Nat} {ts : List D} {m : Except Str α} (h : Oke cf f ts m) (hm : isOk m) : Okp cf f ts (okv m) := by
  obtain ⟨x, rfl⟩ := hm
  exact h
/-! returns -/
theorem ret_ev {e : E} {x : α} (h : Zv cf e env st x) : ∃ d, exL cf (.ret e :: rest) env st = .rt d st ∧ frz st d = some (enc x) := by
  obtain ⟨w, e1, h1⟩ := h
  exact ⟨w.d, by rw [exL_cons, exS_ret, evE_eq, e1]; rfl, h1⟩
theorem wp_ret {e : E} {x : α} (h : Zv cf e env st x) : Wp cf (.ret e :: rest) env st (QR x) := by
  obtain ⟨d, e1, h1⟩ := ret_ev (rest := rest) h
  exact ⟨d, st, by rw [e1]; rfl, h1⟩
theorem wp_rete {e : E} {x : α} (h : Zv cf e env st x) : Wp cf (.ret e :: rest) env st (QE (.ok x)) := wp_ret h
theorem wp_rv {e : E} {x : α} (h : Zv cf e env st x) : Wp cf (.ret e :: rest) env st (RV x) := by
  obtain ⟨d, e1, h1⟩ := ret_ev (rest := rest) h
  exact ⟨d, st, e1, h1⟩
theorem wp_qot {ρ : Type} {R : ρ → MP.X → Prop} {trim : Bool} {n : Nat} {tmp : List Nat} {P : σ → MP.Env → Sto → Prop} {ss : List S} {x : ρ} (h : Wp cf ss env st (R x)) : Wp cf ss env st (QOT R trim n tmp P (.rt x)) := h
theorem wp_end : Wp cf [] env st (QR ()) := by
  refine ⟨.none, st, ?_, rfl⟩
  show endR (exL cf [] env st) = _
  rw [exL_nil]; rfl
theorem wp_ende : Wp cf [] env st (QE (.ok ())) := wp_end
/-! branches -/
theorem exL_app (a b : List S) : exL cf (a ++ b) env st = sqX (exL cf a env st) fun env st => exL cf b env st := by
  induction a generalizing env st with
  | nil => rw [List.nil_append, exL_nil, sqX_nx]
  | cons s r ih =>
    rw [List.cons_append, exL_cons, exL_cons]
    cases exS cf s env st with
    | nx env' st' => rw [sqX_nx, sqX_nx, ih]
    | rt d st' => rfl
    | err c env' st' => rfl
    | stuck => rfl
theorem exS_ife_b {c : E} {a b : List S} {x : Bool} (hc : Vv cf c env st x) : exS cf (.ife c a b) env st = if x = true then exL cf a env st else exL cf b env st := by
  rw [exS_ife, evE_eq, bool_of hc, R.bind_ok, R.toX_ok]
  exact ifR_b ..
theorem wp_if {ρ : Type} (R : ρ → MP.X → Prop) {c : E} {a b : List S} {x : Bool} {u v : ρ} (hc : Vv cf c env st x) (ha : x = true → Wp cf (a ++ rest) env st (R u)) (hb : x = false → Wp cf (b ++ rest) env st (R v)) :
    Wp cf (.ife c a b :: rest) env st (R (if x = true then u else v)) := by
  have e : exL cf (.ife c a b :: rest) env st = if x = true then exL cf (a ++ rest) env st else exL cf (b ++ rest) env st := by
    rw [exL_cons, exS_ife_b hc, exL_app, exL_app]
    cases x <;> rfl
  show R _ (exL cf (.ife c a b :: rest) env st)
  rw [e]
  cases x with
  | true => exact ha rfl
  | false => exact hb rfl
/-- both branches go on -/
theorem wp_join {c : E} {a b : List S} {x : Bool} {u v : σ} (P : σ → MP.Env → Sto → Prop) (hc : Vv cf c env st x) (ha : x = true → Wp cf a env st (QB P u)) (hb : x = false → Wp cf b env st (QB P v))
    (hr : ∀ env' st', P (if x = true then u else v) env' st' → Wp cf rest env' st' Q) : Wp cf (.ife c a b :: rest) env st Q := by
  have key : ∃ env' st', exS cf (.ife c a b) env st = .nx env' st' ∧ P (if x = true then u else v) env' st' := by
    rw [exS_ife_b hc]
    cases x with
    | true => exact ha rfl
    | false => exact hb rfl
  obtain ⟨env', st', e, hp⟩ := key
  exact wp_step e (hr _ _ hp)
/-- a block that may hand back or go on, then the rest -/
def Out.then {ρ σ τ : Type} (o : Out ρ σ) (f : ρ → τ) (g : σ → τ) : τ := match o with
  | .rt x => f x
  | .nx s => g s
/-! a list that is changed -/
theorem exS_expr_ok {e : E} {w : Val} {st' : Sto} (h : evX cf e env st = .ok w st') : exS cf (.expr e) env st = .nx env st' := by
  rw [exS_expr, evE_eq, h, R.bind_ok, R.toX_ok]
theorem wp_append {i n : Nat} {e : E} {l : List α} {x : α} (hv : env[i]? = some (some (.ref n))) (hn : st[n]? = some (.lst (l.map enc))) (h : Tv cf e env st x) (hz : Sz1 l) (hr : Wp cf rest env (st.set n (.lst ((l ++ [x]).map enc))) Q) :
    Wp cf (.expr (.mt .append (.var i) (.cons e .nil)) :: rest) env st Q := by
  obtain ⟨w, e1, h1⟩ := h
  refine wp_step (exS_expr_ok (w := .v .none) (st' := st.set n (.lst ((l ++ [x]).map enc))) ?_) hr
  have hs : sizeLine = 16777216 := sizeLine_eq
  rw [evX_mt, evX_var, hv]
  dsimp only
  rw [R.bind_ok, if_pos (by show (listOf st (.ref n)).isSome = true; rw [listOf_ref, hn]; rfl), evXs_cons, e1, R.bind_ok, evXs_nil, R.bind_ok, R.bind_ok]
  show mtV .append (.ref n) [w.d] st = _
  rw [mt_append, hn]
  dsimp only
  rw [if_pos (by rw [List.length_map, hs]; exact hz), h1, List.map_append]
  rfl
theorem wp_extend {i n : Nat} {e : E} {l m : List α} (hv : env[i]? = some (some (.ref n))) (hn : st[n]? = some (.lst (l.map enc))) (h : Vv cf e env st m) (hz : Sz (l ++ m)) (hr : Wp cf rest env (st.set n (.lst ((l ++ m).map enc))) Q) :
    Wp cf (.expr (.mt .extend (.var i) (.cons e .nil)) :: rest) env st Q := by
  obtain ⟨w, e1, h1⟩ := h
  refine wp_step (exS_expr_ok (w := .v .none) (st' := st.set n (.lst ((l ++ m).map enc))) ?_) hr
  have hz' := hz.le
  rw [List.length_append] at hz'
  rw [evX_mt, evX_var, hv]
  dsimp only
  rw [R.bind_ok, if_pos (by show (listOf st (.ref n)).isSome = true; rw [listOf_ref, hn]; rfl), evXs_cons, e1, R.bind_ok, evXs_nil, R.bind_ok, R.bind_ok]
  show (match st[n]? with
    | some (.lst xs) => (match listOf st w.d with
      | some ys => if xs.length + ys.length ≤ sizeLine then R.ok (Val.v .none) (st.set n (.lst (xs ++ ys))) else .stuck
      | Option.none => .stuck)
    | _ => R.stuck) = _
  rw [hn, h1.list]
  dsimp only
  rw [List.length_map, List.length_map, if_pos hz', List.map_append]
def setI {α : Type} (l : List α) (i : Int) (x : α) : List α := match ixN l.length i with
  | some j => l.set j x
  | Option.none => l
end
/-! ### loops -/
/-- what is asked of each turn -/
def foldS {α σ : Type} (safe : σ → α → Prop) (f : σ → α → σ) : List α → σ → Prop
  | [], _ => True
  | x :: xs, s => safe s x ∧ foldS safe f xs (f s x)
theorem foldS_inv {α σ : Type} {safe : σ → α → Prop} {f : σ → α → σ} (I : σ → Prop) : ∀ {l : List α} {s : σ}, I s → (∀ x ∈ l, ∀ s, I s → safe s x ∧ I (f s x)) → foldS safe f l s
  | [], _, _, _ => trivial
  | x :: xs, s, hi, h => by
    obtain ⟨h1, h2⟩ := h x List.mem_cons_self s hi
    exact ⟨h1, foldS_inv I h2 fun y hy => h y (List.mem_cons_of_mem _ hy)⟩
section
variable {Q : MP.X → Prop} {rest : List S} {tg : Tg} {it : It} {body : List S} {tmp : List Nat} {trim : Bool} {l : List α}
theorem loop_fold {ok : Sto → Bool} {n : Nat} {bd : D → MP.Env → Sto → MP.X} (P : σ → MP.Env → Sto → Prop) (safe : σ → α → Prop) (f : σ → α → σ) (hok : ∀ s env st, P s env st → ok st = true) :
    ∀ {xs : List α} {s : σ} {env : MP.Env} {st : Sto}, P s env st → foldS safe f xs s → (∀ x ∈ xs, ∀ s env st, P s env st → safe s x → QT trim n tmp P (f s x) (bd (enc x) env st)) →
    ∃ env' st', loopF ok trim n tmp bd (xs.map enc) env st = .nx env' st' ∧ P (xs.foldl f s) env' st'
  | [], s, env, st, hp, _, _ => ⟨env, st, rfl, hp⟩
  | x :: xs, s, env, st, hp, hs, h => by
    obtain ⟨env1, st1, env2, st2, e1, e2, hp2⟩ := h x List.mem_cons_self s env st hp hs.1
    obtain ⟨env3, st3, e3, hp3⟩ := loop_fold P safe f hok hp2 hs.2 fun y hy => h y (List.mem_cons_of_mem _ hy)
    refine ⟨env3, st3, ?_, hp3⟩
    rw [List.map_cons]
    unfold loopF
    rw [e1]
    dsimp only
    rw [e2]
    dsimp only
    rw [if_pos (hok _ _ _ hp2)]
    exact e3
theorem for_ev {src : D} (e1 : evI cf it env st = .ok (src, l.map enc) st) (hs : stands src (l.map enc) st = true) : exS cf (.for_ tg it body tmp trim) env st = loopF (stands src (l.map enc)) trim st.length tmp (turnF cf tg body) (l.map enc) env st := by
  rw [exS_for, e1, R.toX_ok]
  dsimp only
  unfold forR
  rw [hs]
  rfl
/-- what is walked is no cell -/
def Iw (cf : CF) (it : It) (env : MP.Env) (st : Sto) (l : List α) : Prop := ∃ src, evI cf it env st = .ok (src, l.map enc) st ∧ ∀ st', stands src (l.map enc) st' = true
theorem iw_seq {e : E} {l : List α} (h : Tv cf e env st l) : Iw cf (.seq e) env st l := by
  obtain ⟨w, e1, h1⟩ := h
  refine ⟨enc l, ?_, fun _ => rfl⟩
  rw [evI_seq, e1, R.bind_ok, h1]
  rfl
theorem iw_range {e : E} {n : Int} (h : Vv cf e env st n) (hn : RgOk n) : Iw cf (.range1 e) env st (rng n) := by
  have hs : sizeLine = 16777216 := sizeLine_eq
  refine ⟨.none, ?_, fun _ => rfl⟩
  rw [evI_range1, int_v h, R.bind_ok]
  dsimp only
  rw [if_pos ⟨by rw [hs]; exact hn.1, hn.2⟩]
  rfl
theorem iw_range2 {e f : E} {i j : Int} (h : Vv cf e env st i) (h2 : Vv cf f env st j) (hn : Rg2Ok i j) : Iw cf (.range2 e f) env st (rng2 i j) := by
  have hs : sizeLine = 16777216 := sizeLine_eq
  refine ⟨.none, ?_, fun _ => rfl⟩
  rw [evI_range2, int_v h, R.bind_ok, int_v h2, R.bind_ok]
  dsimp only
  rw [if_pos ⟨by rw [hs]; exact hn.1, hn.2⟩]
  rfl
theorem wp_for {s : σ} (P : σ → MP.Env → Sto → Prop) (safe : σ → α → Prop) (f : σ → α → σ) (envOf : α → MP.Env → MP.Env) (hi : Iw cf it env st l) (h0 : P s env st) (hs : foldS safe f l s) (hbd : ∀ x env, bindT env tg (enc x) = some (envOf x env))
    (hb : ∀ x ∈ l, ∀ s env st', P s env st' → safe s x → Wp cf body (envOf x env) st' (QT trim st.length tmp P (f s x)))
    (hr : ∀ env' st', P (l.foldl f s) env' st' → Wp cf rest env' st' Q) : Wp cf (.for_ tg it body tmp trim :: rest) env st Q := by
  obtain ⟨src, e1, hst⟩ := hi
  obtain ⟨env', st', e, hp⟩ := loop_fold (trim := trim) (tmp := tmp) (ok := stands src (l.map enc)) (n := st.length) (bd := turnF cf tg body) P safe f (fun _ _ st _ => hst st) h0 hs fun x hx s env st hp hsafe => by
    have := hb x hx s env st hp hsafe
    unfold turnF
    rw [hbd x env]
    exact this
  exact wp_step ((for_ev e1 (hst st)).trans e) (hr _ _ hp)
/-- .. that may be left by a return -/
def foldO {α ρ σ : Type} (f : σ → α → Out ρ σ) : List α → σ → Out ρ σ
  | [], s => .nx s
  | x :: xs, s => match f s x with
    | .nx s' => foldO f xs s'
    | o => o
def foldOS {α ρ σ : Type} (safe : σ → α → Prop) (f : σ → α → Out ρ σ) : List α → σ → Prop
  | [], _ => True
  | x :: xs, s => safe s x ∧ (match f s x with
    | .nx s' => foldOS safe f xs s'
    | _ => True)
theorem loop_foldO {ρ : Type} {R0 : ρ → MP.X → Prop} {ok : Sto → Bool} {n : Nat} {bd : D → MP.Env → Sto → MP.X} (P : σ → MP.Env → Sto → Prop) (safe : σ → α → Prop) (f : σ → α → Out ρ σ) (hok : ∀ s env st, P s env st → ok st = true) (hs0 : ∀ y r, R0 y r → Stop r) :
    ∀ {xs : List α} {s : σ} {env : MP.Env} {st : Sto}, P s env st → foldOS safe f xs s → (∀ x ∈ xs, ∀ s env st, P s env st → safe s x → QOT R0 trim n tmp P (f s x) (bd (enc x) env st)) →
    QO R0 P (foldO f xs s) (loopF ok trim n tmp bd (xs.map enc) env st)
  | [], s, env, st, hp, _, _ => ⟨env, st, rfl, hp⟩
  | x :: xs, s, env, st, hp, hs, h => by
    have key := h x List.mem_cons_self s env st hp hs.1
    have hs2 := hs.2
    rw [List.map_cons]
    unfold loopF foldO
    cases q : f s x with
    | rt y =>
      rw [q] at key
      have key : R0 y (bd (enc x) env st) := key
      have h1 := hs0 y _ key
      generalize bd (enc x) env st = r at key h1 ⊢
      cases r with
      | nx env' st' => exact absurd (h1 fun _ _ => .stuck) (by intro e; cases e)
      | rt d st' => exact key
      | err c env' st' => exact key
      | stuck => exact key
    | nx s' =>
      rw [q] at key hs2
      obtain ⟨env1, st1, env2, st2, e1, e2, hp2⟩ := key
      rw [e1]
      dsimp only
      rw [e2]
      dsimp only
      rw [if_pos (hok _ _ _ hp2)]
      exact loop_foldO P safe f hok hs0 hp2 hs2 fun y hy => h y (List.mem_cons_of_mem _ hy)
theorem wp_forO {ρ τ : Type} (R0 : ρ → MP.X → Prop) (R : τ → MP.X → Prop) {s : σ} {u : ρ → τ} {g : σ → τ} (P : σ → MP.Env → Sto → Prop) (safe : σ → α → Prop) (f : σ → α → Out ρ σ) (envOf : α → MP.Env → MP.Env) (hi : Iw cf it env st l) (h0 : P s env st) (hs : foldOS safe f l s) (hbd : ∀ x env, bindT env tg (enc x) = some (envOf x env))
    (hs0 : ∀ y r, R0 y r → Stop r) (hf : ∀ y r, R0 y r → R (u y) r)
    (hb : ∀ x ∈ l, ∀ s env st', P s env st' → safe s x → Wp cf body (envOf x env) st' (QOT R0 trim st.length tmp P (f s x)))
    (hr : ∀ s' env' st', foldO f l s = .nx s' → P s' env' st' → Wp cf rest env' st' (R (g s'))) : Wp cf (.for_ tg it body tmp trim :: rest) env st (R ((foldO f l s).then u g)) := by
  obtain ⟨src, e1, hst⟩ := hi
  have key := loop_foldO (trim := trim) (tmp := tmp) (ok := stands src (l.map enc)) (n := st.length) (bd := turnF cf tg body) P safe f (fun _ _ st _ => hst st) hs0 h0 hs fun x hx s env st hp hsafe => by
    have := hb x hx s env st hp hsafe
    unfold turnF
    rw [hbd x env]
    exact this
  show R _ (exL cf (.for_ tg it body tmp trim :: rest) env st)
  rw [exL_cons, for_ev e1 (hst st)]
  generalize foldO f l s = o at key hr ⊢
  cases o with
  | rt y =>
    rw [hs0 y _ key]
    exact hf y _ key
  | nx s =>
    obtain ⟨env', st', e, q⟩ := key
    rw [e, sqX_nx]
    exact hr s env' st' rfl q
/-! while -/
def whl {σ : Type} (c : σ → Bool) (f : σ → σ) : Nat → σ → σ
  | 0, s => s
  | k + 1, s => if c s = true then whl c f k (f s) else s
def whS {σ : Type} (sc : σ → Prop) (c : σ → Bool) (sf : σ → Prop) (f : σ → σ) : Nat → σ → Prop
  | 0, _ => False
  | k + 1, s => sc s ∧ (c s = true → sf s ∧ whS sc c sf f k (f s))
/-- a while's turns are counted down -/
theorem whS_inv {σ : Type} {sc : σ → Prop} {c : σ → Bool} {sf : σ → Prop} {f : σ → σ} (I : σ → Prop) (μ : σ → Nat) (h : ∀ s, I s → sc s ∧ (c s = true → sf s ∧ I (f s) ∧ μ (f s) < μ s)) : ∀ {k : Nat} {s : σ}, I s → μ s < k → whS sc c sf f k s
  | 0, _, _, hk => by omega
  | k + 1, s, hi, hk => by
    obtain ⟨h1, h2⟩ := h s hi
    refine ⟨h1, fun hc => ?_⟩
    obtain ⟨h3, h4, h5⟩ := h2 hc
    exact ⟨h3, whS_inv I μ h h4 (by omega)⟩
theorem whl_inv {σ : Type} {c : σ → Bool} {f : σ → σ} (I : σ → Prop) (μ : σ → Nat) (h : ∀ s, I s → c s = true → I (f s) ∧ μ (f s) < μ s) : ∀ {k : Nat} {s : σ}, I s → μ s < k → I (whl c f k s) ∧ c (whl c f k s) = false
  | 0, _, _, hk => by omega
  | k + 1, s, hi, hk => by
    unfold whl
    cases q : c s with
    | false => simp [hi, q]
    | true =>
      obtain ⟨h1, h2⟩ := h s hi q
      rw [if_pos rfl]
      exact whl_inv I μ h h1 (by omega)
theorem loop_wh {c : MP.Env → Sto → R Bool} {bd : MP.Env → Sto → MP.X} {n : Nat} (P : σ → MP.Env → Sto → Prop) (sc : σ → Prop) (cb : σ → Bool) (sf : σ → Prop) (f : σ → σ)
    (hc : ∀ s env st, P s env st → sc s → c env st = .ok (cb s) st) (hb : ∀ s env st, P s env st → cb s = true → sf s → QT trim n tmp P (f s) (bd env st)) :
    ∀ {k : Nat} {s : σ} {env : MP.Env} {st : Sto}, P s env st → whS sc cb sf f k s → ∃ env' st', loopW trim n tmp c bd k env st = .nx env' st' ∧ P (whl cb f k s) env' st'
  | 0, _, _, _, _, h => h.elim
  | k + 1, s, env, st, hp, h => by
    have e := hc s env st hp h.1
    unfold loopW whl
    rw [e]
    cases q : cb s with
    | false => exact ⟨env, st, rfl, by rw [if_neg (by decide)]; exact hp⟩
    | true =>
      obtain ⟨h1, h2⟩ := h.2 q
      obtain ⟨env1, st1, env2, st2, e1, e2, hp2⟩ := hb s env st hp q h1
      dsimp only
      rw [e1]
      dsimp only
      rw [e2]
      dsimp only
      rw [if_pos rfl]
      exact loop_wh P sc cb sf f hc hb hp2 h2
theorem wp_while {c : E} {s : σ} (P : σ → MP.Env → Sto → Prop) (sc : σ → Prop) (cb : σ → Bool) (sf : σ → Prop) (f : σ → σ) (h0 : P s env st) (hs : whS sc cb sf f wmost s)
    (hc : ∀ s env st, P s env st → sc s → Vv cf c env st (cb s)) (hb : ∀ s env st', P s env st' → cb s = true → sf s → Wp cf body env st' (QT trim st.length tmp P (f s)))
    (hr : ∀ env' st', P (whl cb f wmost s) env' st' → Wp cf rest env' st' Q) : Wp cf (.while_ c body tmp trim :: rest) env st Q := by
  obtain ⟨env', st', e, hp⟩ := loop_wh (trim := trim) (tmp := tmp) (n := st.length) (c := fun env st => (evE cf c env st).bind boolR) (bd := fun env st => exL cf body env st) P sc cb sf f (fun s env st hp hsc => by
    show ((evX cf c env st).bind _).bind boolR = _
    rw [bool_of (hc s env st hp hsc), R.bind_ok]
    rfl) (fun s env st hp hcb hsf => hb s env st hp hcb hsf) h0 hs
  refine wp_step ?_ (hr _ _ hp)
  rw [exS]
  exact e
end
/-- a turn's end where no cell was made -/
theorem qt_end {tmp : List Nat} {n : Nat} {P : σ → MP.Env → Sto → Prop} {s : σ} (h : P s (wipeE env tmp) st) : Wp cf [] env st (QT false n tmp P s) :=
  wp_nil ⟨env, st, _, _, rfl, rfl, h⟩
theorem qot_end {ρ : Type} {R : ρ → MP.X → Prop} {tmp : List Nat} {n : Nat} {P : σ → MP.Env → Sto → Prop} {s : σ} (h : P s (wipeE env tmp) st) : Wp cf [] env st (QOT R false n tmp P (.nx s)) :=
  wp_nil ⟨env, st, _, _, rfl, rfl, h⟩
theorem qb_end {P : σ → MP.Env → Sto → Prop} {s : σ} (h : P s env st) : Wp cf [] env st (QB P s) := wp_nil ⟨env, st, rfl, h⟩
/-- a turn's end: cells of the turn are dropped -/
theorem fin_trim {n : Nat} {tmp : List Nat} (h1 : envBelow n (wipeE env tmp) = true) (h2 : (st.take n).all (Cell.low n) = true) : fin true n tmp env st = some (wipeE env tmp, st.take n) := by
  unfold fin
  rw [if_pos rfl, h1, h2]
  rfl
theorem qot_trim {ρ : Type} {R : ρ → MP.X → Prop} {tmp : List Nat} {n : Nat} {P : σ → MP.Env → Sto → Prop} {s : σ} (h1 : envBelow n (wipeE env tmp) = true) (h2 : (st.take n).all (Cell.low n) = true) (h : P s (wipeE env tmp) (st.take n)) : Wp cf [] env st (QOT R true n tmp P (.nx s)) :=
  wp_nil ⟨env, st, _, _, rfl, fin_trim h1 h2, h⟩
mutual
theorem D.low_nr {n : Nat} : ∀ {d : D}, d.noref = true → d.low n = true
  | .none, _ => rfl
  | .bool _, _ => rfl
  | .int _, _ => rfl
  | .str _, _ => rfl
  | .scr _, _ => rfl
  | .exc _, _ => rfl
  | .list xs, h => lows_nr (show norefs xs = true from h)
  | .tup xs, h => lows_nr (show norefs xs = true from h)
  | .dk _ vs, h => lows_nr (show norefs vs = true from h)
  | .dt _ vs, h => lows_nr (show norefs vs = true from h)
  | .ref _, h => by cases h
theorem lows_nr {n : Nat} : ∀ {ds : List D}, norefs ds = true → lows n ds = true
  | [], _ => rfl
  | d :: ds, h => by
    simp only [norefs, Bool.and_eq_true] at h
    simp only [lows, D.low_nr h.1, lows_nr h.2, Bool.and_self]
end
@[simp] theorem low_enc {n : Nat} (x : α) : (enc x).low n = true := D.low_nr (Enc.nr x)
@[simp] theorem low_cell {n : Nat} (x : List α) : (Cell.lst (x.map enc)).low n = true := lows_nr (nrs x)
@[simp] theorem eb_nil {n : Nat} : envBelow n [] = true := rfl
@[simp] theorem eb_none {n : Nat} (r : MP.Env) : envBelow n (Option.none :: r) = envBelow n r := rfl
@[simp] theorem eb_some {n : Nat} (d : D) (r : MP.Env) : envBelow n (some d :: r) = (d.low n && envBelow n r) := rfl
@[simp] theorem low_ref {n m : Nat} : (D.ref m).low n = decide (m < n) := rfl
@[simp] theorem nl_cell [NL α] (x : List α) : (Cell.lst (x.map enc)).nolist = true := nls x
end MP

/-! The typed layer: more rules. -/
namespace MP
open PySem PySem.Spec PyProof.Rows L2
open Enc (enc)
abbrev W : Type := T3 (List Int) (List (List Tx)) (List (List Int))
variable {α β γ δ σ : Type} [Enc α] [Enc β] [Enc γ] [Enc δ] {cf : CF} {env : MP.Env} {st : Sto}
theorem tv_int {n : Int} : Tv cf (.lit (.int n)) env st n := tv_lit rfl
theorem tv_bool {n : Bool} : Tv cf (.lit (.bool n)) env st n := tv_lit rfl
theorem tv_globs {s : Str} {x : String} : Tv cf (.glob s (.str (Str.ofString x))) env st (tx x) := tv_glob (congrArg D.str (ofString_tx x))
theorem rng_length (n : Int) : (rng n).length = n.toNat := by simp [rng, rangeI]
theorem rng2_length (a b : Int) : (rng2 a b).length = (b - a).toNat := by simp [rng2, rangeI]
theorem sz_rng2 {i j : Int} (h : Rg2Ok i j) : Sz (rng2 i j) := by
  unfold Sz
  rw [rng2_length]
  have := h.1
  omega
theorem tv_powl {a b : E} {x y z : Int} (ha : Vv cf a env st x) (hb : Vv cf b env st y) (h : PowOk x y) (hz : z = x ^ y.toNat) : Tv cf (.bin .pow a b) env st z := hz ▸ tv_pow ha hb h
def RepOk {α : Type} (x : List α) (k : Int) : Prop := k < 2 ^ 63 ∧ -(2 ^ 63) ≤ k ∧ x.length * k.toNat ≤ 16777216
section
variable {Q : MP.X → Prop} {rest : List S} {i n : Nat} {l : List α}
end
@[simp] theorem low_dead {n : Nat} : Cell.low n .dead = true := rfl
@[simp] theorem nl_dead : Cell.nolist .dead = true := rfl
/-! text.index(piece) -/
end MP

/-! The typed layer: statements that bind a name in the mirror. -/
namespace MP
open PySem PySem.Spec PyProof.Rows L2
open Enc (enc)
/-- a name for a value -/
def lt {α : Type} {β : Sort u} (v : α) (B : α → β) : β := B v
theorem lt_eq {α : Type} {β : Sort u} (v : α) (B : α → β) : lt v B = B v := rfl
theorem ltE {α : Type} {v x : α} {S : α → Prop} (h : lt v S) (hx : x = v) : S x := by subst hx; exact h
variable {α β γ δ σ ρ : Type} [Enc α] [Enc β] [Enc γ] [Enc δ] {cf : CF} {env : MP.Env} {st : Sto} {rest : List S}
section
variable (R : ρ → MP.X → Prop)
theorem wl_set {i : Nat} {e : E} {x : α} {B : α → ρ} (h : Tv cf e env st x) (hr : ∀ x', x' = x → Wp cf rest (env.set i (some (enc x'))) st (R (B x'))) : Wp cf (.set i e :: rest) env st (R (lt x B)) := wp_set h (hr x rfl)
theorem wl_cell {i : Nat} {e : E} {l : List α} {B : List α → ρ} (h : Nv cf e env st l) (hr : ∀ l', l' = l → Wp cf rest (env.set i (some (.ref st.length))) (st ++ [.lst (l'.map enc)]) (R (B l'))) : Wp cf (.set i (.cell e) :: rest) env st (R (lt l B)) := wp_cell h (hr l rfl)
theorem wl_join {c : E} {a b : List S} {x : Bool} {u v : σ} {B : σ → ρ} (P : σ → MP.Env → Sto → Prop) (hc : Vv cf c env st x) (ha : x = true → Wp cf a env st (QB P u)) (hb : x = false → Wp cf b env st (QB P v))
    (hr : ∀ s, s = (if x = true then u else v) → ∀ env' st', P s env' st' → Wp cf rest env' st' (R (B s))) : Wp cf (.ife c a b :: rest) env st (R (lt (if x = true then u else v) B)) := wp_join P hc ha hb (hr _ rfl)
theorem wl_append {i n : Nat} {e : E} {l : List α} {x : α} {B : List α → ρ} (hv : env[i]? = some (some (.ref n))) (hn : st[n]? = some (.lst (l.map enc))) (h : Tv cf e env st x) (hz : Sz1 l) (hr : ∀ l', l' = l ++ [x] → Wp cf rest env (st.set n (.lst (l'.map enc))) (R (B l'))) :
    Wp cf (.expr (.mt .append (.var i) (.cons e .nil)) :: rest) env st (R (lt (l ++ [x]) B)) := wp_append hv hn h hz (hr _ rfl)
theorem wl_extend {i n : Nat} {e : E} {l m : List α} {B : List α → ρ} (hv : env[i]? = some (some (.ref n))) (hn : st[n]? = some (.lst (l.map enc))) (h : Vv cf e env st m) (hz : Sz (l ++ m)) (hr : ∀ l', l' = l ++ m → Wp cf rest env (st.set n (.lst (l'.map enc))) (R (B l'))) :
    Wp cf (.expr (.mt .extend (.var i) (.cons e .nil)) :: rest) env st (R (lt (l ++ m) B)) := wp_extend hv hn h hz (hr _ rfl)
section
variable {tg : Tg} {it : It} {body : List S} {tmp : List Nat} {trim : Bool} {l : List α} {B : σ → ρ}
theorem wl_for {s : σ} (P : σ → MP.Env → Sto → Prop) (safe : σ → α → Prop) (f : σ → α → σ) (envOf : α → MP.Env → MP.Env) (hi : Iw cf it env st l) (h0 : P s env st) (hs : foldS safe f l s) (hbd : ∀ x env, bindT env tg (enc x) = some (envOf x env))
    (hb : ∀ x ∈ l, ∀ s env st', P s env st' → safe s x → Wp cf body (envOf x env) st' (QT trim st.length tmp P (f s x)))
    (hr : ∀ s', s' = l.foldl f s → ∀ env' st', P s' env' st' → Wp cf rest env' st' (R (B s'))) : Wp cf (.for_ tg it body tmp trim :: rest) env st (R (lt (l.foldl f s) B)) :=
  wp_for P safe f envOf hi h0 hs hbd hb (hr _ rfl)
theorem wl_while {c : E} {s : σ} (P : σ → MP.Env → Sto → Prop) (sc : σ → Prop) (cb : σ → Bool) (sf : σ → Prop) (f : σ → σ) (h0 : P s env st) (hs : whS sc cb sf f wmost s)
    (hc : ∀ s env st, P s env st → sc s → Vv cf c env st (cb s)) (hb : ∀ s env st', P s env st' → cb s = true → sf s → Wp cf body env st' (QT trim st.length tmp P (f s)))
    (hr : ∀ s', s' = whl cb f wmost s → ∀ env' st', P s' env' st' → Wp cf rest env' st' (R (B s'))) : Wp cf (.while_ c body tmp trim :: rest) env st (R (lt (whl cb f wmost s) B)) :=
  wp_while P sc cb sf f h0 hs hc hb (hr _ rfl)
end
end
end MP
namespace MP
open PySem PySem.Spec PyProof.Rows L2
open Enc (enc)
/-! a list that a def has made is taken over -/
section
variable {α ρ : Type} [Enc α] {cf : CF} {env : MP.Env} {st : Sto} {rest : List S}
/-- one list, or a pair of lists, in cells of their own -/
def Relc (x : List α) (d : D) (st : Sto) : Prop := relay d st = some (.ref 0, [.lst (x.map enc)])
def QRc (x : List α) (r : MP.X) : Prop := ∃ d st', endR r = .ok d st' ∧ Relc x d st'
def QEc (x : Except Str (List α)) (r : MP.X) : Prop := match x with
  | .ok x => QRc x r
  | .error c => ∃ st', endR r = .err c st'
def Okc (cf : CF) (f : Nat) (ts : List D) (x : List α) : Prop := ∃ d st', cf f ts [] = .ok d st' ∧ Relc x d st'
def Okce (cf : CF) (f : Nat) (ts : List D) (x : Except Str (List α)) : Prop := match x with
  | .ok x => Okc cf f ts x
  | .error c => ∃ st', cf f ts [] = .err c st'
theorem okce_of {T : Nat → Option Def} {k f : Nat} {d : Def} {ts : List D} {x : Except Str (List α)} (h : T f = some d) (hl : ts.length = d.pars.length) (hw : Wp (run T k) d.body (ts.map some ++ List.replicate (d.locs.length - ts.length) Option.none) [] (QEc x)) : Okce (run T (k + 1)) f ts x := by
  unfold Okce Okc
  cases x <;> rw [run_at h hl] <;> exact hw
theorem okce_ok [Inhabited α] {f : Nat} {ts : List D} {m : Except Str (List α)} (h : Okce cf f ts m) (hm : isOk m) : Okc cf f ts (okv m) := by
  obtain ⟨x, rfl⟩ := hm
  exact h
theorem QEc_ok {x : List α} {r : MP.X} (h : QRc x r) : QEc (.ok x) r := h
theorem QEc_er {c : Str} {env' : MP.Env} {st' : Sto} : QEc (α := α) (.error c) (.err c env' st') := ⟨st', rfl⟩
theorem relc_ref {st : Sto} {n : Nat} {x : List α} (h : st[n]? = some (.lst (x.map enc))) : Relc x (.ref n) st := by
  have hn : norefs (x.map (enc : α → D)) = true := nrs x
  have e1 : keepC st [n] = some [.lst (x.map enc)] := by
    unfold keepC
    rw [h]
    dsimp only
    rw [if_pos hn]
    rfl
  have e2 : (D.ref n).mapRef (ren [n]) = some (.ref 0) := by
    show ren [n] n = _
    unfold ren
    simp
  show relay (.ref n) st = _
  unfold relay
  rw [show refsOf (.ref n) = [n] from rfl, e1, e2, if_pos (by simp)]
theorem Relc.okp {f : Nat} {ts : List D} {x : List α} (h : Okc cf f ts x) : Okp cf f ts x := by
  obtain ⟨d, st', h1, h2⟩ := h
  refine ⟨d, st', h1, ?_⟩
  unfold Relc relay at h2
  split at h2
  · split at h2
    · rename_i x1 x2 e1 e2
      cases h2
      cases d with
      | ref n =>
        have e1 : keepC st' [n] = some [.lst (x.map enc)] := e1
        unfold keepC at e1
        split at e1
        · rename_i ds e3
          split at e1
          · rename_i hn
            split at e1
            · cases e1
              exact frz_ref e3 hn
            · cases e1
          · cases e1
        · split at e1
          · split at e1 <;> cases e1
          · cases e1
        · cases e1
      | none => cases e2
      | bool _ => cases e2
      | int _ => cases e2
      | str _ => cases e2
      | scr _ => cases e2
      | exc _ => cases e2
      | list xs => simp only [D.mapRef] at e2; split at e2 <;> cases e2
      | tup xs => simp only [D.mapRef] at e2; split at e2 <;> cases e2
      | dk _ xs => simp only [D.mapRef] at e2; split at e2 <;> cases e2
      | dt _ xs => simp only [D.mapRef] at e2; split at e2 <;> cases e2
    · cases h2
  · cases h2
theorem okc_oke {f : Nat} {ts : List D} {x : Except Str (List α)} (h : Okce cf f ts x) : Oke cf f ts x := by
  cases x with
  | ok x => exact Relc.okp h
  | error c => exact h
theorem wl_callC (R : ρ → MP.X → Prop) {i f : Nat} {es : Es} {ts : List D} {x : List α} {B : List α → ρ} (h : As cf es env st ts) (hf : Okc cf f ts x) (hr : ∀ x', x' = x → Wp cf rest (env.set i (some (.ref st.length))) (st ++ [.lst (x'.map enc)]) (R (B x'))) :
    Wp cf (.set i (.callC f es) :: rest) env st (R (lt x B)) := by
  refine wp_step ?_ (hr x rfl)
  obtain ⟨d, st', hf, hre⟩ := hf
  rw [exS_set, evE_eq, evX_callC, h.1, MP.R.bind_ok, callC_at h.2 hf hre]
  have e1 : (D.ref 0).shift st.length = .ref st.length := by
    show D.ref (0 + st.length) = _
    rw [Nat.zero_add]
  rw [e1]
  show MP.X.nx _ (st ++ [Cell.shift st.length (.lst (x.map enc))]) = _
  rw [cell_shift_nr (nrs x)]
  rfl
/-! a pair of lists, each in a cell of its own -/
variable {β : Type} [Enc β]
/-! the parts of such a pair -/
end
end MP
namespace MP
open PySem
open Enc (enc)
theorem frz_bool_of {st : Sto} {d : D} {b : Bool} (h : frz st d = some (.bool b)) : d = .bool b := by
  cases d with
  | bool c => have : some (D.bool c) = some (D.bool b) := h; injection this
  | none => cases h
  | int i => cases h
  | str s => cases h
  | scr s => cases h
  | exc s => cases h
  | ref n =>
    have h : readN st.length st n = some (.bool b) := h
    cases hk : st.length with
    | zero => rw [hk] at h; cases h
    | succ k =>
      rw [hk] at h
      unfold readN at h
      split at h
      · split at h <;> cases h
      · cases h
  | list xs =>
    unfold frz at h
    simp only [D.mapRef] at h
    split at h <;> cases h
  | tup xs =>
    unfold frz at h
    simp only [D.mapRef] at h
    split at h <;> cases h
  | dk ks xs =>
    unfold frz at h
    simp only [D.mapRef] at h
    split at h <;> cases h
  | dt ks xs =>
    unfold frz at h
    simp only [D.mapRef] at h
    split at h <;> cases h
/-- the law says True -/
theorem law_of {T : Nat → Option Def} {k f : Nat} {sc : Sc} {m : Bool} (h : Okp (run T k) f [enc sc] m) (hm : m = true) : ∃ st, run T k f [.scr sc.ns] [] = .ok (.bool true) st := by
  obtain ⟨d, st, e, hd⟩ := h
  subst hm
  have := frz_bool_of (b := true) hd
  subst this
  exact ⟨st, e⟩
end MP

/-! Trees of texts and tuples; a written table; max(.., default=0). -/
namespace MP
open PySem PySem.Spec PyProof.Rows L2
open Enc (enc)
/-- a text or a tuple of such -/
inductive Sn where
  | x (t : Tx)
  | n (l : List Sn)
instance : Inhabited Sn := ⟨.n []⟩
mutual
def Sn.enc : Sn → D
  | .x t => D.str t.str
  | .n l => D.tup (Sn.encs l)
def Sn.encs : List Sn → List D
  | [] => []
  | a :: r => Sn.enc a :: Sn.encs r
end
theorem Sn.encs_map : ∀ l : List Sn, Sn.encs l = l.map Sn.enc
  | [] => by rw [Sn.encs]; rfl
  | a :: r => by rw [Sn.encs, Sn.encs_map r]; rfl
mutual
theorem Sn.nr : ∀ x : Sn, x.enc.noref = true
  | .x t => by rw [Sn.enc]; rfl
  | .n l => by rw [Sn.enc]; exact Sn.nrs l
theorem Sn.nrs : ∀ l : List Sn, norefs (Sn.encs l) = true
  | [] => by rw [Sn.encs]; rfl
  | a :: r => by rw [Sn.encs, norefs_cons, Sn.nr a, Sn.nrs r]; first | done | rfl
end
instance : Enc Sn := ⟨Sn.enc, Sn.nr⟩
theorem sn_x (t : Tx) : (enc (Sn.x t) : D) = D.str t.str := by show Sn.enc _ = _; rw [Sn.enc]
theorem sn_n (l : List Sn) : (enc (Sn.n l) : D) = D.tup (l.map enc) := by show Sn.enc _ = _; rw [Sn.enc, Sn.encs_map]; rfl
mutual
theorem Sn.layL : ∀ x : Sn, x.enc.py.canLay0 = true
  | .x t => by rw [Sn.enc]; exact Lay.lay (α := Tx) t
  | .n l => by
    rw [Sn.enc]
    show PyData.canLay0 (.tuple (pys (Sn.encs l))) = true
    simp only [PyData.canLay0]
    exact Sn.layLs l
theorem Sn.layLs : ∀ l : List Sn, PyData.canLayAll0 (pys (Sn.encs l)) = true
  | [] => by rw [Sn.encs]; rfl
  | a :: r => by
    rw [Sn.encs]
    show PyData.canLayAll0 (a.enc.py :: pys (Sn.encs r)) = true
    simp only [PyData.canLayAll0, Sn.layL a, Sn.layLs r, Bool.and_self]
end
instance : Lay Sn := ⟨Sn.layL⟩
mutual
theorem Sn.nlL : ∀ x : Sn, x.enc.nolist = true
  | .x t => by rw [Sn.enc]; rfl
  | .n l => by rw [Sn.enc]; exact Sn.nlLs l
theorem Sn.nlLs : ∀ l : List Sn, nolists (Sn.encs l) = true
  | [] => by rw [Sn.encs]; rfl
  | a :: r => by
    rw [Sn.encs]
    show (a.enc.nolist && nolists (Sn.encs r)) = true
    rw [Sn.nlL a, Sn.nlLs r]; rfl
end
instance : NL Sn := ⟨Sn.nlL⟩
instance : NS Sn := ⟨fun x ds => by
  cases x with
  | x t => rw [sn_x]; exact fun h => by cases h
  | n l => rw [sn_n]; exact fun h => by cases h⟩
def Sn.isX : Sn → Bool
  | .x _ => true
  | _ => false
def Sn.isN : Sn → Bool
  | .n _ => true
  | _ => false
def Sn.tx : Sn → Tx
  | .x t => t
  | _ => default
def Sn.its : Sn → List Sn
  | .n l => l
  | _ => []
theorem Sn.tx_of {s : Sn} (h : s.isX = true) : s = .x s.tx := by cases s; rfl; cases h
theorem Sn.its_of {s : Sn} (h : s.isN = true) : s = .n s.its := by cases s; cases h; rfl
variable {cf : CF} {env : MP.Env} {st : Sto} {a b e : E}
theorem tv_rtx {s : Sn} (h : Tv cf e env st s) (hx : s.isX = true) : Tv cf e env st s.tx := by
  obtain ⟨w, e1, h1⟩ := h
  refine ⟨w, e1, ?_⟩
  rw [h1, Sn.tx_of hx, sn_x]; rfl
theorem tv_xr {t : Tx} (h : Tv cf e env st t) : Tv cf e env st (Sn.x t) := by
  obtain ⟨w, e1, h1⟩ := h
  exact ⟨w, e1, by rw [h1, sn_x]; rfl⟩
theorem tv_rix {s : Sn} {i : Int} (ha : Tv cf a env st s) (hb : Vv cf b env st i) (hn : s.isN = true) (h : InR s.its.length i) : Tv cf (.ix a b) env st (ix s.its i) :=
  ix_of ha.v hb fun d hd => by
    rw [hd.ns, Sn.its_of hn, sn_n]
    show atI (s.its.map enc) i = _
    rw [atI_map, atI_ix h]; rfl
theorem tv_rlen {s : Sn} (ha : Tv cf a env st s) (hn : s.isN = true) : Tv cf (.bi .len (.cons a .nil)) env st (len s.its) :=
  bi1_of ha.v fun d hd => ⟨.v (.int s.its.length), by
    rw [hd.ns, Sn.its_of hn, sn_n]
    show R.ok (Val.v (.int ((s.its.map enc).length : Nat))) st = _
    rw [List.length_map]; rfl, rfl⟩
theorem tv_risx {s : Sn} (ha : Tv cf a env st s) : Tv cf (.bi (.isinst "str") (.cons a .nil)) env st s.isX :=
  tv_isinst ha.v fun d hd => by
    rw [hd.ns]
    cases s with
    | x t => rw [sn_x]; exact ⟨"str", rfl, show isinstT "str" "str" = true by decide⟩
    | n l => rw [sn_n]; exact ⟨"tuple", rfl, show isinstT "str" "tuple" = false by decide⟩
theorem tv_risn {s : Sn} (ha : Tv cf a env st s) : Tv cf (.bi (.isinst "tuple") (.cons a .nil)) env st s.isN :=
  tv_isinst ha.v fun d hd => by
    rw [hd.ns]
    cases s with
    | x t => rw [sn_x]; exact ⟨"str", rfl, show isinstT "tuple" "str" = false by decide⟩
    | n l => rw [sn_n]; exact ⟨"tuple", rfl, show isinstT "tuple" "tuple" = true by decide⟩
/-- behind the first -/
theorem tv_rtail {s : Sn} (ha : Tv cf a env st s) (hn : s.isN = true) (h0 : 0 < s.its.length) : Tv cf (.sl a (.lit (.int 1)) (.lit .none)) env st (Sn.n (s.its.drop 1)) := by
  obtain ⟨v, e1, h1⟩ := ha
  refine ⟨.v (enc (Sn.n (s.its.drop 1))), ?_, rfl⟩
  rw [evX_sl, e1, R.bind_ok, evX_lit, R.bind_ok]
  show ((evX cf (.lit .none) env st).bind fun z st => _) = _
  rw [evX_lit, R.bind_ok, h1, Sn.its_of hn, sn_n, sn_n]
  generalize hl : s.its = l at *
  have hl2 : (l.map (enc : Sn → D)).length = l.length := List.length_map _
  show (if HT.sIx (l.map enc).length 0 (some 1) = 0 ∧ HT.sIx (l.map enc).length (l.map enc).length none = (l.map enc).length then R.stuck else R.ok (Val.v (.tup (cutA (l.map enc) (some 1) none))) st) = _
  have e1 : HT.sIx (l.map (enc : Sn → D)).length 0 (some 1) = 1 := by
    unfold HT.sIx
    rw [hl2]
    simp only
    rw [if_neg (by decide)]
    show min 1 l.length = 1
    omega
  rw [if_neg (by rw [e1]; simp)]
  unfold cutA
  rw [e1]
  show R.ok (Val.v (.tup (((l.map enc).drop 1).take ((l.map (enc : Sn → D)).length - 1)))) st = _
  rw [List.take_of_length_le (by rw [List.length_drop]; exact Nat.le_refl _), ← List.map_drop]
  rfl
theorem iv_rseq {s : Sn} (h : Tv cf e env st s) (hn : s.isN = true) : Iv cf (.seq e) env st s.its := by
  obtain ⟨w, e1, h1⟩ := h
  have h1 : w.d = D.tup (s.its.map enc) := by rw [h1]; conv => lhs; rw [Sn.its_of hn, sn_n]
  refine ⟨w.d, ?_, by rw [h1]; rfl⟩
  rw [evI_seq, e1, R.bind_ok]
  unfold itR
  rw [h1]; rfl
theorem iw_rseq {s : Sn} (h : Tv cf e env st s) (hn : s.isN = true) : Iw cf (.seq e) env st s.its := by
  obtain ⟨w, e1, h1⟩ := h
  have h1 : w.d = D.tup (s.its.map enc) := by rw [h1]; conv => lhs; rw [Sn.its_of hn, sn_n]
  refine ⟨w.d, ?_, fun _ => by rw [h1]; rfl⟩
  rw [evI_seq, e1, R.bind_ok]
  unfold itR
  rw [h1]; rfl
theorem nv_rlist {s : Sn} (ha : Tv cf a env st s) (hn : s.isN = true) : Nv cf (.bi .listOf (.cons a .nil)) env st s.its :=
  bi1n_of ha.v fun d hd => by
    rw [hd.ns]
    conv => lhs; rw [Sn.its_of hn, sn_n]
    rfl
theorem tv_maxd0 {l : List Int} (ha : Vv cf a env st l) : Tv cf (.bi .maxD0 (.cons a .nil)) env st (maxI l) :=
  bi1_of ha fun d hd => ⟨.v (.int (maxI l)), by show onInts d st _ = _; rw [ints_of hd], rfl⟩
/-! a written table -/
def lookX (t : Tx) : List (Tx × Int) → Option Int
  | (k, v) :: r => if k = t then some v else lookX t r
  | [] => none
theorem lookS_X (t : Tx) : ∀ T : List (Tx × Int), lookS t.str (T.map fun p => p.1.str) (T.map fun p => p.2) = lookX t T
  | [] => rfl
  | (k, v) :: r => by
    show (if (k.str == t.str) = true then some v else lookS t.str _ _) = if k = t then some v else lookX t r
    rw [lookS_X t r]
    by_cases q : k = t
    · rw [if_pos (by rw [q]; simp), if_pos q]
    · rw [if_neg (fun z => q (Tx.inj (by simpa using z))), if_neg q]
theorem tv_tabnotin {t : Tx} {g : Str} (T : List (Tx × Int)) (ha : Vv cf a env st t) : Tv cf (.bi (.tabIn true g (T.map fun p => p.1.str) (T.map fun p => p.2)) (.cons a .nil)) env st (!(lookX t T).isSome) :=
  bi1_of ha fun d hd => ⟨.v (.bool (!(lookX t T).isSome)), by
    rw [hd.ns]
    show R.ok (Val.v (.bool (true != (lookS t.str (T.map fun p => p.1.str) (T.map fun p => p.2)).isSome))) st = _
    rw [lookS_X]
    cases (lookX t T).isSome <;> rfl, rfl⟩
theorem tv_tabget {t : Tx} {g : Str} (T : List (Tx × Int)) (ha : Vv cf a env st t) (h : (lookX t T).isSome = true) : Tv cf (.bi (.tabGet g (T.map fun p => p.1.str) (T.map fun p => p.2)) (.cons a .nil)) env st (uw (lookX t T)) := by
  obtain ⟨i, hi⟩ := Option.isSome_iff_exists.mp h
  refine bi1_of ha fun d hd => ⟨.v (.int i), ?_, by rw [hi]; rfl⟩
  rw [hd.ns]
  show (match lookS t.str (T.map fun p => p.1.str) (T.map fun p => p.2) with
    | some i => R.ok (Val.v (.int i)) st
    | Option.none => R.stuck) = _
  rw [lookS_X, hi]
theorem dk_inj {ks ks' : List Str} {vs vs' : List Int} (h : some (D.dk (ks.map Sum.inr) (vs.map D.int)) = some (D.dk (ks'.map Sum.inr) (vs'.map D.int))) : ks = ks' ∧ vs = vs' := by
  injection h with h
  injection h with h1 h2
  exact ⟨(List.map_inj_right fun _ _ e => Sum.inr.inj e).mp h1, (List.map_inj_right fun _ _ e => D.int.inj e).mp h2⟩
/-! a written tuple that is walked -/
theorem iw_tup {α : Type} [Enc α] {es : Es} (l : List α) (h : As cf es env st (l.map enc)) (hl : (l.map (enc : α → D)).length ≤ 1000 := by exact Nat.le_of_ble_eq_true rfl) : Iw cf (.seq (.tup es)) env st l :=
  ⟨D.tup (l.map enc), by rw [evI_seq, tup_ev h hl]; rfl, fun _ => rfl⟩
/-! membership, whatever decides it -/
/-! trees compared -/
noncomputable instance : DecidableEq Sn := fun a b => Classical.propDecidable (a = b)
mutual
theorem Sn.eqL : ∀ x y : Sn, eqD x.enc y.enc = decide (x = y)
  | .x a, .x b => by
    rw [Sn.enc, Sn.enc]
    show eqD (Enc.enc a) (Enc.enc b) = _
    rw [EqE.eq]
    exact decide_eq_decide.mpr ⟨fun h => by rw [h], fun h => by injection h⟩
  | .x a, .n l => by
    rw [Sn.enc, Sn.enc, decide_eq_false (fun h => by cases h)]
    show PyData.eqv (.str _) (.tuple _) = false
    simp only [PyData.eqv]
  | .n l, .x b => by
    rw [Sn.enc, Sn.enc, decide_eq_false (fun h => by cases h)]
    show PyData.eqv (.tuple _) (.str _) = false
    simp only [PyData.eqv]
  | .n l, .n m => by
    rw [Sn.enc, Sn.enc]
    show PyData.eqv (.tuple (pys (Sn.encs l))) (.tuple (pys (Sn.encs m))) = _
    simp only [PyData.eqv]
    rw [Sn.eqLs l m]
    exact decide_eq_decide.mpr ⟨fun h => by rw [h], fun h => by injection h⟩
theorem Sn.eqLs : ∀ l m : List Sn, PyData.eqvAll (pys (Sn.encs l)) (pys (Sn.encs m)) = decide (l = m)
  | [], [] => by rw [Sn.encs]; rfl
  | [], b :: m => by
    rw [Sn.encs, Sn.encs, decide_eq_false (fun h => by cases h)]
    show PyData.eqvAll [] (b.enc.py :: pys (Sn.encs m)) = false
    simp only [PyData.eqvAll]
  | a :: l, [] => by
    rw [Sn.encs, Sn.encs, decide_eq_false (fun h => by cases h)]
    show PyData.eqvAll (a.enc.py :: pys (Sn.encs l)) [] = false
    simp only [PyData.eqvAll]
  | a :: l, b :: m => by
    rw [Sn.encs, Sn.encs]
    show PyData.eqvAll (a.enc.py :: pys (Sn.encs l)) (b.enc.py :: pys (Sn.encs m)) = _
    simp only [PyData.eqvAll]
    have h1 : PyData.eqv a.enc.py b.enc.py = decide (a = b) := Sn.eqL a b
    rw [h1, Sn.eqLs l m]
    rw [Bool.eq_iff_iff]
    simp
end
/-- not too deep to be compared -/
def SnD (s : Sn) : Prop := s.enc.py.depth ≤ 64
theorem sn_shp {s : Sn} (h : SnD s) : s.enc.shp = true := by
  show SeqAt.shaped s.enc.py = true
  unfold SeqAt.shaped
  rw [Sn.layL s, Bool.true_and]
  exact decide_eq_true h
theorem tv_eqr {x y : Sn} (ha : Tv cf a env st x) (hb : Tv cf b env st y) (hx : SnD x) (hy : SnD y) : Tv cf (.cmp .eq a b) env st (decide (x = y)) :=
  cmp_of ha.v hb.v fun d e h1 h2 => by
    unfold cmpV
    dsimp only
    rw [h1.frz (Enc.nr x), h2.frz (Enc.nr y)]
    dsimp only
    have e1 : (Enc.enc x : D).shp = true := sn_shp hx
    have e2 : (Enc.enc y : D).shp = true := sn_shp hy
    have e3 : eqD (Enc.enc x) (Enc.enc y) = decide (x = y) := Sn.eqL x y
    rw [e1, e2, e3]
    rfl
/-! what stands in the head's fragment -/
mutual
def conB (K : PySem.W.Frag) : D → Value → Bool
  | .str z, .str x _ => decide (x = z)
  | .int i, .int j _ => decide (j = i)
  | .tup ds, .ref a => (match List.lookup a K with
    | some o => (match o.cls, o.data with
      | .type c, .seq its _ => c == "tuple" && decide (its.size ≤ sizeLine) && !pairI ds && conBs K ds its.toList
      | _, _ => false)
    | none => false)
  | _, _ => false
def conBs (K : PySem.W.Frag) : List D → List Value → Bool
  | [], [] => true
  | d :: ds, u :: us => conB K d u && conBs K ds us
  | _, _ => false
end
mutual
theorem conB_ok {K : PySem.W.Frag} : ∀ (d : D) (u : Value), conB K d u = true → ∃ v, RelV v u ∧ ∀ F ad, Rep K F ad v d
  | .str z, u, h => by
    cases u <;> simp only [conB] at h <;> first | cases h | skip
    rename_i x t
    have h := of_decide_eq_true h
    subst h
    exact ⟨.str _, ⟨t, rfl⟩, fun _ _ => .str _⟩
  | .int z, u, h => by
    cases u <;> simp only [conB] at h <;> first | cases h | skip
    rename_i x t
    have h := of_decide_eq_true h
    subst h
    exact ⟨.int _, ⟨t, rfl⟩, fun _ _ => .int _⟩
  | .tup ds, u, h => by
    cases u <;> simp only [conB] at h <;> first | cases h | skip
    rename_i a
    split at h
    · rename_i o ho
      split at h
      · rename_i c its n hc hd
        simp only [Bool.and_eq_true, beq_iff_eq, decide_eq_true_eq] at h
        simp only [Bool.not_eq_true'] at h
        obtain ⟨⟨⟨h1, h2⟩, h4⟩, h3⟩ := h
        obtain ⟨vs, hv, hr⟩ := conBs_ok ds its.toList h3
        refine ⟨.ref a, rfl, fun F ad => .tup ⟨.inr ⟨o, its, n, ho, by rw [hc, h1], hd, h2, hv⟩, fun i j e => ?_⟩ (hr F ad)⟩
        subst e
        exfalso
        have q := hr F ad
        cases q with
        | cons q1 q2 =>
          cases q2 with
          | cons q3 q4 =>
            cases q4
            cases q1
            cases q3
            cases h4
      · cases h
    · cases h
  | .none, u, h => by cases u <;> simp [conB] at h
  | .bool _, u, h => by cases u <;> simp [conB] at h
  | .list _, u, h => by cases u <;> simp [conB] at h
  | .dk _ _, u, h => by cases u <;> simp [conB] at h
  | .dt _ _, u, h => by cases u <;> simp [conB] at h
  | .ref _, u, h => by cases u <;> simp [conB] at h
  | .scr _, u, h => by cases u <;> simp [conB] at h
  | .exc _, u, h => by cases u <;> simp [conB] at h
theorem conBs_ok {K : PySem.W.Frag} : ∀ (ds : List D) (us : List Value), conBs K ds us = true → ∃ vs, Vals vs us ∧ ∀ F ad, Reps K F ad vs ds
  | [], [], _ => ⟨[], .nil, fun _ _ => .nil⟩
  | [], _ :: _, h => by simp [conBs] at h
  | _ :: _, [], h => by simp [conBs] at h
  | d :: ds, u :: us, h => by
    simp only [conBs, Bool.and_eq_true] at h
    obtain ⟨v, h1, h2⟩ := conB_ok d u h.1
    obtain ⟨vs, h3, h4⟩ := conBs_ok ds us h.2
    exact ⟨v :: vs, .cons h1 h3, fun F ad => .cons (h2 F ad) (h4 F ad)⟩
end
end MP

namespace Law
open PySem PySem.Spec PyProof.Rows L2 MP
def tab_PARTS : List (Tx × Int) := [(tx "yes", 0), (tx "not", 1), (tx "and", 2), (tx "or", 2), (tx "some next", 1), (tx "all next", 1), (tx "some until", 2), (tx "all until", 2), (tx "some always", 1), (tx "all always", 1)]
def c_LETTERS : D := (.str "abcdef")
def c_PARTS : D := .dk ((tab_PARTS.map fun p => p.1.str).map Sum.inr) ((tab_PARTS.map fun p => p.2).map D.int)
def c_MOST_WORDS : D := (.int (200))
def c_MOST_DEEP : D := (.int (24))
def top (i : Nat) : Stmt := PySem.Challenge.pw_foreseehall_k11_what_is_a_sentence.main.body.getD i (.Pass ⟨0, 0, 0, 0⟩)
def mkD (x : PySem.Str) (i : Nat) : He.DefD := ⟨(x, none), x, x, defArgs (top i), defBody (top i), defScope (top i), [], []⟩
def fn : List He.DefD := [mkD "rises" 5, mkD "are_marks" 6, mkD "parts_of" 11, mkD "well_made" 12, mkD "count" 13, mkD "deep" 14, mkD "is_sentence" 15, mkD "ask_sentence" 16, mkD "words" 17, mkD "depth" 18, mkD "named" 19, mkD "marks_of" 20, mkD "_law_cell_at" 22, mkD "_law_whole" 23, mkD "_law_draw" 24, mkD "_law_sentence" 25, mkD "_law_count" 26, mkD "_law_good" 27, mkD "_law_deep" 28, mkD "_law_named" 29, mkD "_law_spoilt" 30, mkD "_law_great" 31, mkD "law" 32]
def fa : List He.Fa := [.glo "rises", .glo "are_marks", .glo "parts_of", .glo "well_made", .glo "count", .glo "deep", .glo "is_sentence", .glo "ask_sentence", .glo "words", .glo "depth", .glo "named", .glo "marks_of", .glo "_law_cell_at", .glo "_law_whole", .glo "_law_draw", .glo "_law_sentence", .glo "_law_count", .glo "_law_good", .glo "_law_deep", .glo "_law_named", .glo "_law_spoilt", .glo "_law_great", .glo "law", .free "len", .free "range", .free "list", .free "tuple", .free "sorted", .free "sum", .free "any", .free "all", .free "max", .free "min", .free "int", .free "isinstance", .free "zip", .free "str", .free "bool", .free "repr", .free "dict", .free "set", .str "LETTERS" "abcdef", .glo "PARTS", .int "MOST_WORDS" 200, .int "MOST_DEEP" 24, .glo "NoSentence", .exc "NoSentence"]
def tabs : List He.Tab := [(fun K => He.ga K "PARTS", ["yes", "not", "and", "or", "some next", "all next", "some until", "all until", "some always", "all always"])]
def exK (K : PySem.W.Frag) : Bool := tabB K (He.ga K "PARTS") (tab_PARTS.map fun p => p.1.str) (tab_PARTS.map fun p => p.2)
abbrev R : PySem.W.OpenRow := PySem.W.OpenLaw.row PySem.Challenge.rw_foreseehall_k11_what_is_a_sentence
abbrev hk : PySem.W.Hook := He.hookX 4 fa fn tabs [] exK
def ob (s : PySem.W.SharedT) : He.AlX := He.obsX 4 fa fn tabs [] exK (HandSHeadRun.getT s)
theorem ob_eq (s : PySem.W.SharedT) : ob s = hk.obs s.abs := He.obsX_eq (HandSHeadRun.getT_eq s)
def loose : List PySem.Str := (["HallError", "NoSentence", "LETTERS", "rises", "are_marks", "MOST_WORDS", "MOST_DEEP", "PARTS", "parts_of", "well_made", "count", "deep", "is_sentence", "ask_sentence", "words", "depth", "named", "marks_of", "_law_cell_at", "_law_whole", "_law_draw", "_law_sentence", "_law_count", "_law_good", "_law_deep", "_law_named", "_law_spoilt", "_law_great"] : List PySem.Str)
theorem head_no (w : World) : HandSHeadRun.RunEq R (PySem.W.view R.prog [32]) hk ob 8000 loose (w.withFollow "special-get-raises" false) := by
  intro os
  kernel_rfl
theorem head_yes (w : World) : HandSHeadRun.RunEq R (PySem.W.view R.prog [32]) hk ob 8000 loose (w.withFollow "special-get-raises" true) := by
  intro os
  kernel_rfl
theorem head_run (w : World) : HandSHeadRun.RunEq R (PySem.W.view R.prog [32]) hk ob 8000 ((["HallError", "NoSentence", "LETTERS", "rises", "are_marks", "MOST_WORDS", "MOST_DEEP", "PARTS", "parts_of", "well_made", "count", "deep", "is_sentence", "ask_sentence", "words", "depth", "named", "marks_of", "_law_cell_at", "_law_whole", "_law_draw", "_law_sentence", "_law_count", "_law_good", "_law_deep", "_law_named", "_law_spoilt", "_law_great"] : List PySem.Str)) w :=
  PySem.W.byRow2 "special-get-raises" (P := fun w => HandSHeadRun.RunEq R (PySem.W.view R.prog [32]) hk ob 8000 loose w) head_no head_yes w
end Law
/-! sorted of texts, of sets, of a dict's keys. -/
namespace MP
open PySem PySem.Spec PyProof.Rows L2
open Enc (enc)
def sortX (l : List Tx) : List Tx := l.mergeSort fun a b => leS a.str b.str
theorem leS_tot (a b : Str) : (leS a b || leS b a) = true := by
  rw [Bool.or_eq_true, leS_iff, leS_iff]; exact List.le_total _ _
theorem leS_tr {a b c : Str} (h1 : leS a b = true) (h2 : leS b c = true) : leS a c = true := leS_iff.mpr (List.le_trans (leS_iff.mp h1) (leS_iff.mp h2))
theorem leS_anti {a b : Str} (h1 : leS a b = true) (h2 : leS b a = true) : a = b := by
  have e := List.le_antisymm (leS_iff.mp h1) (leS_iff.mp h2)
  obtain ⟨a⟩ := a; obtain ⟨b⟩ := b
  simp only at e
  rw [Array.toList_inj.mp e]
theorem sortX_perm (l : List Tx) : (sortX l).Perm l := List.mergeSort_perm l _
theorem sortX_asc (l : List Tx) : (sortX l).Pairwise fun a b => leS a.str b.str = true := List.pairwise_mergeSort (le := fun a b : Tx => leS a.str b.str) (fun a b c h1 h2 => leS_tr h1 h2) (fun a b => leS_tot _ _) l
theorem sortX_str (l : List Tx) : (sortX l).map Tx.str = sortS (l.map Tx.str) := by
  refine List.Perm.eq_of_pairwise (le := fun a b : Str => leS a b = true) (fun a b _ _ h1 h2 => leS_anti h1 h2) ?_ (List.pairwise_mergeSort (le := leS) (fun a b c h1 h2 => leS_tr h1 h2) leS_tot _) ?_
  · rw [List.pairwise_map]; exact sortX_asc l
  · exact ((sortX_perm l).map _).trans (List.mergeSort_perm _ _).symm
theorem uniq_str : ∀ l : List Tx, (uniq l).map Tx.str = uniq (l.map Tx.str)
  | [] => rfl
  | x :: r => by
    have e : (x.str ∈ r.map Tx.str) ↔ x ∈ r := by
      rw [List.mem_map]
      exact ⟨fun ⟨y, hy, e⟩ => Tx.inj e ▸ hy, fun h => ⟨x, h, rfl⟩⟩
    rw [List.map_cons]
    unfold uniq
    by_cases h : x ∈ r
    · rw [if_pos h, if_pos (e.mpr h), uniq_str r]
    · rw [if_neg h, if_neg (fun z => h (e.mp z)), List.map_cons, uniq_str r]
section
variable {cf : CF} {env : MP.Env} {st : Sto} {a b e : E} {α β γ : Type} [Enc α] [Enc β] [Enc γ]
theorem strsOf_map : ∀ ns : List Str, strsOf (ns.map D.str) = some ns
  | [] => rfl
  | n :: ns => by
    show (strsOf (ns.map D.str)).map (n :: ·) = _
    rw [strsOf_map ns]; rfl
theorem encX (l : List Tx) : (l.map (enc : Tx → D)) = (l.map Tx.str).map D.str := by rw [List.map_map]; rfl
theorem strs_of {l : List Tx} {d : D} (h : Fz st d (enc l)) (g : List Str → R Val) : onStrs d st g = g (l.map Tx.str) := by
  unfold onStrs
  rw [h.list]
  dsimp only
  rw [encX, strsOf_map]
theorem fstOf_enc : ∀ l : List (T2 α β), fstOf (l.map enc) = some (l.map fun p => enc p.a)
  | [] => rfl
  | p :: r => by
    show (match fstOf (r.map enc) with
      | some ks => some (enc p.a :: ks)
      | Option.none => Option.none) = _
    rw [fstOf_enc r]; rfl
theorem keys_of {l : List (T2 α β)} {d : D} (h : Fz st d (enc l)) (g : List D → R Val) : onKeys d st g = g (l.map fun p => enc p.a) := by
  unfold onKeys
  rw [h.list]
  dsimp only
  rw [fstOf_enc]
theorem nv_dkx {l : List (T2 Tx β)} (ha : Vv cf a env st l) (hz : (uniq (l.map T2.a)).length < 64) : Nv cf (.bi .dkX (.cons a .nil)) env st (sortX (uniq (l.map T2.a))) :=
  bi1n_of ha fun d hd => by
    show dkXV d st = _
    unfold dkXV
    rw [keys_of hd]
    have e : (l.map fun p => (enc p.a : D)) = ((l.map T2.a).map Tx.str).map D.str := by rw [List.map_map, List.map_map]; rfl
    rw [e, strsOf_map]
    dsimp only
    rw [← uniq_str, if_pos (by rw [List.length_map]; exact hz), encX, sortX_str]
/-! tuples put together -/
theorem tv_rcat {s t : Sn} (ha : Tv cf a env st s) (hb : Tv cf b env st t) (hs : s.isN = true) (ht : t.isN = true) (h0 : 0 < s.its.length) (hz : Sz (s.its ++ t.its)) : Tv cf (.bin .add a b) env st (Sn.n (s.its ++ t.its)) := by
  obtain ⟨v, e1, h1⟩ := ha
  obtain ⟨w, e2, h2⟩ := hb
  have hs' := Sn.its_of hs
  have ht' := Sn.its_of ht
  generalize s.its = xs at *
  generalize t.its = ys at *
  subst hs' ht'
  rw [sn_n] at h1 h2
  refine ⟨Val.v (.tup (xs.map enc ++ ys.map enc)), ?_, by rw [sn_n, List.map_append]; rfl⟩
  rw [evX_bin, e1, R.bind_ok, e2, R.bind_ok, h1, h2]
  show addV (.tup _) (.tup _) st = _
  have hz' := hz.le
  rw [List.length_append] at hz'
  simp only [addV]
  rw [if_pos ⟨by rw [List.length_map]; omega, by rw [List.length_map, List.length_map]; exact hz'⟩]
/-! a row put behind the one taken off a list -/
end
end MP

/-! Dicts of whole numbers; while True. -/
namespace MP
open PySem PySem.Spec PyProof.Rows L2
open Enc (enc)
section
variable {α : Type} [Enc α]
def dfind {β : Type} (l : List (T2 Int β)) (k : Int) : Option β := (l.find? fun p => decide (p.a = k)).map fun p => p.b
def dhas {β : Type} (l : List (T2 Int β)) (k : Int) : Bool := (dfind l k).isSome
def dput {β : Type} (l : List (T2 Int β)) (k : Int) (v : β) : List (T2 Int β) := if dhas l k = true then l.map (fun p => if p.a = k then ⟨p.a, v⟩ else p) else l ++ [⟨k, v⟩]
variable {cf : CF} {env : MP.Env} {st : Sto} {rest : List S} {Q : MP.X → Prop}
end
section
variable {α ρ : Type} [Enc α] {cf : CF} {env : MP.Env} {st : Sto} {rest : List S} (R : ρ → MP.X → Prop)
end
/-! min of pairs -/
/-! the first two of four -/
/-! a list handed on -/
section
variable {α : Type} [Enc α] {cf : CF} {env : MP.Env} {st : Sto} {rest : List S}
theorem wp_retcN {e : E} {l : List α} (h : Nv cf e env st l) : Wp cf (.ret (.cell e) :: rest) env st (QRc l) := by
  have h : evX cf e env st = .ok (.new (l.map enc)) st := h
  have : exL cf (.ret (.cell e) :: rest) env st = .rt (.ref st.length) (st ++ [.lst (l.map enc)]) := by
    rw [exL_cons, exS_ret, evE_eq, evX_cell, h, MP.R.bind_ok, cellR_new, MP.R.bind_ok, MP.R.toX_ok]; rfl
  refine ⟨.ref st.length, st ++ [.lst (l.map enc)], ?_, relc_ref (by simp)⟩
  show endR (exL cf (.ret (.cell e) :: rest) env st) = _
  rw [this]; rfl
end
/-! while True -/
def lp {ρ σ : Type} [Inhabited ρ] (f : σ → Out ρ σ) : Nat → σ → ρ
  | 0, _ => default
  | k + 1, s => match f s with
    | .rt x => x
    | .nx s' => lp f k s'
section
variable {cf : CF} {σ : Type} {body : List S} {tmp : List Nat} {trim : Bool}
end
/-! while, with values handed back from within -/
section
variable {cf : CF} {σ : Type} {body : List S} {tmp : List Nat} {trim : Bool}
end
end MP

/-! Caught exceptions; a value of one of two kinds. -/
namespace MP
open PySem PySem.Spec PyProof.Rows L2
open Enc (enc)
/-- a caught exception, by its class -/
structure Exn where
  c : PySem.Str
instance : Enc Exn := ⟨fun e => D.exc e.c, fun _ => rfl⟩
instance : NS Exn := ⟨fun _ _ h => by cases h⟩
/-- of one of two kinds -/
inductive Un (α β : Type) where
  | l (a : α)
  | r (b : β)
  deriving DecidableEq
instance {α β : Type} [Inhabited α] : Inhabited (Un α β) := ⟨.l default⟩
def Un.isL {α β : Type} : Un α β → Bool
  | .l _ => true
  | .r _ => false
def Un.gl {α β : Type} [Inhabited α] : Un α β → α
  | .l a => a
  | .r _ => default
instance {α β : Type} [Enc α] [Enc β] : Enc (Un α β) := ⟨fun u => match u with
  | .l a => enc a
  | .r b => enc b, fun u => by cases u <;> exact Enc.nr _⟩
class Dj (α β : Type) [Enc α] [Enc β] : Prop where
  l : ∀ (a : α) (b : β), eqD (enc a) (enc b) = false
  r : ∀ (a : α) (b : β), eqD (enc b) (enc a) = false
instance : Dj Int Tx := ⟨fun _ _ => rfl, fun _ _ => rfl⟩
instance : Dj Bool Tx := ⟨fun _ _ => rfl, fun _ _ => rfl⟩
instance {α β : Type} [Enc α] [Enc β] : Dj (T2 α β) Tx := ⟨fun _ _ => rfl, fun _ _ => rfl⟩
instance {α β γ : Type} [Enc α] [Enc β] [Enc γ] : Dj (T3 α β γ) Tx := ⟨fun _ _ => rfl, fun _ _ => rfl⟩
instance {α : Type} [Enc α] : Dj (List α) Tx := ⟨fun _ _ => rfl, fun _ _ => rfl⟩
instance {α β : Type} [Enc α] [Enc β] [Lay α] [Lay β] : Lay (Un α β) := ⟨fun u => by cases u; exact Lay.lay (α := α) _; exact Lay.lay (α := β) _⟩
instance {α β : Type} [DecidableEq α] [DecidableEq β] [Enc α] [Enc β] {n m : Nat} [EqE α n] [EqE β m] [Dj α β] : EqE (Un α β) (max n m) := ⟨fun u => by
  cases u
  · exact Nat.le_trans (EqE.dep (α := α) _) (Nat.le_max_left _ _)
  · exact Nat.le_trans (EqE.dep (α := β) _) (Nat.le_max_right _ _), fun x y => by
  cases x <;> cases y
  · rename_i a b
    show eqD (enc a) (enc b) = _
    rw [EqE.eq]
    by_cases h : a = b <;> simp [h]
  · exact Dj.l (α := α) (β := β) _ _
  · exact Dj.r (α := α) (β := β) _ _
  · rename_i a b
    show eqD (enc a) (enc b) = _
    rw [EqE.eq]
    by_cases h : a = b <;> simp [h]⟩
instance {α β : Type} [Enc α] [Enc β] [NS α] [NS β] : NS (Un α β) := ⟨fun u ds => by cases u; exact NS.ns (α := α) _ ds; exact NS.ns (α := β) _ ds⟩
section
variable {α β γ τ ρ : Type} [Enc α] [Enc β] [Enc γ] [Enc τ] {cf : CF} {env : MP.Env} {st : Sto} {rest : List S}
theorem tv_isinstu {T : String} {a : E} {x : Un α β} {cl cr : Bool} (ha : Tv cf a env st x) (hl : ∀ y : α, ∃ t, tyOf st (enc y) = some t ∧ isinstT T t = cl) (hr : ∀ y : β, ∃ t, tyOf st (enc y) = some t ∧ isinstT T t = cr) : Tv cf (.bi (.isinst T) (.cons a .nil)) env st (if x.isL = true then cl else cr) := by
  obtain ⟨w, e1, h1⟩ := ha
  have key : ∃ t, tyOf st (enc x) = some t ∧ isinstT T t = (if x.isL = true then cl else cr) := by
    cases x with
    | l a => exact hl a
    | r b => exact hr b
  obtain ⟨t, h2, h3⟩ := key
  refine ⟨.v (.bool (if x.isL = true then cl else cr)), ?_, rfl⟩
  rw [evX_bi, evXs_cons, e1, R.bind_ok, evXs_nil, R.bind_ok, R.bind_ok]
  show isinstV T w.d st = _
  unfold isinstV
  rw [h1, h2]
  dsimp only
  rw [h3]
/-! how often True stands in a list -/
/-! ### branches with cells of their own -/
/-! ### two cells at once; a list of two cells -/
/-! ### a condition that refuses -/
/-! ### try -/
end
end MP

/-! Lists in cells that are bound anew: calls over the caller's cells that hand back a new one. -/
namespace MP
open PySem PySem.Spec PyProof.Rows L2
open Enc (enc)
theorem at_set {st : Sto} {n : Nat} {x y : Cell} (h : st[n]? = some x) : (st.set n y)[n]? = some y := by
  rw [List.getElem?_set_self (List.getElem?_eq_some_iff.mp h).1]
section
variable {α β : Type} [Enc α] [Enc β] {cf : CF} {env : MP.Env} {st : Sto} {rest : List S}
end
end MP

/-! A told world whose lists, those within too, are changed. -/
namespace MP
open PySem PySem.Spec PyProof.Rows L2
open Enc (enc)
def refsAt (m k : Nat) : List D := (List.range k).map fun i => .ref (m + i)
section
variable {α β : Type} [Enc α] [Enc β] {cf : CF} {env : MP.Env} {st : Sto} {rest : List S}
abbrev rowC (r : List α) : Cell := .lst (r.map enc)
/-- what such a def hands back -/
structure FolSt (st st' : Sto) (a b lb c lc : Nat) (xa : List α) (xb : List (List β)) (xc : List (List α)) : Prop where
  len : st.length ≤ st'.length
  keep : ∀ i, i < st.length → st'[i]? = st[i]?
  A : st'[a]? = some (.lst (xa.map enc))
  B : st'[b]? = some (.lst (refsAt lb xb.length))
  Bs : ∀ i (h : i < xb.length), st'[lb + i]? = some (rowC xb[i])
  C : st'[c]? = some (.lst (refsAt lc xc.length))
  Cs : ∀ i (h : i < xc.length), st'[lc + i]? = some (rowC xc[i])
  ra : st.length ≤ a
  rb : st.length ≤ b
  rlb : st.length ≤ lb
  rc : st.length ≤ c
  rlc : st.length ≤ lc
  ab : a ≠ b
  ac : a ≠ c
  bc : b ≠ c
  al : ∀ i, i < xb.length → a ≠ lb + i
  al2 : ∀ i, i < xc.length → a ≠ lc + i
  nb : ∀ i, i < xb.length → lb + i ≠ b ∧ lb + i ≠ c
  nc : ∀ i, i < xc.length → lc + i ≠ b ∧ lc + i ≠ c
  bl : ∀ i, i < xb.length → ∀ j, j < xc.length → lb + i ≠ lc + j
/-! reading it -/
theorem readN_row {k n : Nat} {ys : List D} (h : st[n]? = some (.lst ys)) (hn : norefs ys = true) : readN (k + 1) st n = some (.list ys) := by
  unfold readN
  rw [h]
  dsimp only
  rw [norefs_map hn]
section
variable {st0 : Sto} {a b lb c lc : Nat} {x : T3 (List α) (List (List β)) (List (List α))} (F : FolSt st0 st a b lb c lc x.a x.b x.c)
include F
end
/-! the call; what is done to it -/
/-! a tuple whose third is a new list in a cell -/
end
end MP

/-! Dicts whose keys are pairs of whole numbers. -/
namespace MP
open PySem PySem.Spec PyProof.Rows L2
open Enc (enc)
section
variable {α : Type} [Enc α]
variable {cf : CF} {env : MP.Env} {st : Sto} {rest : List S} {Q : MP.X → Prop}
end
section
variable {α ρ : Type} [Enc α] {cf : CF} {env : MP.Env} {st : Sto} {rest : List S} (R : ρ → MP.X → Prop)
end
/-! defs that read the caller's dict -/
section
variable {α β : Type} [Enc α] [Enc β] {cf : CF} {env : MP.Env} {st st0 : Sto} {rest : List S}
end
end MP

/-! Rows that are chosen, each in a cell of its own; loops by the turn's number. -/
namespace MP
open PySem PySem.Spec PyProof.Rows L2
open Enc (enc)
section
variable {α β : Type} [Enc α] [Enc β] {cf : CF} {env : MP.Env} {st : Sto} {rest : List S}
/-- a loop by the turn's number, nothing handed back within -/
theorem wp_forN {Q : MP.X → Prop} {l : List β} {it : It} {tg : Tg} {body : List S} {tmp : List Nat} (I : Nat → MP.Env → Sto → Prop) (envOf : β → MP.Env → MP.Env) (hi : Iw cf it env st l) (h0 : I 0 env st) (hbd : ∀ x env, bindT env tg (enc x) = some (envOf x env))
    (hb : ∀ (i : Nat) (h : i < l.length) (env' : MP.Env) (st' : Sto), I i env' st' → Wp cf body (envOf l[i] env') st' fun r => ∃ env2 st2, r = .nx env2 st2 ∧ I (i + 1) (wipeE env2 tmp) st2)
    (hr : ∀ env' st', I l.length env' st' → Wp cf rest env' st' Q) : Wp cf (.for_ tg it body tmp false :: rest) env st Q := by
  obtain ⟨src, e1, hst⟩ := hi
  have key : ∀ (m : List β) (i : Nat) (env : MP.Env) (st0 : Sto), (∀ j (h : j < m.length), ∃ h' : i + j < l.length, l[i + j] = m[j]) → I i env st0 → ∃ env' st', loopF (stands src (l.map enc)) false st.length tmp (turnF cf tg body) (m.map enc) env st0 = .nx env' st' ∧ I (i + m.length) env' st' := by
    intro m
    induction m with
    | nil => intro i env st0 _ h; exact ⟨env, st0, rfl, h⟩
    | cons x m ih =>
      intro i env st0 hm h
      obtain ⟨hl, ex⟩ := hm 0 (by simp)
      have ex : l[i] = x := ex
      obtain ⟨env2, st2, e2, h2⟩ := hb i (by simpa using hl) env st0 h
      rw [ex] at e2
      rw [List.map_cons]
      unfold loopF
      have t : turnF cf tg body (enc x) env st0 = .nx env2 st2 := by
        unfold turnF
        rw [hbd x env]
        exact e2
      rw [t]
      dsimp only
      have ef : fin false st.length tmp env2 st2 = some (wipeE env2 tmp, st2) := rfl
      rw [ef]
      dsimp only
      rw [if_pos (hst _)]
      obtain ⟨env3, st3, e3, h3⟩ := ih (i + 1) (wipeE env2 tmp) st2 (fun j hj => by
        obtain ⟨h', e⟩ := hm (j + 1) (by simpa using hj)
        refine ⟨by omega, ?_⟩
        have e4 : i + 1 + j = i + (j + 1) := by omega
        have e : l[i + (j + 1)] = m[j] := e
        rw [← e]
        congr 1) h2
      refine ⟨env3, st3, e3, ?_⟩
      rw [List.length_cons, show i + (m.length + 1) = i + 1 + m.length by omega]
      exact h3
  obtain ⟨env', st', e, h⟩ := key l 0 env st (fun j hj => ⟨by omega, by congr 1; omega⟩) h0
  show Q (exL cf (.for_ tg it body tmp false :: rest) env st)
  rw [exL_cons, for_ev e1 (hst st), e, sqX_nx]
  rw [Nat.zero_add] at h
  exact hr env' st' h
end
end MP

/-! Defs that change a list of their caller's. -/
namespace MP
open PySem PySem.Spec PyProof.Rows L2
open Enc (enc)
section
variable {α β : Type} [Enc α] [Enc β] {cf : CF} {env : MP.Env} {st : Sto} {rest : List S}
end
end MP

/-! Papers of judged sentences. -/
namespace MP
open PySem PySem.Spec PyProof.Rows L2
open Enc (enc)
/-- rooms, ranks or None, the papers of the parts -/
inductive Pp where
  | mk (a : List Int) (b : Option (List (Option Int))) (c : List Pp)
instance : Inhabited Pp := ⟨.mk [] none []⟩
mutual
def Pp.enc : Pp → D
  | .mk a b c => D.tup [Enc.enc a, Enc.enc b, D.list (Pp.encs c)]
def Pp.encs : List Pp → List D
  | [] => []
  | a :: r => Pp.enc a :: Pp.encs r
end
theorem Pp.encs_map : ∀ l : List Pp, Pp.encs l = l.map Pp.enc
  | [] => by rw [Pp.encs]; rfl
  | a :: r => by rw [Pp.encs, Pp.encs_map r]; rfl
mutual
theorem Pp.nr : ∀ x : Pp, x.enc.noref = true
  | .mk a b c => by
    rw [Pp.enc]
    show ((Enc.enc a).noref && ((Enc.enc b).noref && ((D.list (Pp.encs c)).noref && true))) = true
    rw [Enc.nr, Enc.nr, show (D.list (Pp.encs c)).noref = norefs (Pp.encs c) from rfl, Pp.nrs c]; rfl
theorem Pp.nrs : ∀ l : List Pp, norefs (Pp.encs l) = true
  | [] => by rw [Pp.encs]; rfl
  | a :: r => by rw [Pp.encs, norefs_cons, Pp.nr a, Pp.nrs r]; first | done | rfl
end
instance : Enc Pp := ⟨Pp.enc, Pp.nr⟩
def Pp.t3 : Pp → T3 (List Int) (Option (List (Option Int))) (List Pp)
  | .mk a b c => ⟨a, b, c⟩
def Pp.of (t : T3 (List Int) (Option (List (Option Int))) (List Pp)) : Pp := .mk t.a t.b t.c
theorem pp_enc (p : Pp) : (enc p : D) = enc p.t3 := by
  cases p with
  | mk a b c =>
    show Pp.enc _ = D.tup [enc a, enc b, D.list (c.map Pp.enc)]
    rw [Pp.enc, Pp.encs_map]
instance : NS Pp := ⟨fun x ds => by rw [pp_enc]; exact NS.ns x.t3 ds⟩
instance : NN Pp := ⟨fun x => by rw [pp_enc]; exact NN.l x.t3, fun x => by rw [pp_enc]; exact NN.r x.t3, fun x => by rw [pp_enc]; exact NN.nn x.t3⟩
mutual
theorem Pp.layL : ∀ x : Pp, x.enc.py.canLay0 = true
  | .mk a b c => by
    rw [Pp.enc]
    show PyData.canLayAll0 [(Enc.enc a).py, (Enc.enc b).py, .list (pys (Pp.encs c))] = true
    simp only [PyData.canLayAll0, PyData.canLay0, Lay.lay, Pp.layLs c, Bool.and_self]
theorem Pp.layLs : ∀ l : List Pp, PyData.canLayAll0 (pys (Pp.encs l)) = true
  | [] => by rw [Pp.encs]; rfl
  | a :: r => by
    rw [Pp.encs]
    show PyData.canLayAll0 (a.enc.py :: pys (Pp.encs r)) = true
    simp only [PyData.canLayAll0, Pp.layL a, Pp.layLs r, Bool.and_self]
end
instance : Lay Pp := ⟨Pp.layL⟩
variable {cf : CF} {env : MP.Env} {st : Sto} {e : E} {rest : List S}
theorem pp_mk (a : List Int) (b : Option (List (Option Int))) (c : List Pp) : (enc (Pp.mk a b c) : D) = .tup [enc a, enc b, enc c] := by
  rw [pp_enc]; rfl
theorem pw_frz (a : List Int) (l : List (Option Int)) (c : List Pp) : frz [rowC l] (.tup [enc a, .ref 0, enc c]) = some (enc (Pp.mk a (some l) c)) := by
  rw [pp_mk]
  exact frz_tup (frzs_cons (frz_of (Enc.nr a)) (frzs_cons (frz_ref (ys := l.map enc) rfl (nrs l)) (frzs_cons (frz_of (Enc.nr c)) frzs_nil)))
def OkW (cf : CF) (f : Nat) (ts : List D) (x : Pp) : Prop := match x with
  | .mk a (some l) c => cf f ts [] = .ok (.tup [enc a, .ref 0, enc c]) [rowC l]
  | .mk a none c => Okp cf f ts (Pp.mk a none c)
theorem OkW.p {f : Nat} {ts : List D} {x : Pp} (h : OkW cf f ts x) : Okp cf f ts x := by
  cases x with
  | mk a b c =>
    cases b with
    | none => exact h
    | some l => exact ⟨_, _, h, pw_frz a l c⟩
end MP

/-! Papers whose lists, those within too, are cells. -/
namespace MP
open PySem PySem.Spec PyProof.Rows L2
open Enc (enc)
/-! the cells of a paper stand from lo on, ahead of hi: those of its parts first -/
mutual
def PapAt (st : Sto) : Pp → Nat → Nat → D → Prop
  | .mk a b c, lo, hi, d => ∃ ds m, PapsAt st c lo m ds ∧ st[m]? = some (.lst ds) ∧ (match b with
    | none => hi = m + 2 ∧ d = .tup [.ref (m + 1), .none, .ref m] ∧ st[m + 1]? = some (rowC a)
    | some l => hi = m + 3 ∧ d = .tup [.ref (m + 2), .ref (m + 1), .ref m] ∧ st[m + 1]? = some (rowC l) ∧ st[m + 2]? = some (rowC a))
def PapsAt (st : Sto) : List Pp → Nat → Nat → List D → Prop
  | [], lo, hi, ds => ds = [] ∧ hi = lo
  | p :: r, lo, hi, ds => ∃ d ds' m, ds = d :: ds' ∧ PapAt st p lo m d ∧ PapsAt st r m hi ds'
end
mutual
theorem PapAt.le {st : Sto} : ∀ {p : Pp} {lo hi : Nat} {d : D}, PapAt st p lo hi d → lo < hi ∧ hi ≤ st.length
  | .mk a b c, lo, hi, d, h => by
    rw [PapAt] at h
    obtain ⟨ds, m, h1, h2, h3⟩ := h
    have l1 := PapsAt.le h1
    cases b with
    | none =>
      obtain ⟨e, _, e2⟩ := h3
      have := (List.getElem?_eq_some_iff.mp e2).1
      omega
    | some l =>
      obtain ⟨e, _, _, e2⟩ := h3
      have := (List.getElem?_eq_some_iff.mp e2).1
      omega
theorem PapsAt.le {st : Sto} : ∀ {c : List Pp} {lo hi : Nat} {ds : List D}, PapsAt st c lo hi ds → lo ≤ hi
  | [], lo, hi, ds, h => by
    rw [PapsAt] at h
    omega
  | p :: r, lo, hi, ds, h => by
    rw [PapsAt] at h
    obtain ⟨d, ds', m, _, h1, h2⟩ := h
    have := (PapAt.le h1).1
    have := PapsAt.le h2
    omega
end
mutual
theorem PapAt.congr {st st' : Sto} : ∀ {p : Pp} {lo hi : Nat} {d : D}, PapAt st p lo hi d → (∀ i, lo ≤ i → i < hi → st'[i]? = st[i]?) → PapAt st' p lo hi d
  | .mk a b c, lo, hi, d, h, q => by
    rw [PapAt] at h ⊢
    obtain ⟨ds, m, h1, h2, h3⟩ := h
    have l1 := PapsAt.le h1
    cases b with
    | none =>
      obtain ⟨e, e1, e2⟩ := h3
      exact ⟨ds, m, PapsAt.congr h1 fun i i0 i1 => q i i0 (by omega), by rw [q m l1 (by omega)]; exact h2, e, e1, by rw [q (m + 1) (by omega) (by omega)]; exact e2⟩
    | some l =>
      obtain ⟨e, e1, e2, e3⟩ := h3
      exact ⟨ds, m, PapsAt.congr h1 fun i i0 i1 => q i i0 (by omega), by rw [q m l1 (by omega)]; exact h2, e, e1, by rw [q (m + 1) (by omega) (by omega)]; exact e2, by rw [q (m + 2) (by omega) (by omega)]; exact e3⟩
theorem PapsAt.congr {st st' : Sto} : ∀ {c : List Pp} {lo hi : Nat} {ds : List D}, PapsAt st c lo hi ds → (∀ i, lo ≤ i → i < hi → st'[i]? = st[i]?) → PapsAt st' c lo hi ds
  | [], lo, hi, ds, h, q => by
    rw [PapsAt] at h ⊢
    exact h
  | p :: r, lo, hi, ds, h, q => by
    rw [PapsAt] at h ⊢
    obtain ⟨d, ds', m, e, h1, h2⟩ := h
    have := (PapAt.le h1).1
    have := PapsAt.le h2
    exact ⟨d, ds', m, e, PapAt.congr h1 fun i i0 i1 => q i i0 (by omega), PapsAt.congr h2 fun i i0 i1 => q i (by omega) i1⟩
end
/-! .. they read as the paper -/
mutual
theorem PapAt.rd {st : Sto} : ∀ {p : Pp} {lo hi : Nat} {d : D} {k : Nat}, PapAt st p lo hi d → hi ≤ k → d.mapRef (readN k st) = some (enc p)
  | .mk a b c, lo, hi, d, k, h, hk => by
    rw [PapAt] at h
    obtain ⟨ds, m, h1, h2, h3⟩ := h
    have mk : ∀ k' : Nat, m ≤ k' → readN (k' + 1) st m = some (.list (c.map enc)) := fun k' hk' => by
      unfold readN
      rw [h2]
      dsimp only
      rw [PapsAt.rd h1 hk']
    cases b with
    | none =>
      obtain ⟨e, e1, e2⟩ := h3
      obtain ⟨k', rfl⟩ : ∃ k', k = k' + 1 := ⟨k - 1, by omega⟩
      rw [e1, pp_mk]
      simp only [D.mapRef, mapRefs, mk k' (by omega), readN_row e2 (nrs a)]
      rfl
    | some l =>
      obtain ⟨e, e1, e2, e3⟩ := h3
      obtain ⟨k', rfl⟩ : ∃ k', k = k' + 1 := ⟨k - 1, by omega⟩
      rw [e1, pp_mk]
      simp only [D.mapRef, mapRefs, mk k' (by omega), readN_row e2 (nrs l), readN_row e3 (nrs a)]
      rfl
theorem PapsAt.rd {st : Sto} : ∀ {c : List Pp} {lo hi : Nat} {ds : List D} {k : Nat}, PapsAt st c lo hi ds → hi ≤ k → mapRefs (readN k st) ds = some (c.map enc)
  | [], lo, hi, ds, k, h, hk => by
    rw [PapsAt] at h
    rw [h.1]; rfl
  | p :: r, lo, hi, ds, k, h, hk => by
    rw [PapsAt] at h
    obtain ⟨d, ds', m, e, h1, h2⟩ := h
    have := PapsAt.le h2
    rw [e, mapRefs, PapAt.rd h1 (by omega), PapsAt.rd h2 hk]
    rfl
end
theorem PapAt.frz {st : Sto} {p : Pp} {lo hi : Nat} {d : D} (h : PapAt st p lo hi d) : frz st d = some (enc p) := h.rd h.le.2
/-! the list of the parts stands -/
theorem PapAt.same {st : Sto} {p : Pp} {lo hi : Nat} {d : D} (h : PapAt st p lo hi d) : D.same d d = true := by
  cases p with
  | mk a b c =>
    rw [PapAt] at h
    obtain ⟨ds, m, h1, h2, h3⟩ := h
    cases b with
    | none => obtain ⟨e, e1, _⟩ := h3; rw [e1]; simp [D.same, sames]
    | some l => obtain ⟨e, e1, _⟩ := h3; rw [e1]; simp [D.same, sames]
theorem PapsAt.sames {st : Sto} : ∀ {c : List Pp} {lo hi : Nat} {ds : List D}, PapsAt st c lo hi ds → sames ds ds = true
  | [], lo, hi, ds, h => by
    rw [PapsAt] at h
    rw [h.1]; rfl
  | p :: r, lo, hi, ds, h => by
    rw [PapsAt] at h
    obtain ⟨d, ds', m, e, h1, h2⟩ := h
    rw [e]
    show (D.same d d && MP.sames ds' ds') = true
    rw [h1.same, PapsAt.sames h2]; rfl
theorem PapsAt.length {st : Sto} : ∀ {c : List Pp} {lo hi : Nat} {ds : List D}, PapsAt st c lo hi ds → ds.length = c.length
  | [], lo, hi, ds, h => by
    rw [PapsAt] at h
    rw [h.1]; rfl
  | p :: r, lo, hi, ds, h => by
    rw [PapsAt] at h
    obtain ⟨d, ds', m, e, h1, h2⟩ := h
    rw [e, List.length_cons, List.length_cons, PapsAt.length h2]
section
variable {α β : Type} [Enc α] [Enc β] {cf : CF} {env : MP.Env} {st : Sto} {rest : List S}
def Pp.fit : Nat → Pp → Prop
  | 0, _ => False
  | k + 1, p => p.t3.a.length ≤ 1000 ∧ (∀ l, p.t3.b = some l → l.length ≤ 1000) ∧ p.t3.c.length ≤ 1000 ∧ ∀ q ∈ p.t3.c, Pp.fit k q
end
end MP

/-! Papers over cells of known kinds, some of them shared. -/
namespace MP
open PySem PySem.Spec PyProof.Rows L2
open Enc (enc)
/-- a list of rooms, of ranks, of papers of parts (less than so high), or another cell -/
inductive Kd where
  | r | k | p (h : Nat) | o
def PV (Γ : List Kd) (h : Nat) (d : D) : Prop := ∃ a rk c h', d = .tup [.ref a, rk, .ref c] ∧ Γ[a]? = some .r ∧ (rk = .none ∨ ∃ b, rk = .ref b ∧ Γ[b]? = some .k) ∧ Γ[c]? = some (.p h') ∧ h' < h
def CellOk (B : Nat) (Γ : List Kd) : Kd → Cell → Prop
  | .r, c => ∃ l : List Int, c = rowC l ∧ l.length ≤ B
  | .k, c => ∃ l : List (Option Int), c = rowC l ∧ l.length ≤ B
  | .p h, c => ∃ ds, c = .lst ds ∧ ds.length ≤ B ∧ ∀ d ∈ ds, PV Γ h d
  | .o, _ => True
structure StOk (B : Nat) (Γ : List Kd) (st : Sto) : Prop where
  len : Γ.length = st.length
  cell : ∀ (i : Nat) (kd : Kd) (c : Cell), Γ[i]? = some kd → st[i]? = some c → CellOk B Γ kd c
section
variable {B : Nat} {Γ : List Kd} {st : Sto}
theorem get_app {α : Type} {l m : List α} {i : Nat} {x : α} (h : l[i]? = some x) : (l ++ m)[i]? = some x := by
  rw [List.getElem?_append_left (List.getElem?_eq_some_iff.mp h).1]; exact h
theorem PV.app {h : Nat} {d : D} (v : PV Γ h d) (Δ : List Kd) : PV (Γ ++ Δ) h d := by
  obtain ⟨a, rk, c, h', e, e1, e2, e3, e4⟩ := v
  exact ⟨a, rk, c, h', e, get_app e1, e2.imp id fun ⟨b, q, z⟩ => ⟨b, q, get_app z⟩, get_app e3, e4⟩
theorem PV.mono {h h2 : Nat} {d : D} (v : PV Γ h d) (q : h ≤ h2) : PV Γ h2 d := by
  obtain ⟨a, rk, c, h', e, e1, e2, e3, e4⟩ := v
  exact ⟨a, rk, c, h', e, e1, e2, e3, by omega⟩
theorem CellOk.app {kd : Kd} {c : Cell} (v : CellOk B Γ kd c) (Δ : List Kd) : CellOk B (Γ ++ Δ) kd c := by
  cases kd with
  | r => exact v
  | k => exact v
  | p h =>
    obtain ⟨ds, e, e1, e2⟩ := v
    exact ⟨ds, e, e1, fun d hd => (e2 d hd).app Δ⟩
  | o => trivial
theorem CellOk.mono {C : Nat} {kd : Kd} {c : Cell} (v : CellOk B Γ kd c) (q : B ≤ C) : CellOk C Γ kd c := by
  cases kd with
  | r => obtain ⟨l, e, e1⟩ := v; exact ⟨l, e, by omega⟩
  | k => obtain ⟨l, e, e1⟩ := v; exact ⟨l, e, by omega⟩
  | p h =>
    obtain ⟨ds, e, e1, e2⟩ := v
    exact ⟨ds, e, by omega, e2⟩
  | o => trivial
theorem StOk.mono {C : Nat} (h : StOk B Γ st) (q : B ≤ C) : StOk C Γ st := ⟨h.len, fun i kd c e1 e2 => (h.cell i kd c e1 e2).mono q⟩
theorem StOk.at_ (h : StOk B Γ st) {i : Nat} {kd : Kd} (e : Γ[i]? = some kd) : ∃ c, st[i]? = some c ∧ CellOk B Γ kd c := by
  have := (List.getElem?_eq_some_iff.mp e).1
  have hl := h.len
  have e2 : st[i]? = some st[i] := List.getElem?_eq_getElem (by omega)
  exact ⟨_, e2, h.cell i kd _ e e2⟩
theorem StOk.r (h : StOk B Γ st) {i : Nat} (e : Γ[i]? = some .r) : ∃ l : List Int, st[i]? = some (rowC l) ∧ l.length ≤ B := by
  obtain ⟨c, e1, l, rfl, e3⟩ := h.at_ e
  exact ⟨l, e1, e3⟩
theorem StOk.k (h : StOk B Γ st) {i : Nat} (e : Γ[i]? = some .k) : ∃ l : List (Option Int), st[i]? = some (rowC l) ∧ l.length ≤ B := by
  obtain ⟨c, e1, l, rfl, e3⟩ := h.at_ e
  exact ⟨l, e1, e3⟩
theorem StOk.p (h : StOk B Γ st) {i k : Nat} (e : Γ[i]? = some (.p k)) : ∃ ds, st[i]? = some (.lst ds) ∧ ds.length ≤ B ∧ ∀ d ∈ ds, PV Γ k d := by
  obtain ⟨c, e1, l, rfl, e3⟩ := h.at_ e
  exact ⟨l, e1, e3⟩
theorem StOk.set (h : StOk B Γ st) {C : Nat} (q : B ≤ C) {i : Nat} {kd : Kd} {c : Cell} (e : Γ[i]? = some kd) (hc : CellOk C Γ kd c) : StOk C Γ (st.set i c) := by
  refine ⟨by rw [List.length_set]; exact h.len, fun j kd' c' e1 e2 => ?_⟩
  by_cases z : i = j
  · subst z
    obtain ⟨c0, e0, _⟩ := h.at_ e
    rw [at_set e0] at e2
    cases e2
    rw [e] at e1
    cases e1
    exact hc
  · rw [List.getElem?_set_ne z] at e2
    exact (h.cell j kd' c' e1 e2).mono q
theorem StOk.new (h : StOk B Γ st) {C : Nat} (q : B ≤ C) {kd : Kd} {c : Cell} (hc : CellOk C Γ kd c) : StOk C (Γ ++ [kd]) (st ++ [c]) := by
  have hl := h.len
  refine ⟨by rw [List.length_append, List.length_append, hl]; rfl, fun j kd' c' e1 e2 => ?_⟩
  by_cases z : j < Γ.length
  · rw [List.getElem?_append_left z] at e1
    rw [List.getElem?_append_left (by omega)] at e2
    exact ((h.cell j kd' c' e1 e2).mono q).app _
  · have lj := (List.getElem?_eq_some_iff.mp e1).1
    rw [List.length_append, List.length_singleton] at lj
    obtain rfl : j = Γ.length := by omega
    rw [List.getElem?_append_right (Nat.le_refl _), Nat.sub_self] at e1
    rw [hl, List.getElem?_append_right (Nat.le_refl _), Nat.sub_self] at e2
    cases e1
    cases e2
    exact hc.app _
theorem StOk.last (h : StOk B Γ st) {kd : Kd} : (Γ ++ [kd])[st.length]? = some kd := by
  rw [← h.len, List.getElem?_append_right (Nat.le_refl _), Nat.sub_self]; rfl
end
/-! what such cells read as -/
mutual
def Pp.bd (B : Nat) : Pp → Prop
  | .mk a b c => a.length ≤ B ∧ (∀ l, b = some l → l.length ≤ B) ∧ c.length ≤ B ∧ Pp.bds B c
def Pp.bds (B : Nat) : List Pp → Prop
  | [] => True
  | p :: r => Pp.bd B p ∧ Pp.bds B r
end
mutual
def Pp.ht : Pp → Nat
  | .mk _ _ c => Pp.hts c + 1
def Pp.hts : List Pp → Nat
  | [] => 0
  | p :: r => max (Pp.ht p) (Pp.hts r)
end
/-! papers compared with themselves -/
mutual
theorem Pp.eqs : ∀ p : Pp, eqD (Pp.enc p) (Pp.enc p) = true
  | .mk a b c => by
    rw [Pp.enc]
    show PyData.eqv (.tuple [(Enc.enc a).py, (Enc.enc b).py, .list (pys (Pp.encs c))]) (.tuple [(Enc.enc a).py, (Enc.enc b).py, .list (pys (Pp.encs c))]) = true
    have h1 : PyData.eqv (Enc.enc a).py (Enc.enc a).py = true := (EqE.eq a a).trans (decide_eq_true rfl)
    have h2 : PyData.eqv (Enc.enc b).py (Enc.enc b).py = true := (EqE.eq b b).trans (decide_eq_true rfl)
    simp only [PyData.eqv, PyData.eqvAll, h1, h2, Pp.eqss c, Bool.and_self]
theorem Pp.eqss : ∀ l : List Pp, PyData.eqvAll (pys (Pp.encs l)) (pys (Pp.encs l)) = true
  | [] => by rw [Pp.encs]; rfl
  | a :: r => by
    rw [Pp.encs]
    show PyData.eqvAll (a.enc.py :: pys (Pp.encs r)) (a.enc.py :: pys (Pp.encs r)) = true
    have h1 : PyData.eqv a.enc.py a.enc.py = true := Pp.eqs a
    simp only [PyData.eqvAll, h1, Pp.eqss r, Bool.and_self]
end
mutual
theorem Pp.dep : ∀ p : Pp, (Pp.enc p).py.depth ≤ 2 * Pp.ht p
  | .mk a b c => by
    rw [Pp.enc, Pp.ht]
    show PyData.depth (.tuple [(Enc.enc a).py, (Enc.enc b).py, .list (pys (Pp.encs c))]) ≤ _
    have h1 : (Enc.enc a : D).py.depth ≤ 1 := EqE.dep a
    have h2 : (Enc.enc b : D).py.depth ≤ 1 := EqE.dep b
    have h3 := Pp.deps c
    simp only [PyData.depth, PyData.depthAll]
    omega
theorem Pp.deps : ∀ l : List Pp, PyData.depthAll (pys (Pp.encs l)) ≤ 2 * Pp.hts l
  | [] => by rw [Pp.encs]; exact Nat.zero_le _
  | a :: r => by
    rw [Pp.encs, Pp.hts]
    show PyData.depthAll (a.enc.py :: pys (Pp.encs r)) ≤ _
    have h1 := Pp.dep a
    have h2 := Pp.deps r
    simp only [PyData.depthAll]
    omega
end
/-! the kinds of a paper's cells -/
def kdb : Option (List (Option Int)) → List Kd
  | none => [.r]
  | some _ => [.k, .r]
mutual
def Pp.kds : Pp → List Kd
  | .mk _ b c => Pp.kdss c ++ .p (Pp.hts c) :: kdb b
def Pp.kdss : List Pp → List Kd
  | [] => []
  | p :: r => Pp.kds p ++ Pp.kdss r
end
mutual
theorem Pp.ht_kds : ∀ p : Pp, Pp.ht p ≤ (Pp.kds p).length
  | .mk a b c => by
    have := Pp.hts_kds c
    rw [Pp.ht, Pp.kds, List.length_append, List.length_cons]
    omega
theorem Pp.hts_kds : ∀ l : List Pp, Pp.hts l ≤ (Pp.kdss l).length
  | [] => Nat.zero_le _
  | p :: r => by
    have := Pp.ht_kds p
    have := Pp.hts_kds r
    rw [Pp.hts, Pp.kdss, List.length_append]
    omega
end
mutual
theorem Pp.bd.mono {B C : Nat} (q : B ≤ C) : ∀ {p : Pp}, Pp.bd B p → Pp.bd C p
  | .mk a b c, h => ⟨Nat.le_trans h.1 q, fun l e => Nat.le_trans (h.2.1 l e) q, Nat.le_trans h.2.2.1 q, Pp.bds.mono q h.2.2.2⟩
theorem Pp.bds.mono {B C : Nat} (q : B ≤ C) : ∀ {l : List Pp}, Pp.bds B l → Pp.bds C l
  | [], _ => trivial
  | p :: r, h => ⟨Pp.bd.mono q h.1, Pp.bds.mono q h.2⟩
end
def Seg (Γ : List Kd) (lo : Nat) (Δ : List Kd) : Prop := ∀ (i : Nat) (x : Kd), Δ[i]? = some x → Γ[lo + i]? = some x
theorem Seg.left {Γ Δ Δ' : List Kd} {lo : Nat} (h : Seg Γ lo (Δ ++ Δ')) : Seg Γ lo Δ := fun i x e => h i x (get_app e)
theorem Seg.right {Γ Δ Δ' : List Kd} {lo : Nat} (h : Seg Γ lo (Δ ++ Δ')) : Seg Γ (lo + Δ.length) Δ' := fun i x e => by
  have := h (Δ.length + i) x (by rw [List.getElem?_append_right (Nat.le_add_right _ _), Nat.add_sub_cancel_left]; exact e)
  rw [Nat.add_assoc]; exact this
mutual
theorem PapAt.len {st : Sto} : ∀ {p : Pp} {lo hi : Nat} {d : D}, PapAt st p lo hi d → hi = lo + (Pp.kds p).length
  | .mk a b c, lo, hi, d, h => by
    rw [PapAt] at h
    obtain ⟨ds, m, h1, h2, h3⟩ := h
    have l1 := PapsAt.len h1
    rw [Pp.kds, List.length_append, List.length_cons]
    cases b with
    | none =>
      obtain ⟨e, _⟩ := h3
      show hi = lo + (_ + (1 + 1)); omega
    | some l =>
      obtain ⟨e, _⟩ := h3
      show hi = lo + (_ + (2 + 1)); omega
theorem PapsAt.len {st : Sto} : ∀ {c : List Pp} {lo hi : Nat} {ds : List D}, PapsAt st c lo hi ds → hi = lo + (Pp.kdss c).length
  | [], lo, hi, ds, h => by
    rw [PapsAt] at h
    rw [Pp.kdss]
    show hi = lo + 0
    omega
  | p :: r, lo, hi, ds, h => by
    rw [PapsAt] at h
    obtain ⟨d, ds', m, _, h1, h2⟩ := h
    have := PapAt.len h1
    have := PapsAt.len h2
    rw [Pp.kdss, List.length_append]
    omega
end
mutual
theorem PapAt.ty {st : Sto} {B : Nat} {Γ : List Kd} : ∀ {p : Pp} {lo hi : Nat} {d : D}, PapAt st p lo hi d → Pp.bd B p → Seg Γ lo (Pp.kds p) → PV Γ (Pp.ht p) d ∧ ∀ (i : Nat) (kd : Kd) (c : Cell), lo ≤ i → i < hi → Γ[i]? = some kd → st[i]? = some c → CellOk B Γ kd c
  | .mk a b c, lo, hi, d, h, hb, hs => by
    rw [PapAt] at h
    obtain ⟨ds, m, h1, h2, h3⟩ := h
    obtain ⟨b1, b2, b3, b4⟩ := hb
    rw [Pp.kds] at hs
    have l1 := PapsAt.len h1
    obtain ⟨t1, t2⟩ := PapsAt.ty h1 b4 hs.left
    have hr := hs.right
    rw [← l1] at hr
    have em : Γ[m]? = some (.p (Pp.hts c)) := hr 0 _ rfl
    have cm : CellOk B Γ (.p (Pp.hts c)) (.lst ds) := ⟨ds, rfl, by rw [h1.length]; exact b3, t1⟩
    cases b with
    | none =>
      obtain ⟨e, e1, e2⟩ := h3
      have ea : Γ[m + 1]? = some .r := hr 1 _ rfl
      refine ⟨⟨m + 1, .none, m, Pp.hts c, e1, ea, .inl rfl, em, by rw [Pp.ht]; omega⟩, fun i kd c' i0 i1 g1 g2 => ?_⟩
      have : i < m ∨ i = m ∨ i = m + 1 := by omega
      rcases this with z | rfl | rfl
      · exact t2 i kd c' i0 z g1 g2
      · rw [em] at g1; rw [h2] at g2
        cases g1; cases g2; exact cm
      · rw [ea] at g1; rw [e2] at g2
        cases g1; cases g2; exact ⟨a, rfl, b1⟩
    | some l =>
      obtain ⟨e, e1, e2, e3⟩ := h3
      have ek : Γ[m + 1]? = some .k := hr 1 _ rfl
      have ea : Γ[m + 2]? = some .r := hr 2 _ rfl
      refine ⟨⟨m + 2, .ref (m + 1), m, Pp.hts c, e1, ea, .inr ⟨m + 1, rfl, ek⟩, em, by rw [Pp.ht]; omega⟩, fun i kd c' i0 i1 g1 g2 => ?_⟩
      have : i < m ∨ i = m ∨ i = m + 1 ∨ i = m + 2 := by omega
      rcases this with z | rfl | rfl | rfl
      · exact t2 i kd c' i0 z g1 g2
      · rw [em] at g1; rw [h2] at g2
        cases g1; cases g2; exact cm
      · rw [ek] at g1; rw [e2] at g2
        cases g1; cases g2; exact ⟨l, rfl, b2 l rfl⟩
      · rw [ea] at g1; rw [e3] at g2
        cases g1; cases g2; exact ⟨a, rfl, b1⟩
theorem PapsAt.ty {st : Sto} {B : Nat} {Γ : List Kd} : ∀ {c : List Pp} {lo hi : Nat} {ds : List D}, PapsAt st c lo hi ds → Pp.bds B c → Seg Γ lo (Pp.kdss c) → (∀ d ∈ ds, PV Γ (Pp.hts c) d) ∧ ∀ (i : Nat) (kd : Kd) (c' : Cell), lo ≤ i → i < hi → Γ[i]? = some kd → st[i]? = some c' → CellOk B Γ kd c'
  | [], lo, hi, ds, h, _, _ => by
    rw [PapsAt] at h
    rw [h.1]
    exact ⟨fun _ hd => (nomatch hd), fun i _ _ i0 i1 _ _ => by omega⟩
  | p :: r, lo, hi, ds, h, hb, hs => by
    rw [PapsAt] at h
    obtain ⟨d, ds', m, e, h1, h2⟩ := h
    rw [Pp.kdss] at hs
    have l1 := PapAt.len h1
    obtain ⟨t1, t2⟩ := PapAt.ty h1 hb.1 hs.left
    have hr := hs.right
    rw [← l1] at hr
    obtain ⟨u1, u2⟩ := PapsAt.ty h2 hb.2 hr
    refine ⟨fun x hx => ?_, fun i kd c' i0 i1 g1 g2 => ?_⟩
    · rw [e] at hx
      rcases List.mem_cons.mp hx with z | z
      · rw [z]; exact t1.mono (by rw [Pp.hts]; omega)
      · exact (u1 x z).mono (by rw [Pp.hts]; omega)
    · rcases Nat.lt_or_ge i m with z | z
      · exact t2 i kd c' i0 z g1 g2
      · exact u2 i kd c' z i1 g1 g2
end
/-- behind some other cells -/
theorem PapAt.ok {st cells : Sto} {B : Nat} {p : Pp} {d : D} (h : PapAt (st ++ cells) p st.length (st ++ cells).length d) (hb : Pp.bd B p) : ∃ Γ, StOk B Γ (st ++ cells) ∧ PV Γ (Pp.ht p) d := by
  have hl := h.len
  obtain ⟨Γ, hΓ⟩ : ∃ Γ, Γ = List.replicate st.length Kd.o ++ Pp.kds p := ⟨_, rfl⟩
  have hs : Seg Γ st.length (Pp.kds p) := fun i x e => by
    rw [hΓ, List.getElem?_append_right (by rw [List.length_replicate]; omega), List.length_replicate, Nat.add_sub_cancel_left]
    exact e
  obtain ⟨t1, t2⟩ := h.ty hb hs
  refine ⟨Γ, ⟨by rw [hΓ, List.length_append, List.length_replicate, hl], fun i kd c e1 e2 => ?_⟩, t1⟩
  rcases Nat.lt_or_ge i st.length with z | z
  · rw [hΓ, List.getElem?_append_left (by rw [List.length_replicate]; exact z), List.getElem?_replicate_of_lt z] at e1
    cases e1
    trivial
  · exact t2 i kd c z (List.getElem?_eq_some_iff.mp e2).1 e1 e2
/-! steps over such cells -/
section
variable {cf : CF} {env : MP.Env} {st : Sto} {rest : List S} {Q : MP.X → Prop}
end
/-! one paper that is being changed: the lists of papers that stand so high stay -/
structure SJ (Γ0 : List Kd) (s0 : Sto) (h B : Nat) (Γ : List Kd) (s : Sto) (a : Nat) (rk : D) (c : Nat) : Prop where
  ext : ∃ Δ, Γ = Γ0 ++ Δ
  ok : StOk B Γ s
  a : Γ[a]? = some .r
  k : rk = .none ∨ ∃ b, rk = .ref b ∧ Γ[b]? = some .k
  c : ∃ h', Γ[c]? = some (.p h') ∧ h' < h
  far : ∀ (i h2 : Nat), Γ0[i]? = some (.p h2) → h ≤ h2 → s[i]? = s0[i]?
section
variable {Γ0 Γ : List Kd} {h B : Nat} {s s0 : Sto} {a : Nat} {rk : D} {c : Nat}
theorem SJ.of {d : D} (S : StOk B Γ s) (v : PV Γ h d) : ∃ a rk c, d = .tup [.ref a, rk, .ref c] ∧ SJ Γ s h B Γ s a rk c := by
  obtain ⟨a, rk, c, h', e, e1, e2, e3, e4⟩ := v
  exact ⟨a, rk, c, e, ⟨[], by rw [List.append_nil]⟩, S, e1, e2, ⟨h', e3, e4⟩, fun _ _ _ _ => rfl⟩
theorem SJ.pv (J : SJ Γ0 s0 h B Γ s a rk c) : PV Γ h (.tup [.ref a, rk, .ref c]) := by
  obtain ⟨h', e, z⟩ := J.c
  exact ⟨a, rk, c, h', rfl, J.a, J.k, e, z⟩
theorem SJ.mono (J : SJ Γ0 s0 h B Γ s a rk c) {C : Nat} (q : B ≤ C) : SJ Γ0 s0 h C Γ s a rk c := ⟨J.ext, J.ok.mono q, J.a, J.k, J.c, J.far⟩
theorem SJ.set (J : SJ Γ0 s0 h B Γ s a rk c) {i : Nat} {kd : Kd} {x : Cell} (e : Γ[i]? = some kd) (hc : CellOk (B + 1) Γ kd x) (low : ∀ h2, kd = .p h2 → h2 < h) : SJ Γ0 s0 h (B + 1) Γ (s.set i x) a rk c :=
  ⟨J.ext, J.ok.set (Nat.le_succ _) e hc, J.a, J.k, J.c, fun j h2 e2 hh => by
    obtain ⟨Δ, ex⟩ := J.ext
    by_cases z : i = j
    · subst z
      rw [ex, get_app e2] at e
      cases e
      have := low h2 rfl
      omega
    · rw [List.getElem?_set_ne z]; exact J.far j h2 e2 hh⟩
theorem SJ.new (J : SJ Γ0 s0 h B Γ s a rk c) {kd : Kd} {x : Cell} (hc : CellOk B Γ kd x) : SJ Γ0 s0 h B (Γ ++ [kd]) (s ++ [x]) a rk c := by
  obtain ⟨Δ, e⟩ := J.ext
  obtain ⟨h', e3, z⟩ := J.c
  refine ⟨⟨Δ ++ [kd], by rw [e, List.append_assoc]⟩, J.ok.new (Nat.le_refl _) hc, get_app J.a, J.k.imp id fun ⟨b, q, z⟩ => ⟨b, q, get_app z⟩, ⟨h', get_app e3, z⟩, fun j h2 e2 hh => ?_⟩
  have l1 := (List.getElem?_eq_some_iff.mp e2).1
  have l2 := J.ok.len
  rw [e, List.length_append] at l2
  rw [List.getElem?_append_left (by omega)]
  exact J.far j h2 e2 hh
end
end MP

/-! Texts joined, small letters, a table's entry or a number. -/
namespace MP
open PySem PySem.Spec PyProof.Rows L2
open Enc (enc)
def joinC (s : List Char) : List (List Char) → List Char
  | [] => []
  | [p] => p
  | p :: q :: r => p ++ (s ++ joinC s (q :: r))
def Tx.join (s : Tx) (l : List Tx) : Tx := ⟨joinC s.cs (l.map Tx.cs)⟩
theorem tl_str (t : Tx) : TL.tl t.str = t.cs.map Char.toNat := by
  show ((t.cs.map Char.toNat).toArray).toList = _
  simp
section
variable {cf : CF} {env : MP.Env} {st : Sto}
end
end MP

/-! Texts each once, dicts with text keys, pieces of trees. -/
namespace MP
open PySem PySem.Spec PyProof.Rows L2
open Enc (enc)
section
variable {cf : CF} {env : MP.Env} {st : Sto} {rest : List S}
theorem nv_sortsetx {a : E} {l : List Tx} (ha : Vv cf a env st l) (hz : l.length ≤ 1000 ∧ (uniq l).length < 64) : Nv cf (.bi .setX (.cons a .nil)) env st (sortX (uniq l)) :=
  bi1n_of ha fun d hd => by
    show onStrs d st _ = _
    rw [strs_of hd, if_pos ⟨by rw [List.length_map]; exact hz.1, by rw [← uniq_str, List.length_map]; exact hz.2⟩, encX, sortX_str, uniq_str]
/-- a piece of a tree's tuple, not the whole -/
theorem tv_rpart {a lo hi : E} {s : Sn} {i j : Option Int} (ha : Tv cf a env st s) (hn : s.isN = true) (hl : Bv cf lo env st i) (hh : Bv cf hi env st j) (h : ¬ (HT.sIx s.its.length 0 i = 0 ∧ HT.sIx s.its.length s.its.length j = s.its.length)) : Tv cf (.sl a lo hi) env st (Sn.n (cut s.its i j)) := by
  obtain ⟨v, e1, h1⟩ := ha
  obtain ⟨w1, e2, h2⟩ := hl
  obtain ⟨w2, e3, h3⟩ := hh
  have es := Sn.its_of hn
  generalize s.its = l at *
  subst es
  refine ⟨.v (enc (Sn.n (cut l i j))), ?_, rfl⟩
  rw [evX_sl, e1, MP.R.bind_ok, e2, MP.R.bind_ok, h2]
  dsimp only
  rw [e3, MP.R.bind_ok, h3]
  dsimp only
  rw [h1, sn_n, sn_n]
  have hl2 : (l.map (enc : Sn → D)).length = l.length := List.length_map _
  show (if HT.sIx (l.map (enc : Sn → D)).length 0 i = 0 ∧ HT.sIx (l.map (enc : Sn → D)).length (l.map (enc : Sn → D)).length j = (l.map (enc : Sn → D)).length then MP.R.stuck else MP.R.ok (Val.v (.tup (cutA (l.map (enc : Sn → D)) i j))) st) = _
  rw [hl2, if_neg h]
  have e : cutA (l.map (enc : Sn → D)) i j = (cut l i j).map enc := by
    unfold cut cutA
    rw [hl2, List.map_take, List.map_drop]
  rw [e]
/-! a dict of texts and numbers in a cell -/
def dxC (T : List (Tx × Int)) : Cell := .dk (T.map fun p => Sum.inr p.1.str) (T.map fun p => D.int p.2)
theorem look_x (t : Tx) : ∀ T : List (Tx × Int), lookK (Sum.inr t.str : L2.Key) (T.map fun p => Sum.inr p.1.str) (T.map fun p => D.int p.2) = (lookX t T).map D.int
  | [] => rfl
  | (a, k) :: T => by
    show (if (Sum.inr a.str : L2.Key) = Sum.inr t.str then some (D.int k) else lookK (Sum.inr t.str : L2.Key) (T.map fun p => Sum.inr p.1.str) (T.map fun p => D.int p.2)) = _
    unfold lookX
    by_cases h : a = t
    · subst h
      rw [if_pos rfl]
      first | rw [if_pos rfl] | simp
      rfl
    · rw [if_neg (fun e => h (Tx.inj (by injection e))), look_x t T]
      have : (a == t) = false ∨ True := .inr trivial
      first | rw [if_neg h] | simp [h]
theorem wp_dlitX {Q : MP.X → Prop} {j : Nat} {T : List (Tx × Int)} {ks : List Str} {vs : List Int} (hk : ks = T.map fun p => p.1.str) (hv : vs = T.map fun p => p.2) (h : ks.Nodup ∧ ks.length = vs.length ∧ ks.length ≤ 15 ∧ ks ≠ []) (hr : Wp cf rest (env.set j (some (.ref st.length))) (st ++ [dxC T]) Q) : Wp cf (.set j (.bi (.dlitX ks vs) .nil) :: rest) env st Q := by
  refine wp_step ?_ hr
  rw [exS_set, evE_eq, evX_bi, evXs_nil, MP.R.bind_ok]
  show ((if ks.Nodup ∧ ks.length = vs.length ∧ ks.length ≤ 15 ∧ ks ≠ [] then MP.R.ok (Val.v (.ref st.length)) (st ++ [.dk (ks.map Sum.inr) (vs.map D.int)]) else .stuck).bind fun x st => MP.R.ok x.d st).toX env _ = _
  rw [if_pos h, MP.R.bind_ok, MP.R.toX_ok, hk, hv, List.map_map, List.map_map]
  rfl
/-- a new key -/
theorem wp_dputX {Q : MP.X → Prop} {i n : Nat} {e f : E} {T : List (Tx × Int)} {t : Tx} {k : Int} (hv : env[i]? = some (some (.ref n))) (hn : st[n]? = some (dxC T)) (hf : Vv cf f env st t) (h : Tv cf e env st k) (hz : T.length < 16777216) (new : lookX t T = none) (hr : Wp cf rest env (st.set n (dxC (T ++ [(t, k)]))) Q) :
    Wp cf (.dput (.var i) f e :: rest) env st Q := by
  obtain ⟨w, e1, h1⟩ := h
  obtain ⟨v, e2, h2⟩ := hf.t
  have h2 : v.d = .str t.str := h2
  refine wp_step ?_ hr
  have hs : sizeLine = 16777216 := sizeLine_eq
  rw [exS_dput, evE_eq, e1, MP.R.bind_ok, MP.R.toX_ok, evE_eq, evX_var, hv]
  dsimp only
  rw [MP.R.bind_ok, MP.R.toX_ok, evE_eq, e2, MP.R.bind_ok, MP.R.toX_ok, h1, h2]
  unfold dputR
  have e : dputV (isTupE f) (Val.v (D.ref n)).d (.str t.str) (enc k) st = some (st.set n (dxC (T ++ [(t, k)]))) := by
    show (match st[n]? with
      | some (.dk ks vs) => if ks.length < sizeLine then (if (lookK (Sum.inr t.str : L2.Key) ks vs).isSome = true then some (st.set n (.dk ks (setAt (Sum.inr t.str : L2.Key) (enc k) ks vs))) else some (st.set n (.dk (ks ++ [Sum.inr t.str]) (vs ++ [enc k])))) else Option.none
      | _ => Option.none) = _
    rw [hn]
    unfold dxC
    dsimp only
    rw [if_pos (by rw [List.length_map, hs]; exact hz), look_x, new]
    rw [if_neg (by decide), List.map_append, List.map_append]; rfl
  rw [e]
theorem ev_dxhas {neg : Bool} {i n : Nat} {a : E} {T : List (Tx × Int)} {t : Tx} (ha : Vv cf a env st t) (hv : env[i]? = some (some (.ref n))) (hn : st[n]? = some (dxC T)) : evX cf (.bi (.dhas neg) (.cons a (.cons (.var i) .nil))) env st = .ok (.v (.bool (neg != (lookX t T).isSome))) st := by
  obtain ⟨v, e2, h2⟩ := ha.t
  have h2 : v.d = .str t.str := h2
  rw [evX_bi, evXs_cons, e2, MP.R.bind_ok, evXs_cons, evX_var, hv]
  dsimp only
  rw [MP.R.bind_ok, evXs_nil, MP.R.bind_ok, MP.R.bind_ok, MP.R.bind_ok, h2]
  show dhasV neg (.str t.str) (.ref n) st = _
  unfold dhasV
  dsimp only
  rw [hn]
  unfold dxC
  dsimp only
  rw [look_x, Option.isSome_map]
theorem tv_dxnotin {i n : Nat} {a : E} {T : List (Tx × Int)} {t : Tx} (ha : Vv cf a env st t) (hv : env[i]? = some (some (.ref n))) (hn : st[n]? = some (dxC T)) : Tv cf (.bi (.dhas true) (.cons a (.cons (.var i) .nil))) env st (!(lookX t T).isSome) :=
  ⟨_, ev_dxhas ha hv hn, by show D.bool (true != (lookX t T).isSome) = _; cases (lookX t T).isSome <;> rfl⟩
theorem tv_dxget {i n : Nat} {a : E} {T : List (Tx × Int)} {t : Tx} (ha : Vv cf a env st t) (hv : env[i]? = some (some (.ref n))) (hn : st[n]? = some (dxC T)) (h : (lookX t T).isSome = true) : Tv cf (.bi .dget (.cons (.var i) (.cons a .nil))) env st (uw (lookX t T)) := by
  obtain ⟨v, e2, h2⟩ := ha.t
  have h2 : v.d = .str t.str := h2
  refine ⟨.v (.int (uw (lookX t T))), ?_, rfl⟩
  rw [evX_bi, evXs_cons, evX_var, hv]
  dsimp only
  rw [MP.R.bind_ok, evXs_cons, e2, MP.R.bind_ok, evXs_nil, MP.R.bind_ok, MP.R.bind_ok, MP.R.bind_ok, h2]
  show dgetV (.ref n) (.str t.str) st = _
  unfold dgetV
  dsimp only
  rw [hn]
  unfold dxC
  dsimp only
  rw [look_x]
  cases e : lookX t T with
  | none => rw [e] at h; cases h
  | some k => rfl
end
/-- one sign within a text -/
theorem has_one (b : Tx) (c : Char) : Tx.has b ⟨[c]⟩ = decide (c ∈ b.cs) := by
  have h := PySem.StrLaws.found_one b.str c.toNat
  have e : (⟨[c]⟩ : Tx).str = ⟨#[c.toNat]⟩ := rfl
  show (!(Builtin.Str.occurrences b.str (⟨[c]⟩ : Tx).str 0 b.str.length 1).isEmpty) = _
  rw [e, h]
  have el : b.str.cps.toList = b.cs.map Char.toNat := tl_str b
  rw [el]
  refine decide_eq_decide.mpr ⟨fun z => ?_, fun z => List.mem_map_of_mem z⟩
  obtain ⟨d, hd, e⟩ := List.mem_map.mp z
  rw [← Char.toNat_inj.mp e]
  exact hd
end MP

namespace Law
open PySem PySem.Spec PyProof.Rows L2 MP
open MP.Enc (enc)
noncomputable section
def t_rises_I_1 (some_ : (List Int)) (s1 : Unit) (k_ : Int) : Out (Bool) (Unit) :=
  if (decide ((ix some_ k_) ≤ (ix some_ (k_ - (1 : Int))))) = true then
    .rt false
  else
    .nx ()
def u_rises_I_1 (some_ : (List Int)) (s1 : Unit) (k_ : Int) : Prop :=
  (InR (List.length some_) (k_ - (1 : Int))) ∧
  (InR (List.length some_) k_) ∧
  True
def m_rises_I (some_ : (List Int)) : Bool :=
  (foldO (t_rises_I_1 some_) (rng2 (1 : Int) (len some_)) ()).then (fun x => x) fun f1 =>
  true
def s_rises_I (some_ : (List Int)) : Prop :=
  (Rg2Ok (1 : Int) (len some_)) ∧
  (foldOS (u_rises_I_1 some_) (t_rises_I_1 some_) (rng2 (1 : Int) (len some_)) ()) ∧
  True

def t_rises_X_1 (some_ : (List Tx)) (s1 : Unit) (k_ : Int) : Out (Bool) (Unit) :=
  if (!(Tx.lt (ix some_ (k_ - (1 : Int))) (ix some_ k_))) = true then
    .rt false
  else
    .nx ()
def u_rises_X_1 (some_ : (List Tx)) (s1 : Unit) (k_ : Int) : Prop :=
  (InR (List.length some_) (k_ - (1 : Int))) ∧
  (InR (List.length some_) k_) ∧
  True
def m_rises_X (some_ : (List Tx)) : Bool :=
  (foldO (t_rises_X_1 some_) (rng2 (1 : Int) (len some_)) ()).then (fun x => x) fun f1 =>
  true
def s_rises_X (some_ : (List Tx)) : Prop :=
  (Rg2Ok (1 : Int) (len some_)) ∧
  (foldOS (u_rises_X_1 some_) (t_rises_X_1 some_) (rng2 (1 : Int) (len some_)) ()) ∧
  True

def m_are_marks (marks : (List Tx)) : Bool :=
  ((List.all marks (fun (mark : Tx) => ((decide ((Tx.len mark) = (1 : Int))) && (Tx.has (tx "abcdef") mark)))) && (m_rises_X marks))
def s_are_marks (marks : (List Tx)) : Prop :=
  (Sz marks) ∧
  (∀ mark ∈ marks, Sz (mark).cs) ∧
  (((List.all marks (fun (mark : Tx) => ((decide ((Tx.len mark) = (1 : Int))) && (Tx.has (tx "abcdef") mark)))) = true) → s_rises_X marks) ∧
  True

def m_parts_of (sentence : Sn) : (List Sn) :=
  if (decide ((Sn.tx (ix (Sn.its sentence) (0 : Int))) = (tx "mark"))) = true then
    ([] : (List Sn))
  else
    (Sn.its (Sn.n (List.drop 1 (Sn.its sentence))))
def s_parts_of (sentence : Sn) : Prop :=
  (Sn.isN sentence = true) ∧
  (InR (List.length (Sn.its sentence)) (0 : Int)) ∧
  (Sn.isX (ix (Sn.its sentence) (0 : Int)) = true) ∧
  (((decide ((Sn.tx (ix (Sn.its sentence) (0 : Int))) = (tx "mark"))) = false) →
  (Sn.isN sentence = true) ∧
  (0 < List.length (Sn.its sentence)) ∧
  (Sn.isN (Sn.n (List.drop 1 (Sn.its sentence))) = true) ∧
  True)

def m_well_made : Nat → Sn → Bool
  | 0, _ => default
  | fuel + 1, some_ =>
    if ((decide ((len (Sn.its some_)) = (0 : Int))) || (!(Sn.isX (ix (Sn.its some_) (0 : Int))))) = true then
      false
    else
      if (decide ((Sn.tx (ix (Sn.its some_) (0 : Int))) = (tx "mark"))) = true then
        ((decide ((len (Sn.its some_)) = (2 : Int))) && ((Sn.isX (ix (Sn.its some_) (1 : Int))) && (m_are_marks ([(Sn.tx (ix (Sn.its some_) (1 : Int)))] : (List Tx)))))
      else
        if ((!(Option.isSome (lookX (Sn.tx (ix (Sn.its some_) (0 : Int))) tab_PARTS))) || (!(decide ((len (Sn.its some_)) = ((uw (lookX (Sn.tx (ix (Sn.its some_) (0 : Int))) tab_PARTS)) + (1 : Int)))))) = true then
          false
        else
          (List.all (Sn.its (Sn.n (List.drop 1 (Sn.its some_)))) (fun (piece : Sn) => ((Sn.isN piece) && (m_well_made fuel piece))))
def s_well_made : Nat → Sn → Prop
  | 0, _ => False
  | fuel + 1, some_ =>
    (Sn.isN some_ = true) ∧
    (((decide ((len (Sn.its some_)) = (0 : Int))) = false) → Sn.isN some_ = true) ∧
    (((decide ((len (Sn.its some_)) = (0 : Int))) = false) → InR (List.length (Sn.its some_)) (0 : Int)) ∧
    ((((decide ((len (Sn.its some_)) = (0 : Int))) || (!(Sn.isX (ix (Sn.its some_) (0 : Int))))) = false) →
    (Sn.isN some_ = true) ∧
    (InR (List.length (Sn.its some_)) (0 : Int)) ∧
    (Sn.isX (ix (Sn.its some_) (0 : Int)) = true) ∧
    (((decide ((Sn.tx (ix (Sn.its some_) (0 : Int))) = (tx "mark"))) = true) →
    (Sn.isN some_ = true) ∧
    (((decide ((len (Sn.its some_)) = (2 : Int))) = true) → Sn.isN some_ = true) ∧
    (((decide ((len (Sn.its some_)) = (2 : Int))) = true) → InR (List.length (Sn.its some_)) (1 : Int)) ∧
    (((decide ((len (Sn.its some_)) = (2 : Int))) = true) → ((Sn.isX (ix (Sn.its some_) (1 : Int))) = true) → Sn.isN some_ = true) ∧
    (((decide ((len (Sn.its some_)) = (2 : Int))) = true) → ((Sn.isX (ix (Sn.its some_) (1 : Int))) = true) → InR (List.length (Sn.its some_)) (1 : Int)) ∧
    (((decide ((len (Sn.its some_)) = (2 : Int))) = true) → ((Sn.isX (ix (Sn.its some_) (1 : Int))) = true) → Sn.isX (ix (Sn.its some_) (1 : Int)) = true) ∧
    (((decide ((len (Sn.its some_)) = (2 : Int))) = true) → ((Sn.isX (ix (Sn.its some_) (1 : Int))) = true) → s_are_marks ([(Sn.tx (ix (Sn.its some_) (1 : Int)))] : (List Tx))) ∧
    True) ∧
    (((decide ((Sn.tx (ix (Sn.its some_) (0 : Int))) = (tx "mark"))) = false) →
    (Sn.isN some_ = true) ∧
    (InR (List.length (Sn.its some_)) (0 : Int)) ∧
    (Sn.isX (ix (Sn.its some_) (0 : Int)) = true) ∧
    (((!(Option.isSome (lookX (Sn.tx (ix (Sn.its some_) (0 : Int))) tab_PARTS))) = false) → Sn.isN some_ = true) ∧
    (((!(Option.isSome (lookX (Sn.tx (ix (Sn.its some_) (0 : Int))) tab_PARTS))) = false) → Sn.isN some_ = true) ∧
    (((!(Option.isSome (lookX (Sn.tx (ix (Sn.its some_) (0 : Int))) tab_PARTS))) = false) → InR (List.length (Sn.its some_)) (0 : Int)) ∧
    (((!(Option.isSome (lookX (Sn.tx (ix (Sn.its some_) (0 : Int))) tab_PARTS))) = false) → Sn.isX (ix (Sn.its some_) (0 : Int)) = true) ∧
    (((!(Option.isSome (lookX (Sn.tx (ix (Sn.its some_) (0 : Int))) tab_PARTS))) = false) → Option.isSome (lookX (Sn.tx (ix (Sn.its some_) (0 : Int))) tab_PARTS) = true) ∧
    ((((!(Option.isSome (lookX (Sn.tx (ix (Sn.its some_) (0 : Int))) tab_PARTS))) || (!(decide ((len (Sn.its some_)) = ((uw (lookX (Sn.tx (ix (Sn.its some_) (0 : Int))) tab_PARTS)) + (1 : Int)))))) = false) →
    (Sn.isN some_ = true) ∧
    (0 < List.length (Sn.its some_)) ∧
    (Sn.isN (Sn.n (List.drop 1 (Sn.its some_))) = true) ∧
    (Sz (Sn.its (Sn.n (List.drop 1 (Sn.its some_))))) ∧
    (∀ piece ∈ (Sn.its (Sn.n (List.drop 1 (Sn.its some_)))), ((Sn.isN piece) = true) → s_well_made fuel piece) ∧
    True)))

def m_count : Nat → Sn → Int
  | 0, _ => default
  | fuel + 1, sentence =>
    ((1 : Int) + (List.sum (List.map (fun (piece : Sn) => (m_count fuel piece)) (m_parts_of sentence))))
def s_count : Nat → Sn → Prop
  | 0, _ => False
  | fuel + 1, sentence =>
    (s_parts_of sentence) ∧
    (Sz (m_parts_of sentence)) ∧
    (∀ piece ∈ (m_parts_of sentence), s_count fuel piece) ∧
    True

def m_deep : Nat → Sn → Int
  | 0, _ => default
  | fuel + 1, sentence =>
    ((1 : Int) + (maxI (List.map (fun (piece : Sn) => (m_deep fuel piece)) (m_parts_of sentence))))
def s_deep : Nat → Sn → Prop
  | 0, _ => False
  | fuel + 1, sentence =>
    (s_parts_of sentence) ∧
    (Sz (m_parts_of sentence)) ∧
    (∀ piece ∈ (m_parts_of sentence), s_deep fuel piece) ∧
    True

def m_is_sentence (some_ : Sn) : Bool :=
  ((m_well_made 30 some_) && ((decide ((m_count 30 some_) ≤ (200 : Int))) && (decide ((m_deep 30 some_) ≤ (24 : Int)))))
def s_is_sentence (some_ : Sn) : Prop :=
  (s_well_made 30 some_) ∧
  (((m_well_made 30 some_) = true) → s_count 30 some_) ∧
  (((m_well_made 30 some_) = true) → ((decide ((m_count 30 some_) ≤ (200 : Int))) = true) → s_deep 30 some_) ∧
  True

def m_ask_sentence (sentence : Sn) : Except PySem.Str Unit :=
  if (!(m_is_sentence sentence)) = true then
    .error "NoSentence"
  else
    .ok ()
def s_ask_sentence (sentence : Sn) : Prop :=
  (s_is_sentence sentence) ∧
  True

def m_words (sentence : Sn) : Except PySem.Str Int :=
  els (m_ask_sentence sentence) (fun c => .error c) fun (u1 : Unit) =>
  .ok (m_count 30 sentence)
def s_words (sentence : Sn) : Prop :=
  (s_ask_sentence sentence) ∧
  (∀ u1 : Unit, (m_ask_sentence sentence) = .ok u1 →
  (s_count 30 sentence) ∧
  True)

def m_depth (sentence : Sn) : Except PySem.Str Int :=
  els (m_ask_sentence sentence) (fun c => .error c) fun (u1 : Unit) =>
  .ok (m_deep 30 sentence)
def s_depth (sentence : Sn) : Prop :=
  (s_ask_sentence sentence) ∧
  (∀ u1 : Unit, (m_ask_sentence sentence) = .ok u1 →
  (s_deep 30 sentence) ∧
  True)

def t_named_1 (mf : Sn → (List Tx)) (s1 : (List Tx)) (piece : Sn) : (List Tx) :=
  lt (s1 ++ (mf piece) : (List Tx)) fun found =>
  found
def u_named_1 (mf : Sn → (List Tx)) (sf : Sn → Prop) (s1 : (List Tx)) (piece : Sn) : Prop :=
  (sf piece) ∧
  (Sz (s1 ++ (mf piece))) ∧
  True
def m_named : Nat → Sn → (List Tx)
  | 0, _ => default
  | fuel + 1, sentence =>
    if (decide ((Sn.tx (ix (Sn.its sentence) (0 : Int))) = (tx "mark"))) = true then
      ([(Sn.tx (ix (Sn.its sentence) (1 : Int)))] : (List Tx))
    else
      lt (([] : (List Tx)) : (List Tx)) fun found =>
      lt (List.foldl (t_named_1 (m_named fuel)) found (m_parts_of sentence) : (List Tx)) fun f1 =>
      f1
def s_named : Nat → Sn → Prop
  | 0, _ => False
  | fuel + 1, sentence =>
    (Sn.isN sentence = true) ∧
    (InR (List.length (Sn.its sentence)) (0 : Int)) ∧
    (Sn.isX (ix (Sn.its sentence) (0 : Int)) = true) ∧
    (((decide ((Sn.tx (ix (Sn.its sentence) (0 : Int))) = (tx "mark"))) = true) →
    (Sn.isN sentence = true) ∧
    (InR (List.length (Sn.its sentence)) (1 : Int)) ∧
    (Sn.isX (ix (Sn.its sentence) (1 : Int)) = true) ∧
    True) ∧
    (((decide ((Sn.tx (ix (Sn.its sentence) (0 : Int))) = (tx "mark"))) = false) →
    lt (([] : (List Tx)) : (List Tx)) fun found =>
    (s_parts_of sentence) ∧
    (foldS (u_named_1 (m_named fuel) (s_named fuel)) (t_named_1 (m_named fuel)) (m_parts_of sentence) found) ∧
    True)

def m_marks_of (sentence : Sn) : Except PySem.Str (List Tx) :=
  els (m_ask_sentence sentence) (fun c => .error c) fun (u2 : Unit) =>
  .ok (sortX (uniq (List.map T2.a (List.map (fun (mark : Tx) => (⟨mark, true⟩ : (T2 Tx Bool))) (m_named 30 sentence)))))
def s_marks_of (sentence : Sn) : Prop :=
  (s_ask_sentence sentence) ∧
  (∀ u2 : Unit, (m_ask_sentence sentence) = .ok u2 →
  (s_named 30 sentence) ∧
  (Sz (m_named 30 sentence)) ∧
  (List.length (uniq (List.map T2.a (List.map (fun (mark : Tx) => (⟨mark, true⟩ : (T2 Tx Bool))) (m_named 30 sentence)))) < 64) ∧
  True)

def m_law_cell_at (script : Sc) (k_ : Int) : Int :=
  if (decide (k_ < (len (script).ns))) = true then
    (ix (script).ns k_)
  else
    (0 : Int)
def s_law_cell_at (script : Sc) (k_ : Int) : Prop :=
  (((decide (k_ < (len (script).ns))) = true) →
  (InR (List.length (script).ns) k_) ∧
  True)

def m_law_whole (found : Int) : Bool :=
  (true && (!false))
def s_law_whole (found : Int) : Prop :=
  True

def m_law_whole_U (found : (Un Int Tx)) : Bool :=
  ((if Un.isL found = true then true else false) && (!(if Un.isL found = true then false else false)))
def s_law_whole_U (found : (Un Int Tx)) : Prop :=
  True

def t_law_draw_1 (bound : Int) (s1 : Int) (j : Int) : Int :=
  lt ((Int.fdiv s1 bound) : Int) fun left_ =>
  left_
def u_law_draw_1 (bound : Int) (s1 : Int) (j : Int) : Prop :=
  (DivOk s1 bound) ∧
  True
def m_law_draw (cell : Int) (k_ : Int) (bound : Int) : Int :=
  if (decide ((1000000000000000000 : Int) ≤ cell)) = true then
    lt (cell : Int) fun left_ =>
    lt (List.foldl (t_law_draw_1 bound) left_ (rng k_) : Int) fun f1 =>
    (Int.fmod f1 bound)
  else
    lt ((Int.fmod ((((Int.fmod cell (1000000007 : Int)) + ((1009 : Int) * k_)) + (17 : Int)) * (69621 : Int)) (2147483647 : Int)) : Int) fun stir =>
    lt ((Int.fmod (((stir * stir) + ((40503 : Int) * k_)) + (5 : Int)) (2147483629 : Int)) : Int) fun stir =>
    (Int.fmod (Int.fdiv (Int.fmod (stir * (48271 : Int)) (2147483647 : Int)) (32 : Int)) bound)
def s_law_draw (cell : Int) (k_ : Int) (bound : Int) : Prop :=
  (((decide ((1000000000000000000 : Int) ≤ cell)) = true) →
  lt (cell : Int) fun left_ =>
  (RgOk k_) ∧
  (foldS (u_law_draw_1 bound) (t_law_draw_1 bound) (rng k_) left_) ∧
  lt (List.foldl (t_law_draw_1 bound) left_ (rng k_) : Int) fun f1 =>
  (bound ≠ 0) ∧
  True) ∧
  (((decide ((1000000000000000000 : Int) ≤ cell)) = false) →
  lt ((Int.fmod ((((Int.fmod cell (1000000007 : Int)) + ((1009 : Int) * k_)) + (17 : Int)) * (69621 : Int)) (2147483647 : Int)) : Int) fun stir =>
  (MulOk stir stir) ∧
  lt ((Int.fmod (((stir * stir) + ((40503 : Int) * k_)) + (5 : Int)) (2147483629 : Int)) : Int) fun stir =>
  (bound ≠ 0) ∧
  True)

def t_law_sentence_1 (script : Sc) (at_ : Int) (kinds : (List Tx)) (s1 : (List Sn)) (k_ : Int) : (List Sn) :=
  lt ((m_law_cell_at script (at_ + k_)) : Int) fun cell =>
  lt ((ix kinds (m_law_draw cell (0 : Int) (12 : Int))) : Tx) fun kind =>
  lt ((ix s1 ((-1 : Int) - (Int.fmod (m_law_draw cell (1 : Int) (2 : Int)) (len s1)))) : Sn) fun one_ =>
  lt ((ix s1 (Int.fmod (m_law_draw cell (2 : Int) (60 : Int)) (len s1))) : Sn) fun other =>
  if (decide (kind = (tx "yes"))) = true then
    lt (s1 ++ [(Sn.n [(Sn.x (tx "yes"))])] : (List Sn)) fun made =>
    made
  else
    if (decide (kind = (tx "mark"))) = true then
      lt (s1 ++ [(Sn.n [(Sn.x (tx "mark")), (Sn.x (Tx.ix (tx "abc") (m_law_draw cell (3 : Int) (3 : Int))))])] : (List Sn)) fun made =>
      made
    else
      if (decide (kind ∈ ([(tx "and"), (tx "or"), (tx "some until"), (tx "all until")] : List Tx))) = true then
        lt (s1 ++ [(Sn.n [(Sn.x kind), other, one_])] : (List Sn)) fun made =>
        made
      else
        lt (s1 ++ [(Sn.n [(Sn.x kind), one_])] : (List Sn)) fun made =>
        made
def u_law_sentence_1 (script : Sc) (at_ : Int) (kinds : (List Tx)) (s1 : (List Sn)) (k_ : Int) : Prop :=
  (s_law_cell_at script (at_ + k_)) ∧
  lt ((m_law_cell_at script (at_ + k_)) : Int) fun cell =>
  (s_law_draw cell (0 : Int) (12 : Int)) ∧
  (InR (List.length kinds) (m_law_draw cell (0 : Int) (12 : Int))) ∧
  lt ((ix kinds (m_law_draw cell (0 : Int) (12 : Int))) : Tx) fun kind =>
  (s_law_draw cell (1 : Int) (2 : Int)) ∧
  ((len s1) ≠ 0) ∧
  (InR (List.length s1) ((-1 : Int) - (Int.fmod (m_law_draw cell (1 : Int) (2 : Int)) (len s1)))) ∧
  lt ((ix s1 ((-1 : Int) - (Int.fmod (m_law_draw cell (1 : Int) (2 : Int)) (len s1)))) : Sn) fun one_ =>
  (s_law_draw cell (2 : Int) (60 : Int)) ∧
  ((len s1) ≠ 0) ∧
  (InR (List.length s1) (Int.fmod (m_law_draw cell (2 : Int) (60 : Int)) (len s1))) ∧
  lt ((ix s1 (Int.fmod (m_law_draw cell (2 : Int) (60 : Int)) (len s1))) : Sn) fun other =>
  (((decide (kind = (tx "yes"))) = true) →
  (Sz1 s1) ∧
  True) ∧
  (((decide (kind = (tx "yes"))) = false) →
  (((decide (kind = (tx "mark"))) = true) →
  (s_law_draw cell (3 : Int) (3 : Int)) ∧
  (InR (List.length ((tx "abc")).cs) (m_law_draw cell (3 : Int) (3 : Int))) ∧
  (Sz ((tx "abc")).cs) ∧
  (Sz1 s1) ∧
  True) ∧
  (((decide (kind = (tx "mark"))) = false) →
  (((decide (kind ∈ ([(tx "and"), (tx "or"), (tx "some until"), (tx "all until")] : List Tx))) = true) →
  (Sz1 s1) ∧
  True) ∧
  (((decide (kind ∈ ([(tx "and"), (tx "or"), (tx "some until"), (tx "all until")] : List Tx))) = false) →
  (Sz1 s1) ∧
  True)))
def m_law_sentence (script : Sc) (at_ : Int) (many : Int) : Sn :=
  lt (([(tx "mark"), (tx "mark"), (tx "not"), (tx "and"), (tx "some until"), (tx "all until"), (tx "some next"), (tx "all next"), (tx "some always")] : (List Tx)) : (List Tx)) fun kinds =>
  lt ((kinds ++ ([(tx "all always"), (tx "or"), (tx "yes")] : (List Tx))) : (List Tx)) fun kinds =>
  lt (([(Sn.n [(Sn.x (tx "mark")), (Sn.x (Tx.ix (tx "abc") (m_law_draw (m_law_cell_at script at_) (3 : Int) (3 : Int))))])] : (List Sn)) : (List Sn)) fun made =>
  lt (List.foldl (t_law_sentence_1 script at_ kinds) made (rng2 (1 : Int) many) : (List Sn)) fun f1 =>
  (ix f1 (-1 : Int))
def s_law_sentence (script : Sc) (at_ : Int) (many : Int) : Prop :=
  lt (([(tx "mark"), (tx "mark"), (tx "not"), (tx "and"), (tx "some until"), (tx "all until"), (tx "some next"), (tx "all next"), (tx "some always")] : (List Tx)) : (List Tx)) fun kinds =>
  (Sz (kinds ++ ([(tx "all always"), (tx "or"), (tx "yes")] : (List Tx)))) ∧
  lt ((kinds ++ ([(tx "all always"), (tx "or"), (tx "yes")] : (List Tx))) : (List Tx)) fun kinds =>
  (s_law_cell_at script at_) ∧
  (s_law_draw (m_law_cell_at script at_) (3 : Int) (3 : Int)) ∧
  (InR (List.length ((tx "abc")).cs) (m_law_draw (m_law_cell_at script at_) (3 : Int) (3 : Int))) ∧
  (Sz ((tx "abc")).cs) ∧
  lt (([(Sn.n [(Sn.x (tx "mark")), (Sn.x (Tx.ix (tx "abc") (m_law_draw (m_law_cell_at script at_) (3 : Int) (3 : Int))))])] : (List Sn)) : (List Sn)) fun made =>
  (Rg2Ok (1 : Int) many) ∧
  (foldS (u_law_sentence_1 script at_ kinds) (t_law_sentence_1 script at_ kinds) (rng2 (1 : Int) many) made) ∧
  lt (List.foldl (t_law_sentence_1 script at_ kinds) made (rng2 (1 : Int) many) : (List Sn)) fun f1 =>
  (InR (List.length f1) (-1 : Int)) ∧
  True

def m_law_count : Nat → Sn → Int
  | 0, _ => default
  | fuel + 1, sentence =>
    ((1 : Int) + (List.sum (List.map (fun (piece : Sn) => (m_law_count fuel piece)) (List.filter (fun (piece : Sn) => (Sn.isN piece)) (Sn.its (Sn.n (List.drop 1 (Sn.its sentence))))))))
def s_law_count : Nat → Sn → Prop
  | 0, _ => False
  | fuel + 1, sentence =>
    (Sn.isN sentence = true) ∧
    (0 < List.length (Sn.its sentence)) ∧
    (Sn.isN (Sn.n (List.drop 1 (Sn.its sentence))) = true) ∧
    (Sz (Sn.its (Sn.n (List.drop 1 (Sn.its sentence))))) ∧
    (∀ piece ∈ (Sn.its (Sn.n (List.drop 1 (Sn.its sentence)))), ((Sn.isN piece) = true) → s_law_count fuel piece) ∧
    True

def wantsT : List (Tx × Int) := [(tx "yes", 0), (tx "mark", 0), (tx "not", 1), (tx "some next", 1), (tx "all next", 1), (tx "some always", 1), (tx "all always", 1), (tx "and", 2), (tx "or", 2), (tx "some until", 2), (tx "all until", 2)]
def m_law_good_v2 : Nat → Sn → Bool
  | 0, _ => default
  | fuel + 1, some_ =>
    if ((decide (some_ = (Sn.n []))) || ((!(Sn.isX (ix (Sn.its some_) (0 : Int)))) || (!(Option.isSome (lookX (Sn.tx (ix (Sn.its some_) (0 : Int))) wantsT))))) = true then
      false
    else
      if (decide ((Sn.tx (ix (Sn.its some_) (0 : Int))) = (tx "mark"))) = true then
        ((decide ((len (Sn.its some_)) = (2 : Int))) && ((Sn.isX (ix (Sn.its some_) (1 : Int))) && (decide ((Sn.tx (ix (Sn.its some_) (1 : Int))) ∈ ([(tx "a"), (tx "b"), (tx "c"), (tx "d"), (tx "e"), (tx "f")] : (List Tx))))))
      else
        if (!(decide ((len (Sn.its some_)) = ((uw (lookX (Sn.tx (ix (Sn.its some_) (0 : Int))) wantsT)) + (1 : Int))))) = true then
          false
        else
          (List.all (Sn.its (Sn.n (List.drop 1 (Sn.its some_)))) (fun (piece : Sn) => ((Sn.isN piece) && (m_law_good_v2 fuel piece))))
def s_law_good_v2 : Nat → Sn → Prop
  | 0, _ => False
  | fuel + 1, some_ =>
    (SnD some_) ∧
    (SnD (Sn.n [])) ∧
    (((decide (some_ = (Sn.n []))) = false) → Sn.isN some_ = true) ∧
    (((decide (some_ = (Sn.n []))) = false) → InR (List.length (Sn.its some_)) (0 : Int)) ∧
    (((decide (some_ = (Sn.n []))) = false) → ((!(Sn.isX (ix (Sn.its some_) (0 : Int)))) = false) → Sn.isN some_ = true) ∧
    (((decide (some_ = (Sn.n []))) = false) → ((!(Sn.isX (ix (Sn.its some_) (0 : Int)))) = false) → InR (List.length (Sn.its some_)) (0 : Int)) ∧
    (((decide (some_ = (Sn.n []))) = false) → ((!(Sn.isX (ix (Sn.its some_) (0 : Int)))) = false) → Sn.isX (ix (Sn.its some_) (0 : Int)) = true) ∧
    ((((decide (some_ = (Sn.n []))) || ((!(Sn.isX (ix (Sn.its some_) (0 : Int)))) || (!(Option.isSome (lookX (Sn.tx (ix (Sn.its some_) (0 : Int))) wantsT))))) = false) →
    (Sn.isN some_ = true) ∧
    (InR (List.length (Sn.its some_)) (0 : Int)) ∧
    (Sn.isX (ix (Sn.its some_) (0 : Int)) = true) ∧
    (((decide ((Sn.tx (ix (Sn.its some_) (0 : Int))) = (tx "mark"))) = true) →
    (Sn.isN some_ = true) ∧
    (((decide ((len (Sn.its some_)) = (2 : Int))) = true) → Sn.isN some_ = true) ∧
    (((decide ((len (Sn.its some_)) = (2 : Int))) = true) → InR (List.length (Sn.its some_)) (1 : Int)) ∧
    (((decide ((len (Sn.its some_)) = (2 : Int))) = true) → ((Sn.isX (ix (Sn.its some_) (1 : Int))) = true) → Sn.isN some_ = true) ∧
    (((decide ((len (Sn.its some_)) = (2 : Int))) = true) → ((Sn.isX (ix (Sn.its some_) (1 : Int))) = true) → InR (List.length (Sn.its some_)) (1 : Int)) ∧
    (((decide ((len (Sn.its some_)) = (2 : Int))) = true) → ((Sn.isX (ix (Sn.its some_) (1 : Int))) = true) → Sn.isX (ix (Sn.its some_) (1 : Int)) = true) ∧
    True) ∧
    (((decide ((Sn.tx (ix (Sn.its some_) (0 : Int))) = (tx "mark"))) = false) →
    (Sn.isN some_ = true) ∧
    (Sn.isN some_ = true) ∧
    (InR (List.length (Sn.its some_)) (0 : Int)) ∧
    (Sn.isX (ix (Sn.its some_) (0 : Int)) = true) ∧
    (Option.isSome (lookX (Sn.tx (ix (Sn.its some_) (0 : Int))) wantsT) = true) ∧
    (((!(decide ((len (Sn.its some_)) = ((uw (lookX (Sn.tx (ix (Sn.its some_) (0 : Int))) wantsT)) + (1 : Int))))) = false) →
    (Sn.isN some_ = true) ∧
    (0 < List.length (Sn.its some_)) ∧
    (Sn.isN (Sn.n (List.drop 1 (Sn.its some_))) = true) ∧
    (Sz (Sn.its (Sn.n (List.drop 1 (Sn.its some_))))) ∧
    (∀ piece ∈ (Sn.its (Sn.n (List.drop 1 (Sn.its some_)))), ((Sn.isN piece) = true) → s_law_good_v2 fuel piece) ∧
    True)))


def m_law_deep : Nat → Sn → Int
  | 0, _ => default
  | fuel + 1, some_ =>
    ((1 : Int) + (maxI (List.map (fun (piece : Sn) => (m_law_deep fuel piece)) (List.filter (fun (piece : Sn) => (Sn.isN piece)) (Sn.its (Sn.n (List.drop 1 (Sn.its some_))))))))
def s_law_deep : Nat → Sn → Prop
  | 0, _ => False
  | fuel + 1, some_ =>
    (Sn.isN some_ = true) ∧
    (0 < List.length (Sn.its some_)) ∧
    (Sn.isN (Sn.n (List.drop 1 (Sn.its some_))) = true) ∧
    (Sz (Sn.its (Sn.n (List.drop 1 (Sn.its some_))))) ∧
    (∀ piece ∈ (Sn.its (Sn.n (List.drop 1 (Sn.its some_)))), ((Sn.isN piece) = true) → s_law_deep fuel piece) ∧
    True

def t_law_named_1 (mf : Sn → (List Tx)) (s1 : (List Tx)) (piece : Sn) : (List Tx) :=
  lt ((s1 ++ (mf piece)) : (List Tx)) fun found =>
  found
def u_law_named_1 (mf : Sn → (List Tx)) (sf : Sn → Prop) (s1 : (List Tx)) (piece : Sn) : Prop :=
  (sf piece) ∧
  (Sz (s1 ++ (mf piece))) ∧
  True
def m_law_named : Nat → Sn → (List Tx)
  | 0, _ => default
  | fuel + 1, some_ =>
    if (decide ((Sn.tx (ix (Sn.its some_) (0 : Int))) = (tx "mark"))) = true then
      ([(Sn.tx (ix (Sn.its some_) (1 : Int)))] : (List Tx))
    else
      lt (([] : (List Tx)) : (List Tx)) fun found =>
      lt (List.foldl (t_law_named_1 (m_law_named fuel)) found (Sn.its (Sn.n (List.drop 1 (Sn.its some_)))) : (List Tx)) fun f1 =>
      f1
def s_law_named : Nat → Sn → Prop
  | 0, _ => False
  | fuel + 1, some_ =>
    (Sn.isN some_ = true) ∧
    (InR (List.length (Sn.its some_)) (0 : Int)) ∧
    (Sn.isX (ix (Sn.its some_) (0 : Int)) = true) ∧
    (((decide ((Sn.tx (ix (Sn.its some_) (0 : Int))) = (tx "mark"))) = true) →
    (Sn.isN some_ = true) ∧
    (InR (List.length (Sn.its some_)) (1 : Int)) ∧
    (Sn.isX (ix (Sn.its some_) (1 : Int)) = true) ∧
    True) ∧
    (((decide ((Sn.tx (ix (Sn.its some_) (0 : Int))) = (tx "mark"))) = false) →
    lt (([] : (List Tx)) : (List Tx)) fun found =>
    (Sn.isN some_ = true) ∧
    (0 < List.length (Sn.its some_)) ∧
    (Sn.isN (Sn.n (List.drop 1 (Sn.its some_))) = true) ∧
    (foldS (u_law_named_1 (m_law_named fuel) (s_law_named fuel)) (t_law_named_1 (m_law_named fuel)) (Sn.its (Sn.n (List.drop 1 (Sn.its some_)))) found) ∧
    True)

def m_law_spoilt_v2 : Nat → Sn → Int → Sn
  | 0, _, _ => default
  | fuel + 1, some_, cell =>
    lt ((List.filter (fun (k_ : Int) => (Sn.isN (ix (Sn.its some_) k_))) (rng2 (1 : Int) (len (Sn.its some_)))) : (List Int)) fun places =>
    if ((decide ((0 : Int) < (len places))) && (decide ((0 : Int) < (Int.fmod cell (3 : Int))))) = true then
      lt ((ix places (Int.fmod (Int.fdiv cell (3 : Int)) (len places))) : Int) fun at_ =>
      (Sn.n (Sn.its (Sn.n (Sn.its (Sn.n (cut (Sn.its some_) none (some at_))) ++ Sn.its (Sn.n [(m_law_spoilt_v2 fuel (ix (Sn.its some_) at_) (Int.fdiv cell (9 : Int)))]))) ++ Sn.its (Sn.n (cut (Sn.its some_) (some (at_ + (1 : Int))) none))))
    else
      lt (([(Sn.n []), (Sn.n [(Sn.x (tx "yes")), (Sn.x (tx "yes"))]), (Sn.n [(Sn.x (tx "mark"))]), (Sn.n [(Sn.x (tx "mark")), (Sn.x (tx "g"))]), (Sn.n [(Sn.x (tx "mark")), (Sn.x (tx "ab"))]), (Sn.n [(Sn.x (tx "mark")), (Sn.n [(Sn.x (tx "yes"))])]), (Sn.n [(Sn.x (tx "not"))]), (Sn.n [(Sn.x (tx "not")), (Sn.x (tx "a"))])] : (List Sn)) : (List Sn)) fun odd =>
      lt ((odd ++ ([(Sn.n [(Sn.x (tx "and")), some_]), (Sn.n [(Sn.x (tx "until")), some_, some_]), (Sn.n [(Sn.x (tx "some next")), some_, some_]), (Sn.n [(Sn.x (tx "Yes"))]), (Sn.n [(Sn.x (tx "mark")), (Sn.x (tx "f"))]), (Sn.n [some_])] : (List Sn))) : (List Sn)) fun odd =>
      lt ((odd ++ ([(Sn.n [(Sn.x (tx "or")), some_, some_]), (Sn.n (Sn.its some_ ++ Sn.its (Sn.n [(Sn.n [(Sn.x (tx "yes"))])]))), (Sn.n [(Sn.x (tx "mark")), (Sn.x (tx ""))]), (Sn.n [(Sn.x (tx "not")), some_])] : (List Sn))) : (List Sn)) fun odd =>
      (ix odd (Int.fmod (Int.fdiv cell (3 : Int)) (18 : Int)))
def s_law_spoilt_v2 : Nat → Sn → Int → Prop
  | 0, _, _ => False
  | fuel + 1, some_, cell =>
    (Sn.isN some_ = true) ∧
    (Rg2Ok (1 : Int) (len (Sn.its some_))) ∧
    (∀ k_ ∈ (rng2 (1 : Int) (len (Sn.its some_))), Sn.isN some_ = true) ∧
    (∀ k_ ∈ (rng2 (1 : Int) (len (Sn.its some_))), InR (List.length (Sn.its some_)) k_) ∧
    lt ((List.filter (fun (k_ : Int) => (Sn.isN (ix (Sn.its some_) k_))) (rng2 (1 : Int) (len (Sn.its some_)))) : (List Int)) fun places =>
    ((((decide ((0 : Int) < (len places))) && (decide ((0 : Int) < (Int.fmod cell (3 : Int))))) = true) →
    ((len places) ≠ 0) ∧
    (InR (List.length places) (Int.fmod (Int.fdiv cell (3 : Int)) (len places))) ∧
    lt ((ix places (Int.fmod (Int.fdiv cell (3 : Int)) (len places))) : Int) fun at_ =>
    (Sn.isN some_ = true) ∧
    (¬ (HT.sIx (Sn.its some_).length 0 none = 0 ∧ HT.sIx (Sn.its some_).length (Sn.its some_).length (some at_) = (Sn.its some_).length)) ∧
    (Sn.isN some_ = true) ∧
    (InR (List.length (Sn.its some_)) at_) ∧
    (s_law_spoilt_v2 fuel (ix (Sn.its some_) at_) (Int.fdiv cell (9 : Int))) ∧
    (Sn.isN (Sn.n (cut (Sn.its some_) none (some at_))) = true) ∧
    (Sn.isN (Sn.n [(m_law_spoilt_v2 fuel (ix (Sn.its some_) at_) (Int.fdiv cell (9 : Int)))]) = true) ∧
    (0 < List.length (Sn.its (Sn.n (cut (Sn.its some_) none (some at_))))) ∧
    (Sz (Sn.its (Sn.n (cut (Sn.its some_) none (some at_))) ++ Sn.its (Sn.n [(m_law_spoilt_v2 fuel (ix (Sn.its some_) at_) (Int.fdiv cell (9 : Int)))]))) ∧
    (Sn.isN some_ = true) ∧
    (¬ (HT.sIx (Sn.its some_).length 0 (some (at_ + (1 : Int))) = 0 ∧ HT.sIx (Sn.its some_).length (Sn.its some_).length none = (Sn.its some_).length)) ∧
    (Sn.isN (Sn.n (Sn.its (Sn.n (cut (Sn.its some_) none (some at_))) ++ Sn.its (Sn.n [(m_law_spoilt_v2 fuel (ix (Sn.its some_) at_) (Int.fdiv cell (9 : Int)))]))) = true) ∧
    (Sn.isN (Sn.n (cut (Sn.its some_) (some (at_ + (1 : Int))) none)) = true) ∧
    (0 < List.length (Sn.its (Sn.n (Sn.its (Sn.n (cut (Sn.its some_) none (some at_))) ++ Sn.its (Sn.n [(m_law_spoilt_v2 fuel (ix (Sn.its some_) at_) (Int.fdiv cell (9 : Int)))]))))) ∧
    (Sz (Sn.its (Sn.n (Sn.its (Sn.n (cut (Sn.its some_) none (some at_))) ++ Sn.its (Sn.n [(m_law_spoilt_v2 fuel (ix (Sn.its some_) at_) (Int.fdiv cell (9 : Int)))]))) ++ Sn.its (Sn.n (cut (Sn.its some_) (some (at_ + (1 : Int))) none)))) ∧
    True) ∧
    ((((decide ((0 : Int) < (len places))) && (decide ((0 : Int) < (Int.fmod cell (3 : Int))))) = false) →
    lt (([(Sn.n []), (Sn.n [(Sn.x (tx "yes")), (Sn.x (tx "yes"))]), (Sn.n [(Sn.x (tx "mark"))]), (Sn.n [(Sn.x (tx "mark")), (Sn.x (tx "g"))]), (Sn.n [(Sn.x (tx "mark")), (Sn.x (tx "ab"))]), (Sn.n [(Sn.x (tx "mark")), (Sn.n [(Sn.x (tx "yes"))])]), (Sn.n [(Sn.x (tx "not"))]), (Sn.n [(Sn.x (tx "not")), (Sn.x (tx "a"))])] : (List Sn)) : (List Sn)) fun odd =>
    (Sz (odd ++ ([(Sn.n [(Sn.x (tx "and")), some_]), (Sn.n [(Sn.x (tx "until")), some_, some_]), (Sn.n [(Sn.x (tx "some next")), some_, some_]), (Sn.n [(Sn.x (tx "Yes"))]), (Sn.n [(Sn.x (tx "mark")), (Sn.x (tx "f"))]), (Sn.n [some_])] : (List Sn)))) ∧
    lt ((odd ++ ([(Sn.n [(Sn.x (tx "and")), some_]), (Sn.n [(Sn.x (tx "until")), some_, some_]), (Sn.n [(Sn.x (tx "some next")), some_, some_]), (Sn.n [(Sn.x (tx "Yes"))]), (Sn.n [(Sn.x (tx "mark")), (Sn.x (tx "f"))]), (Sn.n [some_])] : (List Sn))) : (List Sn)) fun odd =>
    (Sn.isN some_ = true) ∧
    (Sn.isN (Sn.n [(Sn.n [(Sn.x (tx "yes"))])]) = true) ∧
    (0 < List.length (Sn.its some_)) ∧
    (Sz (Sn.its some_ ++ Sn.its (Sn.n [(Sn.n [(Sn.x (tx "yes"))])]))) ∧
    (Sz (odd ++ ([(Sn.n [(Sn.x (tx "or")), some_, some_]), (Sn.n (Sn.its some_ ++ Sn.its (Sn.n [(Sn.n [(Sn.x (tx "yes"))])]))), (Sn.n [(Sn.x (tx "mark")), (Sn.x (tx ""))]), (Sn.n [(Sn.x (tx "not")), some_])] : (List Sn)))) ∧
    lt ((odd ++ ([(Sn.n [(Sn.x (tx "or")), some_, some_]), (Sn.n (Sn.its some_ ++ Sn.its (Sn.n [(Sn.n [(Sn.x (tx "yes"))])]))), (Sn.n [(Sn.x (tx "mark")), (Sn.x (tx ""))]), (Sn.n [(Sn.x (tx "not")), some_])] : (List Sn))) : (List Sn)) fun odd =>
    (InR (List.length odd) (Int.fmod (Int.fdiv cell (3 : Int)) (18 : Int))) ∧
    True)

def t_law_great_1  (s1 : (List Sn)) : (List Sn) :=
  lt (((cut s1 (some (2 : Int)) none) ++ ([(Sn.n [(Sn.x (tx "and")), (ix s1 (0 : Int)), (ix s1 (1 : Int))])] : (List Sn))) : (List Sn)) fun row =>
  row
def u_law_great_1  (s1 : (List Sn)) : Prop :=
  (InR (List.length s1) (0 : Int)) ∧
  (InR (List.length s1) (1 : Int)) ∧
  (Sz ((cut s1 (some (2 : Int)) none) ++ ([(Sn.n [(Sn.x (tx "and")), (ix s1 (0 : Int)), (ix s1 (1 : Int))])] : (List Sn)))) ∧
  True
def c_law_great_1  (s1 : (List Sn)) : Bool :=
  (decide ((1 : Int) < (len s1)))
def v_law_great_1  (s1 : (List Sn)) : Prop :=
  True
def t_law_great_2  (s2 : Sn) (k_ : Int) : Sn :=
  lt ((Sn.n [(Sn.x (tx "not")), s2]) : Sn) fun some_ =>
  some_
def u_law_great_2  (s2 : Sn) (k_ : Int) : Prop :=
  True
def t_law_great_3  (s3 : Sn) (k_ : Int) : Sn :=
  lt ((Sn.n [(Sn.x (tx "some next")), s3]) : Sn) fun some_ =>
  some_
def u_law_great_3  (s3 : Sn) (k_ : Int) : Prop :=
  True
def m_law_great (cell : Int) : Sn :=
  if (decide ((Int.fmod cell (2 : Int)) = (0 : Int))) = true then
    lt ((rep ([(Sn.n [(Sn.x (tx "mark")), (Sn.x (tx "f"))])] : (List Sn)) ((99 : Int) + (Int.fmod (Int.fdiv cell (2 : Int)) (3 : Int)))) : (List Sn)) fun row =>
    lt (whl c_law_great_1 t_law_great_1 wmost row : (List Sn)) fun f1 =>
    lt ((ix f1 (0 : Int)) : Sn) fun some_ =>
    lt (List.foldl t_law_great_2 some_ (rng (Int.fmod (Int.fdiv cell (6 : Int)) (3 : Int))) : Sn) fun f2 =>
    f2
  else
    lt ((Sn.n [(Sn.x (tx "yes"))]) : Sn) fun some_ =>
    lt (List.foldl t_law_great_3 some_ (rng ((22 : Int) + (Int.fmod (Int.fdiv cell (2 : Int)) (4 : Int)))) : Sn) fun f3 =>
    f3
def s_law_great (cell : Int) : Prop :=
  (((decide ((Int.fmod cell (2 : Int)) = (0 : Int))) = true) →
  (RepOk ([(Sn.n [(Sn.x (tx "mark")), (Sn.x (tx "f"))])] : (List Sn)) ((99 : Int) + (Int.fmod (Int.fdiv cell (2 : Int)) (3 : Int)))) ∧
  lt ((rep ([(Sn.n [(Sn.x (tx "mark")), (Sn.x (tx "f"))])] : (List Sn)) ((99 : Int) + (Int.fmod (Int.fdiv cell (2 : Int)) (3 : Int)))) : (List Sn)) fun row =>
  (whS v_law_great_1 c_law_great_1 u_law_great_1 t_law_great_1 wmost row) ∧
  lt (whl c_law_great_1 t_law_great_1 wmost row : (List Sn)) fun f1 =>
  (InR (List.length f1) (0 : Int)) ∧
  lt ((ix f1 (0 : Int)) : Sn) fun some_ =>
  (RgOk (Int.fmod (Int.fdiv cell (6 : Int)) (3 : Int))) ∧
  (foldS u_law_great_2 t_law_great_2 (rng (Int.fmod (Int.fdiv cell (6 : Int)) (3 : Int))) some_) ∧
  True) ∧
  (((decide ((Int.fmod cell (2 : Int)) = (0 : Int))) = false) →
  lt ((Sn.n [(Sn.x (tx "yes"))]) : Sn) fun some_ =>
  (RgOk ((22 : Int) + (Int.fmod (Int.fdiv cell (2 : Int)) (4 : Int)))) ∧
  (foldS u_law_great_3 t_law_great_3 (rng ((22 : Int) + (Int.fmod (Int.fdiv cell (2 : Int)) (4 : Int)))) some_) ∧
  True)

def t_law_k11_1 (j3 : Sn) (s1 : Unit) (turn : Int) : Out (Bool) (Unit) :=
  lt ((okv (m_marks_of j3)) : (List Tx)) fun letters =>
  if ((!true) || (!(decide (letters = (sortX (uniq (m_law_named 30 j3))))))) = true then
    .rt false
  else
    lt (letters ++ [(tx "z")] : (List Tx)) fun letters =>
    .nx ()
def u_law_k11_1 (j3 : Sn) (s1 : Unit) (turn : Int) : Prop :=
  (s_marks_of j3) ∧
  (isOk (m_marks_of j3)) ∧
  lt ((okv (m_marks_of j3)) : (List Tx)) fun letters =>
  (((!true) = false) → s_law_named 30 j3) ∧
  (((!true) = false) → List.length (m_law_named 30 j3) ≤ 1000 ∧ List.length (uniq (m_law_named 30 j3)) < 64) ∧
  ((((!true) || (!(decide (letters = (sortX (uniq (m_law_named 30 j3))))))) = false) →
  (Sz1 letters) ∧
  True)
def m_law_k11 (script : Sc) : Bool :=
  lt ((m_law_sentence script (3 : Int) ((1 : Int) + (Int.fmod (m_law_cell_at script (0 : Int)) (14 : Int)))) : Sn) fun some_ =>
  lt (if (decide ((120 : Int) < (m_law_count 30 some_))) = true then
      lt ((Sn.n [(Sn.x (tx "not")), (Sn.n [(Sn.x (tx "mark")), (Sn.x (tx "f"))])]) : Sn) fun some_ =>
      some_
    else
      some_ : Sn) fun j1 =>
  lt (if (decide ((Int.fmod (m_law_cell_at script (1 : Int)) (2 : Int)) = (1 : Int))) = true then
      lt ((m_law_spoilt_v2 30 j1 (Int.fmod (m_law_cell_at script (2 : Int)) (1000000000000 : Int))) : Sn) fun some_ =>
      some_
    else
      j1 : Sn) fun j2 =>
  lt (if (decide ((Int.fmod (Int.fdiv (m_law_cell_at script (1 : Int)) (2 : Int)) (8 : Int)) = (1 : Int))) = true then
      lt ((m_law_great (m_law_cell_at script (2 : Int))) : Sn) fun some_ =>
      some_
    else
      j2 : Sn) fun j3 =>
  lt (((m_law_good_v2 30 j3) && ((decide ((m_law_count 30 j3) ≤ (200 : Int))) && (decide ((m_law_deep 30 j3) ≤ (24 : Int))))) : Bool) fun due =>
  lt ((m_is_sentence j3) : Bool) fun found =>
  if ((!true) || (!(decide (found = due)))) = true then
    false
  else
    if (!due) = true then
      true
    else
      lt (([(okv (m_words j3)), (okv (m_depth j3))] : (List Int)) : (List Int)) fun told =>
      if ((!(m_law_whole (ix told (0 : Int)))) || ((!(m_law_whole (ix told (1 : Int)))) || (!(decide (told = ([(m_law_count 30 j3), (m_law_deep 30 j3)] : (List Int))))))) = true then
        false
      else
        (foldO (t_law_k11_1 j3) (rng (2 : Int)) ()).then (fun x => x) fun f4 =>
        true
def s_law_k11 (script : Sc) : Prop :=
  (s_law_cell_at script (0 : Int)) ∧
  (s_law_sentence script (3 : Int) ((1 : Int) + (Int.fmod (m_law_cell_at script (0 : Int)) (14 : Int)))) ∧
  lt ((m_law_sentence script (3 : Int) ((1 : Int) + (Int.fmod (m_law_cell_at script (0 : Int)) (14 : Int)))) : Sn) fun some_ =>
  (s_law_count 30 some_) ∧
  lt (if (decide ((120 : Int) < (m_law_count 30 some_))) = true then
      lt ((Sn.n [(Sn.x (tx "not")), (Sn.n [(Sn.x (tx "mark")), (Sn.x (tx "f"))])]) : Sn) fun some_ =>
      some_
    else
      some_ : Sn) fun j1 =>
  (s_law_cell_at script (1 : Int)) ∧
  ((((decide ((Int.fmod (m_law_cell_at script (1 : Int)) (2 : Int)) = (1 : Int))) = true) →
  (s_law_cell_at script (2 : Int)) ∧
  ((1000000000000 : Int) ≠ 0) ∧
  (s_law_spoilt_v2 30 j1 (Int.fmod (m_law_cell_at script (2 : Int)) (1000000000000 : Int))) ∧
  True)) ∧
  lt (if (decide ((Int.fmod (m_law_cell_at script (1 : Int)) (2 : Int)) = (1 : Int))) = true then
      lt ((m_law_spoilt_v2 30 j1 (Int.fmod (m_law_cell_at script (2 : Int)) (1000000000000 : Int))) : Sn) fun some_ =>
      some_
    else
      j1 : Sn) fun j2 =>
  (s_law_cell_at script (1 : Int)) ∧
  ((((decide ((Int.fmod (Int.fdiv (m_law_cell_at script (1 : Int)) (2 : Int)) (8 : Int)) = (1 : Int))) = true) →
  (s_law_cell_at script (2 : Int)) ∧
  (s_law_great (m_law_cell_at script (2 : Int))) ∧
  True)) ∧
  lt (if (decide ((Int.fmod (Int.fdiv (m_law_cell_at script (1 : Int)) (2 : Int)) (8 : Int)) = (1 : Int))) = true then
      lt ((m_law_great (m_law_cell_at script (2 : Int))) : Sn) fun some_ =>
      some_
    else
      j2 : Sn) fun j3 =>
  (s_law_good_v2 30 j3) ∧
  (((m_law_good_v2 30 j3) = true) → s_law_count 30 j3) ∧
  (((m_law_good_v2 30 j3) = true) → ((decide ((m_law_count 30 j3) ≤ (200 : Int))) = true) → s_law_deep 30 j3) ∧
  lt (((m_law_good_v2 30 j3) && ((decide ((m_law_count 30 j3) ≤ (200 : Int))) && (decide ((m_law_deep 30 j3) ≤ (24 : Int))))) : Bool) fun due =>
  (s_is_sentence j3) ∧
  lt ((m_is_sentence j3) : Bool) fun found =>
  ((((!true) || (!(decide (found = due)))) = false) →
  (((!due) = false) →
  (s_words j3) ∧
  (isOk (m_words j3)) ∧
  (s_depth j3) ∧
  (isOk (m_depth j3)) ∧
  lt (([(okv (m_words j3)), (okv (m_depth j3))] : (List Int)) : (List Int)) fun told =>
  (InR (List.length told) (0 : Int)) ∧
  (s_law_whole (ix told (0 : Int))) ∧
  (((!(m_law_whole (ix told (0 : Int)))) = false) → InR (List.length told) (1 : Int)) ∧
  (((!(m_law_whole (ix told (0 : Int)))) = false) → s_law_whole (ix told (1 : Int))) ∧
  (((!(m_law_whole (ix told (0 : Int)))) = false) → ((!(m_law_whole (ix told (1 : Int)))) = false) → s_law_count 30 j3) ∧
  (((!(m_law_whole (ix told (0 : Int)))) = false) → ((!(m_law_whole (ix told (1 : Int)))) = false) → s_law_deep 30 j3) ∧
  ((((!(m_law_whole (ix told (0 : Int)))) || ((!(m_law_whole (ix told (1 : Int)))) || (!(decide (told = ([(m_law_count 30 j3), (m_law_deep 30 j3)] : (List Int))))))) = false) →
  (RgOk (2 : Int)) ∧
  (foldOS (u_law_k11_1 j3) (t_law_k11_1 j3) (rng (2 : Int)) ()) ∧
  True)))

def m_turned_to (turns : (List (Option (T2 Int Int)))) (there : Int) (room : Int) : Bool :=
  if (Option.isNone (ix turns there)) = true then
    false
  else
    if (!(decide ((uw (ix turns there)).a = (uw (ix turns room)).a))) = true then
      (decide ((uw (ix turns there)).a < (uw (ix turns room)).a))
    else
      ((decide ((uw (ix turns there)).b < (uw (ix turns room)).b)) || ((decide ((uw (ix turns room)).b = (0 : Int))) && (decide ((uw (ix turns there)).b = (0 : Int)))))
def m_law_now (world : W) (player : Int) (room : Int) (known : (List Int)) : Bool :=
  lt ((List.filter (fun (there : Int) => (decide (there ∈ known))) (ix world.c room)) : (List Int)) fun into =>
  if (decide ((ix world.a room) = player)) = true then
    (decide ((0 : Int) < (len into)))
  else
    (decide ((len into) = (len (ix world.c room))))
def m_first_keys (world : W) (owned : Bool) : (List Int) :=
  lt ((List.map (fun (room : Int) => (⟨(ix world.b room), (if owned = true then (ix world.a room) else (0 : Int))⟩ : (T2 (List Tx) Int))) (rng (len world.a))) : (List (T2 (List Tx) Int))) fun looks =>
  (List.map (fun (look : (T2 (List Tx) Int)) => ((List.idxOf look looks : Nat) : Int)) looks)
def t_finer_keys_1 (world : W) (keys : (List Int)) (s1 : (List (T2 Int (List Int)))) (room : Int) : (List (T2 Int (List Int))) :=
  lt (s1 ++ [(⟨(ix keys room), (sortI (uniq (List.map T2.a (List.map (fun (there : Int) => (⟨(ix keys there), true⟩ : (T2 Int Bool))) (ix world.c room)))))⟩ : (T2 Int (List Int)))] : (List (T2 Int (List Int)))) fun looks =>
  looks
def m_finer_keys (world : W) (keys : (List Int)) : (List Int) :=
  lt (([] : (List (T2 Int (List Int)))) : (List (T2 Int (List Int)))) fun looks =>
  lt (List.foldl (t_finer_keys_1 world keys) looks (rng (len world.a)) : (List (T2 Int (List Int)))) fun f1 =>
  (List.map (fun (look : (T2 Int (List Int))) => ((List.idxOf look f1 : Nat) : Int)) f1)
end
end Law
/-! Plain facts: lists by places, worlds, what the laws draw. -/
namespace Law
open PySem PySem.Spec PyProof.Rows L2 MP
open MP.Enc (enc)
/-! ### lists by places -/
theorem sz_le {α : Type} {l : List α} (h : l.length ≤ 100000) : Sz l := by unfold Sz; omega
theorem sz1_le {α : Type} {l : List α} (h : l.length ≤ 100000) : Sz1 l := by unfold Sz1; omega
theorem inR {n : Nat} {i : Int} (h0 : 0 ≤ i) (h : i < n) : InR n i := ⟨by omega, h⟩
theorem mem_rng {n x : Int} : x ∈ rng n ↔ 0 ≤ x ∧ x < n := by
  unfold rng rangeI
  simp only [List.mem_map, List.mem_range]
  constructor
  · rintro ⟨k, h, rfl⟩; omega
  · intro h; exact ⟨x.toNat, by omega, by omega⟩
theorem mem_rng2 {a b x : Int} : x ∈ rng2 a b ↔ a ≤ x ∧ x < b := by
  unfold rng2 rangeI
  simp only [List.mem_map, List.mem_range]
  constructor
  · rintro ⟨k, h, rfl⟩; omega
  · intro h; exact ⟨(x - a).toNat, by omega, by omega⟩
theorem rgOk {n : Int} (h0 : 0 ≤ n) (h : n ≤ 100000) : RgOk n := ⟨by omega, by omega⟩
theorem rg2Ok {i j : Int} (h0 : 0 ≤ i) (h1 : 0 ≤ j) (h2 : i ≤ 100000) (h : j ≤ 100000) : Rg2Ok i j := ⟨by omega, by omega, by omega, by omega, by omega⟩
section
variable {α β : Type} [Inhabited α] [Inhabited β]
theorem ix_at {l : List α} {i : Int} (h0 : 0 ≤ i) (h : i < l.length) : ix l i = l[i.toNat]'(by omega) := by
  unfold ix
  rw [atI_pos h0 h, List.getElem?_eq_getElem (by omega)]
  rfl
theorem ix_in {l : List α} {i : Int} (h0 : 0 ≤ i) (h : i < l.length) : ix l i ∈ l := ix_mem (inR h0 h)
end
theorem rng_nat (n : Nat) : rng (n : Int) = (List.range n).map fun k : Nat => (k : Int) := by
  unfold rng rangeI
  simp
theorem rng_succ (n : Nat) : rng ((n + 1 : Nat) : Int) = rng (n : Int) ++ [(n : Int)] := by
  rw [rng_nat, rng_nat, List.range_succ, List.map_append]
  rfl
theorem rng_pair (n : Int) : (rng n).Pairwise (· < ·) := by
  unfold rng rangeI
  rw [List.pairwise_map]
  exact List.Pairwise.imp (fun h => by omega) List.pairwise_lt_range
/-! ### loops over numbers -/
theorem foldl_rng {σ : Type} (I : Nat → σ → Prop) {f : σ → Int → σ} : ∀ {n : Nat} {s : σ}, I 0 s → (∀ i : Nat, i < n → ∀ s, I i s → I (i + 1) (f s i)) → I n ((rng (n : Int)).foldl f s)
  | 0, _, h0, _ => by simpa [rng, rangeI] using h0
  | n + 1, s, h0, h => by
    rw [rng_succ, List.foldl_append]
    exact h n (by omega) _ (foldl_rng I h0 fun i hi => h i (by omega))
theorem foldS_app {α σ : Type} {safe : σ → α → Prop} {f : σ → α → σ} : ∀ {l m : List α} {s : σ}, foldS safe f l s → foldS safe f m (l.foldl f s) → foldS safe f (l ++ m) s
  | [], _, _, _, h => h
  | x :: l, m, s, h1, h2 => ⟨h1.1, foldS_app h1.2 h2⟩
theorem foldS_rng {σ : Type} (I : Nat → σ → Prop) {safe : σ → Int → Prop} {f : σ → Int → σ} : ∀ {n : Nat} {s : σ}, I 0 s → (∀ i : Nat, i < n → ∀ s, I i s → safe s i ∧ I (i + 1) (f s i)) → foldS safe f (rng (n : Int)) s
  | 0, _, h0, _ => by simp [rng, rangeI, foldS]
  | n + 1, s, h0, h => by
    rw [rng_succ]
    have h1 := foldl_rng I (f := f) (n := n) h0 fun i hi s hs => (h i (by omega) s hs).2
    exact foldS_app (foldS_rng I h0 fun i hi => h i (by omega)) ⟨(h n (by omega) _ h1).1, trivial⟩
theorem foldOS_unit {α ρ : Type} {safe : Unit → α → Prop} {f : Unit → α → Out ρ Unit} : ∀ {l : List α}, (∀ x ∈ l, safe () x) → foldOS safe f l ()
  | [], _ => trivial
  | x :: l, h => by
    refine ⟨h x List.mem_cons_self, ?_⟩
    cases f () x with
    | rt y => trivial
    | nx s => exact foldOS_unit fun y hy => h y (List.mem_cons_of_mem _ hy)
/-! ### rising -/
theorem s_rises_X_ok {l : List Tx} (h : l.length ≤ 10000) : s_rises_X l := by
  unfold s_rises_X
  have hl : len l = l.length := rfl
  refine ⟨rg2Ok (by decide) (by omega) (by decide) (by omega), foldOS_unit fun k hk => ?_, trivial⟩
  have hk := mem_rng2.mp hk
  exact ⟨inR (by omega) (by omega), inR (by omega) (by omega), trivial⟩
theorem s_are_marks_ok {l : List Tx} (h : l.length ≤ 10000) (h2 : ∀ x ∈ l, x.cs.length ≤ 10000) : s_are_marks l := ⟨sz_le (by omega), fun x hx => sz_le (by have := h2 x hx; omega), fun _ => s_rises_X_ok h, trivial⟩
/-! ### worlds -/
/-- rising rooms are few -/
theorem asc_len {n : Int} {r : List Int} (h1 : ∀ x ∈ r, 0 ≤ x ∧ x < n) (h2 : r.Pairwise (· < ·)) (hn : 0 ≤ n) : (r.length : Int) ≤ n := by
  have key : ∀ (r : List Int) (a : Int), a ≤ n → r.Pairwise (· < ·) → (∀ x ∈ r, a ≤ x ∧ x < n) → (r.length : Int) ≤ n - a := by
    intro r
    induction r with
    | nil => intro a ha _ _; simp; omega
    | cons y r ih =>
      intro a ha hp hr
      rw [List.pairwise_cons] at hp
      have h1 := hr y List.mem_cons_self
      have := ih (y + 1) (by omega) hp.2 (fun x hx => ⟨by have := hp.1 x hx; omega, (hr x (List.mem_cons_of_mem _ hx)).2⟩)
      rw [List.length_cons]; omega
  have := key r 0 hn h2 h1
  omega
def MarkRow (r : List Tx) : Prop := m_are_marks r = true ∧ r.length ≤ 10000 ∧ ∀ x ∈ r, x.cs.length ≤ 10000
structure Wok (w : W) (n : Nat) : Prop where
  la : w.a.length = n
  lb : w.b.length = n
  lc : w.c.length = n
  n1 : 1 ≤ n
  n24 : n ≤ 24
  ow : ∀ x ∈ w.a, x = 0 ∨ x = 1
  mks : ∀ r ∈ w.b, MarkRow r
  ne : ∀ r ∈ w.c, r ≠ []
  st : ∀ r ∈ w.c, ∀ x ∈ r, 0 ≤ x ∧ x < n
  asc : ∀ r ∈ w.c, r.Pairwise (· < ·)
section
variable {w : W} {n : Nat} (h : Wok w n)
include h
theorem Wok.len : MP.len w.a = n := by show (w.a.length : Int) = n; rw [h.la]
theorem Wok.own {r : Int} (h0 : 0 ≤ r) (h1 : r < n) : ix w.a r = 0 ∨ ix w.a r = 1 := h.ow _ (ix_in h0 (by rw [h.la]; exact h1))
theorem Wok.row {r : Int} (h0 : 0 ≤ r) (h1 : r < n) : ix w.c r ∈ w.c := ix_in h0 (by rw [h.lc]; exact h1)
theorem Wok.step {r s : Int} (h0 : 0 ≤ r) (h1 : r < n) (hs : s ∈ ix w.c r) : 0 ≤ s ∧ s < n := h.st _ (h.row h0 h1) s hs
theorem Wok.ia {r : Int} (h0 : 0 ≤ r) (h1 : r < n) : InR w.a.length r := inR h0 (by rw [h.la]; exact h1)
theorem Wok.rg : RgOk (MP.len w.a) := by
  have := h.len
  have := h.n24
  exact rgOk (by omega) (by omega)
end
end Law

/-! What the laws draw. -/
namespace Law
open PySem PySem.Spec PyProof.Rows L2 MP
open MP.Enc (enc)
theorem s_cell {sc : Sc} {k : Int} (h : 0 ≤ k) : s_law_cell_at sc k := by
  unfold s_law_cell_at
  intro hk
  have hk : k < (sc.ns.length : Int) := of_decide_eq_true hk
  exact ⟨inR h hk, trivial⟩
theorem draw_rng (c k : Int) {b : Int} (h : 0 < b) : 0 ≤ m_law_draw c k b ∧ m_law_draw c k b < b := by
  unfold m_law_draw
  split
  · exact ⟨Int.fmod_nonneg_of_pos _ h, Int.fmod_lt_of_pos _ h⟩
  · exact ⟨Int.fmod_nonneg_of_pos _ h, Int.fmod_lt_of_pos _ h⟩
theorem s_draw {c k b : Int} (hk : 0 ≤ k ∧ k < 100000) (hb : 0 < b ∧ b < 1073741824) : s_law_draw c k b := by
  unfold s_law_draw
  refine ⟨fun _ => ⟨rgOk hk.1 (by omega), ?_⟩, fun _ => ?_⟩
  · have hd : ∀ x : Int, DivOk x b := fun x => ⟨by omega, by omega⟩
    have key : ∀ (l : List Int) (s : Int), foldS (u_law_draw_1 b) (t_law_draw_1 b) l s := fun l => by
      induction l with
      | nil => intro s; trivial
      | cons x r ih => intro s; exact ⟨⟨hd _, trivial⟩, ih _⟩
    exact ⟨key _ _, by show b ≠ 0; omega, trivial⟩
  · have r := Int.fmod_nonneg_of_pos (((c.fmod 1000000007 + 1009 * k) + 17) * 69621) (show (0 : Int) < 2147483647 by decide)
    have r2 := Int.fmod_lt_of_pos (((c.fmod 1000000007 + 1009 * k) + 17) * 69621) (show (0 : Int) < 2147483647 by decide)
    refine ⟨.inl ⟨by omega, by omega⟩, ?_⟩
    exact ⟨by omega, trivial⟩
theorem s_draw2 {c k : Int} (hk : 0 ≤ k ∧ k < 100000) : s_law_draw c k 2 := s_draw hk (by decide)
/-- a drawn row of steps -/
structure Row (n : Int) (r : List Int) : Prop where
  ne : r ≠ []
  st : ∀ x ∈ r, 0 ≤ x ∧ x < n
  asc : r.Pairwise (· < ·)
/-- worlds that are drawn -/
structure WI (n : Int) (k : Nat) (s : List Int × List (List Tx) × List (List Int)) : Prop where
  la : s.1.length = k
  lb : s.2.1.length = k
  lc : s.2.2.length = k
  ow : ∀ x ∈ s.1, x = 0 ∨ x = 1
  mks : ∀ r ∈ s.2.1, ∃ p : Tx → Bool, r = (chars (tx "abc")).filter p
  row : ∀ r ∈ s.2.2, Row n r
end Law

/-! Games: bringing. -/
namespace Law
open PySem PySem.Spec PyProof.Rows L2 MP
open MP.Enc (enc)
/-- a player can make the way go into some rooms by one step -/
def Can (w : W) (p r : Int) (Y : Int → Prop) : Prop := (ix w.a r = p ∧ ∃ s ∈ ix w.c r, Y s) ∨ (ix w.a r ≠ p ∧ ∀ s ∈ ix w.c r, Y s)
theorem Can.mono {w : W} {p r : Int} {Y Z : Int → Prop} (h : Can w p r Y) (yz : ∀ s ∈ ix w.c r, Y s → Z s) : Can w p r Z := by
  rcases h with ⟨h1, s, h2, h3⟩ | ⟨h1, h2⟩
  · exact .inl ⟨h1, s, h2, yz s h2 h3⟩
  · exact .inr ⟨h1, fun s hs => yz s hs (h2 s hs)⟩
theorem Can.congr {w : W} {p r : Int} {Y Z : Int → Prop} (yz : ∀ s ∈ ix w.c r, (Y s ↔ Z s)) : Can w p r Y ↔ Can w p r Z :=
  ⟨fun h => h.mono fun s hs => (yz s hs).mp, fun h => h.mono fun s hs => (yz s hs).mpr⟩
/-! ### some places are set -/
/-! ### what bringing tells -/
structure Brt (w : W) (n : Nat) (p : Int) (base wi had : Int → Prop) (R : List (Option Int)) : Prop where
  len : R.length = n
  nn : ∀ r k : Int, 0 ≤ r → r < n → ix R r = some k → 0 ≤ k
  zero : ∀ r : Int, 0 ≤ r → r < n → (ix R r = some 0 ↔ base r)
  step : ∀ r k : Int, 0 ≤ r → r < n → ix R r = some k → 0 < k → wi r ∧ Can w p r fun s => had s ∨ ∃ j, j < k ∧ ix R s = some j
  least : ∀ r k : Int, 0 ≤ r → r < n → ix R r = some k → 2 ≤ k → ¬ Can w p r fun s => had s ∨ ∃ j, j < k - 1 ∧ ix R s = some j
  full : ∀ r : Int, 0 ≤ r → r < n → wi r → ix R r = none → ¬ Can w p r fun s => had s ∨ (ix R s).isSome = true
structure BI (w : W) (n : Nat) (p : Int) (base wi had : Int → Prop) (s : Int × List (Option Int) × Bool) : Prop where
  r0 : 0 ≤ s.1
  len : s.2.1.length = n
  nn : ∀ r k : Int, 0 ≤ r → r < n → ix s.2.1 r = some k → 0 ≤ k ∧ k ≤ s.1
  zero : ∀ r : Int, 0 ≤ r → r < n → (ix s.2.1 r = some 0 ↔ base r)
  step : ∀ r k : Int, 0 ≤ r → r < n → ix s.2.1 r = some k → 0 < k → wi r ∧ Can w p r fun t => had t ∨ ∃ j, j < k ∧ ix s.2.1 t = some j
  least : ∀ r k : Int, 0 ≤ r → r < n → ix s.2.1 r = some k → 2 ≤ k → ¬ Can w p r fun t => had t ∨ ∃ j, j < k - 1 ∧ ix s.2.1 t = some j
  clos : 1 ≤ s.1 → ∀ r : Int, 0 ≤ r → r < n → wi r → (Can w p r fun t => had t ∨ ∃ j, j < s.1 ∧ ix s.2.1 t = some j) → (ix s.2.1 r).isSome = true
  full : s.2.2 = false → ∀ r : Int, 0 ≤ r → r < n → wi r → ix s.2.1 r = none → ¬ Can w p r fun t => had t ∨ (ix s.2.1 t).isSome = true
section
variable {w : W} {n : Nat} (h : Wok w n) {p : Int} {rooms within had : List Int}
include h
end
end Law

/-! Games: what bring and keep tell. -/
namespace Law
open PySem PySem.Spec PyProof.Rows L2 MP
open MP.Enc (enc)
def Pl (p : Int) : Prop := p = 0 ∨ p = 1
theorem Pl.other {p : Int} (h : Pl p) : Pl (1 - p) := by unfold Pl at *; omega
/-- a rising list of rooms -/
structure RL (n : Nat) (l : List Int) : Prop where
  st : ∀ x ∈ l, 0 ≤ x ∧ x < (n : Int)
  asc : l.Pairwise (· < ·)
theorem RL.len {n : Nat} {l : List Int} (h : RL n l) : l.length ≤ n := by
  have := asc_len h.st h.asc (by omega)
  omega
theorem RL.filter {n : Nat} (p : Int → Bool) : RL n ((rng (n : Int)).filter p) :=
  ⟨fun x hx => mem_rng.mp (List.mem_filter.mp hx).1, (rng_pair _).sublist List.filter_sublist⟩
theorem RL.sub {n : Nat} {l m : List Int} (h : RL n l) (s : m.Sublist l) : RL n m := ⟨fun x hx => h.st x (s.subset hx), h.asc.sublist s⟩
theorem RL.rng (n : Nat) : RL n (MP.rng (n : Int)) := ⟨fun x hx => mem_rng.mp hx, rng_pair _⟩
theorem Brt.congr {w : W} {n : Nat} (h : Wok w n) {p : Int} {b wi had b' wi' had' : Int → Prop} {R : List (Option Int)} (B : Brt w n p b wi had R)
    (hb : ∀ r : Int, 0 ≤ r → r < n → (b r ↔ b' r)) (hw : ∀ r : Int, 0 ≤ r → r < n → (wi r ↔ wi' r)) (hh : ∀ r : Int, 0 ≤ r → r < n → (had r ↔ had' r)) : Brt w n p b' wi' had' R := by
  have hC : ∀ {r : Int} {Y : Int → Prop}, 0 ≤ r → r < n → (Can w p r (fun s => had s ∨ Y s) ↔ Can w p r (fun s => had' s ∨ Y s)) := fun h0 h1 => Can.congr fun s hs => by rw [hh s (h.step h0 h1 hs).1 (h.step h0 h1 hs).2]
  exact ⟨B.len, B.nn, fun r h0 h1 => by rw [B.zero r h0 h1, hb r h0 h1], fun r k h0 h1 e hk => by
    obtain ⟨a, c⟩ := B.step r k h0 h1 e hk
    exact ⟨(hw r h0 h1).mp a, (hC h0 h1).mp c⟩, fun r k h0 h1 e hk c => B.least r k h0 h1 e hk ((hC h0 h1).mpr c), fun r h0 h1 hwi e c => B.full r h0 h1 ((hw r h0 h1).mpr hwi) e ((hC h0 h1).mpr c)⟩
/-- the ranked rooms are within each set that is closed -/
theorem Brt.sub {w : W} {n : Nat} (h : Wok w n) {p : Int} {b wi had : Int → Prop} {R : List (Option Int)} (B : Brt w n p b wi had R) (T : Int → Prop) (hb : ∀ r : Int, 0 ≤ r → r < n → b r → T r)
    (hs : ∀ r : Int, 0 ≤ r → r < n → wi r → Can w p r (fun s => had s ∨ T s) → T r) : ∀ r : Int, 0 ≤ r → r < n → (ix R r).isSome = true → T r := by
  have key : ∀ (m : Nat) (r k : Int), 0 ≤ r → r < n → ix R r = some k → k ≤ m → T r := by
    intro m
    induction m with
    | zero =>
      intro r k h0 h1 e hk
      have := B.nn r k h0 h1 e
      have : k = 0 := by omega
      subst this
      exact hb r h0 h1 ((B.zero r h0 h1).mp e)
    | succ m ih =>
      intro r k h0 h1 e hk
      have hn := B.nn r k h0 h1 e
      by_cases q : k = 0
      · subst q
        exact hb r h0 h1 ((B.zero r h0 h1).mp e)
      · obtain ⟨a, c⟩ := B.step r k h0 h1 e (by omega)
        refine hs r h0 h1 a (c.mono fun s hs2 hs3 => ?_)
        rcases hs3 with z | ⟨j, hj, ej⟩
        · exact .inl z
        · exact .inr (ih s j (h.step h0 h1 hs2).1 (h.step h0 h1 hs2).2 ej (by omega))
  intro r h0 h1 e
  obtain ⟨k, hk⟩ := Option.isSome_iff_exists.mp e
  exact key k.toNat r k h0 h1 hk (by omega)
section
variable {w : W} {n : Nat} (h : Wok w n) {p : Int} (hp : Pl p) {rooms : List Int}
include h
include hp
/-- ranks over the whole world -/
abbrev Brg (w : W) (n : Nat) (p : Int) (X : Int → Prop) (R : List (Option Int)) : Prop := Brt w n p X (fun _ => True) (fun _ => False) R
/-- the plan that goes downwards -/
structure Dwn (w : W) (n : Nat) (p : Int) (R P : List (Option Int)) : Prop where
  len : P.length = n
  go : ∀ r k : Int, 0 ≤ r → r < n → ix w.a r = p → ix R r = some k → 0 < k → ∃ s ∈ ix w.c r, ix P r = some s ∧ ∃ j, j < k ∧ ix R s = some j
  no : ∀ r : Int, 0 ≤ r → r < n → (¬ ix w.a r = p ∨ ix R r = none ∨ ix R r = some 0) → ix P r = none
/-- what keep tells -/
structure Kept (w : W) (n : Nat) (p : Int) (X : Int → Prop) (K : List Int) (P R Q : List (Option Int)) : Prop where
  rl : RL n K
  ranks : Brg w n (1 - p) (fun r => ¬ X r) R
  cplan : Dwn w n (1 - p) R Q
  mem : ∀ r : Int, 0 ≤ r → r < n → (r ∈ K ↔ ix R r = none)
  len : P.length = n
  go : ∀ r : Int, 0 ≤ r → r < n → r ∈ K → ix w.a r = p → ∃ s ∈ ix w.c r, ix P r = some s ∧ s ∈ K
  no : ∀ r : Int, 0 ≤ r → r < n → (r ∉ K ∨ ¬ ix w.a r = p) → ix P r = none
end
end Law

/-! Games: again and again. -/
namespace Law
open PySem PySem.Spec PyProof.Rows L2 MP
open MP.Enc (enc)
abbrev Tu : Type := List (Option (T2 Int Int))
/-- a step leads down, in turns -/
def Down (T : Tu) (s : Int) (t k : Int) : Prop := ∃ a b, ix T s = some ⟨a, b⟩ ∧ (a < t ∨ (a = t ∧ (b < k ∨ (b = 0 ∧ k = 0))))
/-- the paper of again -/
structure Agn (w : W) (n : Nat) (p : Int) (X : Int → Prop) (R : List (Option Int)) (T : Tu) : Prop where
  lenR : R.length = n
  lenT : T.length = n
  one : ∀ r : Int, 0 ≤ r → r < n → ((ix R r).isSome = true ↔ ix T r = none)
  nn : ∀ r k : Int, 0 ≤ r → r < n → ix R r = some k → 0 ≤ k
  zero : ∀ r : Int, 0 ≤ r → r < n → (ix R r).isSome = true → (ix R r = some 0 ↔ X r)
  on : ∀ r : Int, 0 ≤ r → r < n → (ix R r).isSome = true → Can w p r fun s => (ix R s).isSome = true
  low : ∀ r k : Int, 0 ≤ r → r < n → ix R r = some k → 0 < k → Can w p r fun s => ∃ j, j < k ∧ ix R s = some j
  tn : ∀ r t k : Int, 0 ≤ r → r < n → ix T r = some ⟨t, k⟩ → 0 ≤ t ∧ 0 ≤ k ∧ t < n
  tz : ∀ r t : Int, 0 ≤ r → r < n → ix T r = some ⟨t, 0⟩ → ¬ X r
  down : ∀ r t k : Int, 0 ≤ r → r < n → ix T r = some ⟨t, k⟩ → Can w (1 - p) r fun s => Down T s t k
/-- the loop's state -/
abbrev AS : Type := (Option (List (Option Int))) × Tu × (List Int) × Bool × Int
structure AI (w : W) (n : Nat) (p : Int) (X : Int → Prop) (s : AS) : Prop where
  lenT : s.2.1.length = n
  t0 : 0 ≤ s.2.2.2.2
  tle : s.2.2.2.2 + s.2.2.1.length ≤ n + (if s.2.2.2.1 = true then 0 else 1)
  rl : RL n s.2.2.1
  mem : ∀ r : Int, 0 ≤ r → r < n → (r ∈ s.2.2.1 ↔ ix s.2.1 r = none)
  tn : ∀ r t k : Int, 0 ≤ r → r < n → ix s.2.1 r = some ⟨t, k⟩ → 0 ≤ t ∧ 0 ≤ k ∧ t < s.2.2.2.2 ∧ t < n
  tz : ∀ r t : Int, 0 ≤ r → r < n → ix s.2.1 r = some ⟨t, 0⟩ → ¬ X r
  down : ∀ r t k : Int, 0 ≤ r → r < n → ix s.2.1 r = some ⟨t, k⟩ → Can w (1 - p) r fun q => Down s.2.1 q t k
  fin : s.2.2.2.1 = false → ∃ R, s.1 = some R ∧ Brt w n p (fun r => X r ∧ r ∈ s.2.2.1) (· ∈ s.2.2.1) (fun _ => False) R ∧ (∀ r : Int, 0 ≤ r → r < n → ((ix R r).isSome = true ↔ r ∈ s.2.2.1)) ∧ ∀ r ∈ s.2.2.1, Can w p r (· ∈ s.2.2.1)
section
variable {w : W} {n : Nat} (h : Wok w n) {p : Int} (hp : Pl p) {rooms : List Int}
include h hp
end
end Law

/-! Games: what again tells. -/
namespace Law
open PySem PySem.Spec PyProof.Rows L2 MP
open MP.Enc (enc)
theorem turned {T : Tu} {s r t k : Int} (e : ix T r = some ⟨t, k⟩) : m_turned_to T s r = true ↔ Down T s t k := by
  unfold m_turned_to Down
  cases q : ix T s with
  | none => simp
  | some ab =>
    obtain ⟨a, b⟩ := ab
    have u1 : uw (some (⟨a, b⟩ : T2 Int Int)) = ⟨a, b⟩ := rfl
    have u2 : uw (some (⟨t, k⟩ : T2 Int Int)) = ⟨t, k⟩ := rfl
    rw [e]
    simp only [u1, u2, Option.isNone_some, Bool.false_eq_true, if_false, Option.some.injEq, T2.mk.injEq]
    by_cases q1 : a = t
    · simp only [q1]
      simp
      constructor
      · intro z
        exact ⟨t, b, ⟨rfl, rfl⟩, .inr ⟨rfl, by omega⟩⟩
      · rintro ⟨a', b', ⟨rfl, rfl⟩, z⟩
        omega
    · simp [q1]
      constructor
      · intro z
        exact ⟨a, b, ⟨rfl, rfl⟩, .inl z⟩
      · rintro ⟨a', b', ⟨rfl, rfl⟩, z⟩
        omega
/-- the plan of a paper -/
structure PlanB (w : W) (n : Nat) (p : Int) (R P : List (Option Int)) : Prop where
  len : P.length = n
  go : ∀ r k : Int, 0 ≤ r → r < n → ix w.a r = p → ix R r = some k → ∃ s ∈ ix w.c r, ix P r = some s ∧ ∃ j, ix R s = some j ∧ (k = 0 ∨ j < k)
  no : ∀ r : Int, 0 ≤ r → r < n → (¬ ix w.a r = p ∨ ix R r = none) → ix P r = none
structure CounB (w : W) (n : Nat) (q : Int) (T : Tu) (P : List (Option Int)) : Prop where
  len : P.length = n
  go : ∀ r t k : Int, 0 ≤ r → r < n → ix w.a r = q → ix T r = some ⟨t, k⟩ → ∃ s ∈ ix w.c r, ix P r = some s ∧ Down T s t k
  no : ∀ r : Int, 0 ≤ r → r < n → (¬ ix w.a r = q ∨ ix T r = none) → ix P r = none
section
variable {w : W} {n : Nat} (h : Wok w n) {p : Int} (hp : Pl p) {rooms : List Int}
include h
include hp
end
end Law

/-! Games: which rooms can be met again and again. -/
namespace Law
open PySem PySem.Spec PyProof.Rows L2 MP
open MP.Enc (enc)
section
variable {w : W} {n : Nat} (h : Wok w n) {p : Int} (hp : Pl p) {X : Int → Prop} {R : List (Option Int)} {T : Tu}
include h hp
end
/-! ### rounds that come to an end -/
def itn {α : Type} (F : α → α) : Nat → α → α
  | 0, s => s
  | k + 1, s => F (itn F k s)
/-! ### the law's own rounds -/
section
variable {w : W} {n : Nat} (h : Wok w n) {p : Int} (hp : Pl p) {rooms : List Int} (hr : RL n rooms)
include h hp hr
def goodL (w : W) (p : Int) (rooms won : List Int) : List Int := rooms.filter fun r => m_law_now w p r won
def stepL (w : W) (p : Int) (good known : List Int) : List Int := (rng (MP.len w.a)).filter fun r => decide (r ∈ good) || m_law_now w p r known
def roundL (w : W) (n : Nat) (p : Int) (rooms won : List Int) : List Int := itn (stepL w p (goodL w p rooms won)) n (goodL w p rooms won)
structure LA (w : W) (n : Nat) (p : Int) (rooms : List Int) (R : List (Option Int)) (s : Int × List Int) : Prop where
  rl : RL n s.2
  sub : ∀ r : Int, 0 ≤ r → r < n → (ix R r).isSome = true → r ∈ s.2
  last : s.1 = -1 ∨ ∃ l, RL n l ∧ s.1 = (l.length : Int) ∧ s.2 = l.filter fun r => decide (r ∈ roundL w n p rooms l)
end
end Law

/-! Small defs of the laws about players. -/
namespace Law
open PySem PySem.Spec PyProof.Rows L2 MP
open MP.Enc (enc)
section
variable {w : W} {n : Nat} (h : Wok w n)
include h
end
end Law

/-! Games: one world within another. -/
namespace Law
open PySem PySem.Spec PyProof.Rows L2 MP
open MP.Enc (enc)
structure Emb (w : W) (n : Nat) (p : Int) (w' : W) (n' : Nat) (p' : Int) (e : Int → Int) : Prop where
  val : ∀ r : Int, 0 ≤ r → r < n → 0 ≤ e r ∧ e r < n'
  can : ∀ r : Int, 0 ≤ r → r < n → ∀ Z : Int → Prop, (Can w p r fun s => Z (e s)) ↔ Can w' p' (e r) Z
  can2 : ∀ r : Int, 0 ≤ r → r < n → ∀ Z : Int → Prop, (Can w (1 - p) r fun s => Z (e s)) ↔ Can w' (1 - p') (e r) Z
theorem Emb.other {w w' : W} {n n' : Nat} {p p' : Int} {e : Int → Int} (E : Emb w n p w' n' p' e) : Emb w n (1 - p) w' n' (1 - p') e :=
  ⟨E.val, E.can2, by rw [show 1 - (1 - p) = p by omega, show 1 - (1 - p') = p' by omega]; exact E.can⟩
section
variable {w w' : W} {n n' : Nat} {p p' : Int} {e : Int → Int}
end
end Law

/-! Worlds renamed and handed over. -/
namespace Law
open PySem PySem.Spec PyProof.Rows L2 MP
open MP.Enc (enc)
/-- each room once -/
def Ord (n : Nat) (l : List Int) : Prop := l.Perm (rng (n : Int))
section
variable {n : Nat} {l : List Int} (o : Ord n l)
include o
theorem Ord.len : l.length = n := by have := o.length_eq; rw [rng_length] at this; omega
theorem Ord.mem {x : Int} : x ∈ l ↔ 0 ≤ x ∧ x < n := by rw [o.mem_iff, mem_rng]
theorem Ord.nodup : l.Nodup := o.nodup_iff.mpr ((rng_pair _).imp fun h => by omega)
theorem Ord.at_ {k : Int} (h0 : 0 ≤ k) (h1 : k < n) : 0 ≤ ix l k ∧ ix l k < n := o.mem.mp (ix_in h0 (by rw [o.len]; exact h1))
theorem Ord.inj {j k : Int} (h0 : 0 ≤ j) (h1 : j < n) (g0 : 0 ≤ k) (g1 : k < n) (e : ix l j = ix l k) : j = k := by
  rw [ix_at h0 (by rw [o.len]; exact h1), ix_at g0 (by rw [o.len]; exact g1)] at e
  have := (List.getElem_inj o.nodup).mp e
  omega
end
section
variable {w : W} {n : Nat} (h : Wok w n)
include h
end
end Law

/-! Fair rooms. -/
namespace Law
open PySem PySem.Spec PyProof.Rows L2 MP
open MP.Enc (enc)
/-- rooms from which some are reached within some -/
inductive Rg (w : W) (K G : Int → Prop) : Int → Prop
  | here {r : Int} : K r → G r → Rg w K G r
  | step {r s : Int} : K r → s ∈ ix w.c r → Rg w K G s → Rg w K G r
theorem Rg.k {w : W} {K G : Int → Prop} {r : Int} (h : Rg w K G r) : K r := by cases h <;> assumption
theorem Rg.mono {w : W} {n : Nat} (hw : Wok w n) {K G K' G' : Int → Prop} (hk : ∀ r : Int, 0 ≤ r → r < n → K r → K' r) (hg : ∀ r : Int, 0 ≤ r → r < n → G r → G' r) {r : Int} (h : Rg w K G r) : 0 ≤ r → r < n → Rg w K' G' r := by
  induction h with
  | here a b => exact fun h0 h1 => .here (hk _ h0 h1 a) (hg _ h0 h1 b)
  | step a b _ ih => exact fun h0 h1 => .step (hk _ h0 h1 a) b (ih (hw.step h0 h1 b).1 (hw.step h0 h1 b).2)
/-- rooms that are fair together -/
def FC (w : W) (n : Nat) (X : Int → Prop) (marks : List Tx) (S : Int → Prop) : Prop :=
  ∀ r : Int, 0 ≤ r → r < n → S r → X r ∧ (∃ s ∈ ix w.c r, S s) ∧ ∀ m ∈ marks, Rg w S (fun r => m ∈ ix w.b r) r
structure Fair (w : W) (n : Nat) (X : Int → Prop) (marks : List Tx) (K : List Int) : Prop where
  rl : RL n K
  fc : FC w n X marks (· ∈ K)
  all : ∀ S : Int → Prop, FC w n X marks S → ∀ r : Int, 0 ≤ r → r < n → S r → r ∈ K
section
variable {w : W} {n : Nat} (h : Wok w n) {K : List Int} (hK : RL n K)
include h
include hK
structure LdI (w : W) (K : List Int) (G : Int → Prop) (s : List Int × Bool) : Prop where
  nd : s.1.Nodup
  sub : ∀ r ∈ s.1, r ∈ K
  rg : ∀ r ∈ s.1, Rg w (· ∈ K) G r
  base : ∀ r ∈ K, G r → r ∈ s.1
  cnt : s.1.length + (K.filter fun r => !decide (r ∈ s.1)).length = K.length
  fin : s.2 = false → ∀ r ∈ K, r ∉ s.1 → ∀ t ∈ ix w.c r, t ∉ s.1
omit hK in
/-- the loop's state -/
structure TkI (w : W) (n : Nat) (rooms : List Int) (marks : List Tx) (s : Bool × List Int × List (T2 (List Int) (Option Tx))) : Prop where
  rl : RL n s.2.1
  sub : ∀ r ∈ s.2.1, r ∈ rooms
  all : ∀ S : Int → Prop, FC w n (· ∈ rooms) marks S → ∀ r : Int, 0 ≤ r → r < n → S r → r ∈ s.2.1
  cnt : s.2.2.length + s.2.1.length ≤ rooms.length
  fin : s.1 = false → FC w n (· ∈ rooms) marks (· ∈ s.2.1)
/-- within the loop over the marks -/
structure TmI (w : W) (n : Nat) (rooms : List Int) (marks : List Tx) (K0 : List Int) (m0 : Bool) (done : List Tx) (s : (List (List Int)) × (List Int) × Bool × (List (T2 (List Int) (Option Tx)))) : Prop where
  rl : RL n s.2.1
  sub : ∀ r ∈ s.2.1, r ∈ K0
  all : ∀ S : Int → Prop, FC w n (· ∈ rooms) marks S → (∀ r : Int, 0 ≤ r → r < n → S r → r ∈ K0) → ∀ r : Int, 0 ≤ r → r < n → S r → r ∈ s.2.1
  cnt : s.2.2.2.length + s.2.1.length ≤ rooms.length
  less : s.2.2.1 = true → m0 = true ∨ s.2.1.length < K0.length
  same : s.2.2.1 = false → m0 = false ∧ s.2.1 = K0 ∧ ∀ m ∈ done, ∀ r ∈ K0, Rg w (· ∈ K0) (fun r => m ∈ ix w.b r) r
end
end Law

/-! Fair rooms told; worlds beside one another; ways. -/
namespace Law
open PySem PySem.Spec PyProof.Rows L2 MP
open MP.Enc (enc)
section
variable {w : W} {n : Nat} (h : Wok w n)
include h
end
/-! ### one world's fair rooms within another -/
section
variable {w w' : W} {n n' : Nat} {e : Int → Int}
end
/-! ### beside -/
section
variable {u v : W} {n m : Nat} (hu : Wok u n) (hv : Wok v m)
include hu hv
end
/-! ### ways -/
theorem cut_to {α : Type} {l : List α} {i : Int} (h0 : 0 ≤ i) (h1 : i ≤ l.length) : cut l none (some i) = l.take i.toNat := by
  unfold cut cutA HT.sIx
  simp only [List.drop_zero, Nat.sub_zero]
  rw [if_neg (by omega), Nat.min_eq_left (by omega)]
theorem cut_from {α : Type} {l : List α} {i : Int} (h0 : 0 ≤ i) (h1 : i ≤ l.length) : cut l (some i) none = l.drop i.toNat := by
  unfold cut cutA HT.sIx
  simp only
  rw [if_neg (by omega), Nat.min_eq_left (by omega), List.take_of_length_le (by rw [List.length_drop]; omega)]
/-- a way of a world -/
structure WayOk (w : W) (n : Nat) (y : T2 (List Int) (List Int)) : Prop where
  ne : y.b ≠ []
  val : ∀ x ∈ y.a ++ y.b, 0 ≤ x ∧ x < (n : Int)
  st : ∀ i : Nat, (hi : i < (y.a ++ y.b).length) → (y.a ++ y.b)[if i + 1 < (y.a ++ y.b).length then i + 1 else y.a.length]?.getD 0 ∈ ix w.c (y.a ++ y.b)[i]
/-- rooms one behind the other -/
structure Path (w : W) (n : Nat) (l : List Int) : Prop where
  ne : l ≠ []
  val : ∀ x ∈ l, 0 ≤ x ∧ x < (n : Int)
  st : ∀ i : Nat, (hi : i + 1 < l.length) → l[i + 1] ∈ ix w.c l[i]
end Law

/-! Plans. -/
namespace Law
open PySem PySem.Spec PyProof.Rows L2 MP
open MP.Enc (enc)
section
variable {w : W} {n : Nat} (h : Wok w n) {p : Int} (hp : Pl p) {P : List (Option Int)}
include h
include hp
/-- plans that the laws draw -/
structure PlanOk (w : W) (n : Nat) (p : Int) (some_ : Bool) (P : List (Option Int)) : Prop where
  len : P.length = n
  no : ∀ r : Int, 0 ≤ r → r < n → ¬ ix w.a r = p → ix P r = none
  st : ∀ r s : Int, 0 ≤ r → r < n → ix P r = some s → ix w.a r = p ∧ s ∈ ix w.c r
  all : some_ = false → ∀ r : Int, 0 ≤ r → r < n → ix w.a r = p → ∃ s, ix P r = some s
end
end Law

/-! Bringing, told by the law's own rounds. -/
namespace Law
open PySem PySem.Spec PyProof.Rows L2 MP
open MP.Enc (enc)
section
variable {w : W} {n : Nat} (h : Wok w n) {p : Int} {X : Int → Prop} {R R' : List (Option Int)}
include h
end
theorem rng2_1 (n : Nat) : rng2 1 ((n : Int) + 1) = (rng (n : Int)).map fun k => k + 1 := by
  unfold rng2 rng rangeI
  rw [List.map_map, show ((n : Int) + 1 - 1).toNat = (n : Int).toNat by omega]
  refine List.map_congr_left fun k _ => ?_
  show (1 : Int) + k = 0 + (k : Int) + 1
  omega
theorem foldS_map {α β σ : Type} {g : β → α} {safe : σ → α → Prop} {f : σ → α → σ} : ∀ {l : List β} {s : σ}, foldS (fun s x => safe s (g x)) (fun s x => f s (g x)) l s → foldS safe f (l.map g) s
  | [], _, _ => trivial
  | _ :: _, _, h => ⟨h.1, foldS_map h.2⟩
section
variable {w : W} {n : Nat} (h : Wok w n) {p : Int} {rooms : List Int}
include h
end
section
variable {w : W} {n : Nat} (h : Wok w n) {p : Int} (hp : Pl p) {rooms : List Int} (hr : RL n rooms) {R P : List (Option Int)}
include h
include hp hr
end
end Law

/-! Judging: until and always. -/
namespace Law
open PySem PySem.Spec PyProof.Rows L2 MP
open MP.Enc (enc)
/-- a least set that is closed -/
def Clo (n : Nat) (F : (Int → Prop) → Int → Prop) (T : Int → Prop) : Prop := ∀ r : Int, 0 ≤ r → r < n → F T r → T r
structure Mu (n : Nat) (F : (Int → Prop) → Int → Prop) (S : Int → Prop) : Prop where
  clo : Clo n F S
  least : ∀ T, Clo n F T → ∀ r : Int, 0 ≤ r → r < n → S r → T r
structure FI (n : Nat) (stay goal : List Int) (cond : List (Option Int) → Int → Bool) (s : Int × List (Option Int) × Bool) : Prop where
  len : s.2.1.length = n
  gl : ∀ r : Int, 0 ≤ r → r < n → r ∈ goal → (ix s.2.1 r).isSome = true
  least : ∀ T : Int → Prop, (∀ r : Int, 0 ≤ r → r < n → r ∈ goal → T r) → (∀ (R : List (Option Int)) (r : Int), R.length = n → (∀ s : Int, 0 ≤ s → s < n → (ix R s).isSome = true → T s) → 0 ≤ r → r < n → r ∈ stay → cond R r = true → T r) → ∀ r : Int, 0 ≤ r → r < n → (ix s.2.1 r).isSome = true → T r
  clos : s.2.2 = false → ∀ r : Int, 0 ≤ r → r < n → ix s.2.1 r = none → r ∈ stay → cond s.2.1 r = false
/-! ### some until, all until -/
section
variable {w : W} {n : Nat} (h : Wok w n) {stay goal : List Int} (hg : RL n goal)
include h hg
end
end Law

/-! Sentences and where they hold. -/
namespace Law
open PySem PySem.Spec PyProof.Rows L2 MP
open MP.Enc (enc)
inductive U1 where
  | not | sn | an | sa | aa
inductive U2 where
  | and | or | su | au
def U1.w : U1 → Tx
  | .not => tx "not"
  | .sn => tx "some next"
  | .an => tx "all next"
  | .sa => tx "some always"
  | .aa => tx "all always"
def U2.w : U2 → Tx
  | .and => tx "and"
  | .or => tx "or"
  | .su => tx "some until"
  | .au => tx "all until"
inductive Fm where
  | yes
  | mark (m : Tx)
  | un (u : U1) (a : Fm)
  | bi (u : U2) (a b : Fm)
def Fm.sn : Fm → Sn
  | .yes => .n [.x (tx "yes")]
  | .mark m => .n [.x (tx "mark"), .x m]
  | .un u a => .n [.x u.w, a.sn]
  | .bi u a b => .n [.x u.w, a.sn, b.sn]
def Fm.dp : Fm → Nat
  | .yes => 1
  | .mark _ => 1
  | .un _ a => a.dp + 1
  | .bi _ a b => max a.dp b.dp + 1
def Fm.wc : Fm → Nat
  | .yes => 1
  | .mark _ => 1
  | .un _ a => a.wc + 1
  | .bi _ a b => a.wc + b.wc + 1
def Fm.good : Fm → Prop
  | .yes => True
  | .mark m => MarkRow [m]
  | .un _ a => a.good
  | .bi _ a b => a.good ∧ b.good
/-- it names such marks alone -/
def Fm.on (P : Tx → Prop) : Fm → Prop
  | .yes => True
  | .mark m => P m
  | .un _ a => a.on P
  | .bi _ a b => a.on P ∧ b.on P
theorem Fm.isN (f : Fm) : f.sn.isN = true := by cases f <;> rfl
theorem u1_look (u : U1) : lookX u.w tab_PARTS = some 1 := by cases u <;> decide +kernel
theorem u2_look (u : U2) : lookX u.w tab_PARTS = some 2 := by cases u <;> decide +kernel
theorem u1_mark (u : U1) : u.w ≠ tx "mark" := by cases u <;> decide +kernel
theorem u2_mark (u : U2) : u.w ≠ tx "mark" := by cases u <;> decide +kernel
theorem u1_yes (u : U1) : u.w ≠ tx "yes" := by cases u <;> decide +kernel
theorem u2_yes (u : U2) : u.w ≠ tx "yes" := by cases u <;> decide +kernel
theorem yes_mark : tx "yes" ≠ tx "mark" := by decide +kernel
theorem ix_c0 {α : Type} [Inhabited α] (a : α) (l : List α) : ix (a :: l) 0 = a := by
  rw [ix_at (by decide) (by simp)]; rfl
theorem ix_c1 {α : Type} [Inhabited α] (a b : α) (l : List α) : ix (a :: b :: l) 1 = b := by
  rw [ix_at (by decide) (by simp; omega)]; rfl
theorem in0 {α : Type} (a : α) (l : List α) : InR (a :: l).length 0 := inR (by decide) (by simp)
theorem in1 {α : Type} (a b : α) (l : List α) : InR (a :: b :: l).length 1 := inR (by decide) (by simp; omega)
/-- a word with parts -/
theorem wm_word {wd : Tx} {ps : List Sn} {fuel : Nat} (hl : lookX wd tab_PARTS = some (ps.length : Int)) (hm : wd ≠ tx "mark") (hz : ps.length ≤ 1000) (hp : ∀ p ∈ ps, p.isN = true ∧ s_well_made fuel p ∧ m_well_made fuel p = true) :
    s_well_made (fuel + 1) (.n (.x wd :: ps)) ∧ m_well_made (fuel + 1) (.n (.x wd :: ps)) = true := by
  have e0 : Sn.its (.n (.x wd :: ps)) = .x wd :: ps := rfl
  have e1 : Sn.tx (ix (.x wd :: ps : List Sn) 0) = wd := by rw [ix_c0]; rfl
  have e2 : Sn.isX (ix (.x wd :: ps : List Sn) 0) = true := by rw [ix_c0]; rfl
  have e3 : Sn.its (Sn.n (List.drop 1 (.x wd :: ps))) = ps := rfl
  have el : MP.len (.x wd :: ps : List Sn) = (ps.length : Int) + 1 := by show (((.x wd :: ps : List Sn).length : Nat) : Int) = _; simp
  constructor
  · simp only [s_well_made, e0, e1, e2, e3]
    refine ⟨rfl, fun _ => rfl, fun _ => in0 _ _, fun _ => ⟨rfl, in0 _ _, trivial, fun z => absurd (of_decide_eq_true z) hm, fun _ => ⟨rfl, in0 _ _, trivial, fun _ => rfl, fun _ => rfl, fun _ => in0 _ _, fun _ => trivial, fun _ => by rw [hl]; rfl, fun _ => ⟨rfl, by simp, rfl, sz_le (by omega), fun p hpm _ => (hp p hpm).2.1, trivial⟩⟩⟩⟩
  · simp only [m_well_made, e0, e1, e2, e3]
    rw [if_neg (by rw [el]; simp; omega), if_neg (by simpa using hm), if_neg (by rw [hl, el]; simp [uw]), List.all_eq_true]
    intro p hpm
    rw [(hp p hpm).1, (hp p hpm).2.2]; rfl
theorem wm_mark {m : Tx} {fuel : Nat} (h : MarkRow [m]) : s_well_made (fuel + 1) (.n [.x (tx "mark"), .x m]) ∧ m_well_made (fuel + 1) (.n [.x (tx "mark"), .x m]) = true := by
  have e0 : Sn.its (.n [.x (tx "mark"), .x m]) = [.x (tx "mark"), .x m] := rfl
  have e1 : Sn.tx (ix ([.x (tx "mark"), .x m] : List Sn) 0) = tx "mark" := by rw [ix_c0]; rfl
  have e2 : Sn.isX (ix ([.x (tx "mark"), .x m] : List Sn) 0) = true := by rw [ix_c0]; rfl
  have e3 : Sn.tx (ix ([.x (tx "mark"), .x m] : List Sn) 1) = m := by rw [ix_c1]; rfl
  have e4 : Sn.isX (ix ([.x (tx "mark"), .x m] : List Sn) 1) = true := by rw [ix_c1]; rfl
  constructor
  · simp only [s_well_made, e0, e1, e2, e3, e4]
    refine ⟨rfl, fun _ => rfl, fun _ => in0 _ _, fun _ => ⟨rfl, in0 _ _, trivial, fun _ => ⟨rfl, fun _ => rfl, fun _ => in1 _ _ _, fun _ _ => rfl, fun _ _ => in1 _ _ _, fun _ _ => trivial, fun _ _ => s_are_marks_ok h.2.1 h.2.2, trivial⟩, fun z => by simp at z⟩⟩
  · simp only [m_well_made, e0, e1, e2, e3, e4]
    rw [if_neg (by simp [MP.len]), if_pos (by simp), h.1]
    rfl
theorem well_made_ok : ∀ (f : Fm) (fuel : Nat), f.good → f.dp ≤ fuel → s_well_made fuel f.sn ∧ m_well_made fuel f.sn = true := by
  intro f
  induction f with
  | yes =>
    intro fuel _ hd
    obtain ⟨k, rfl⟩ : ∃ k, fuel = k + 1 := ⟨fuel - 1, by unfold Fm.dp at hd; omega⟩
    exact wm_word (ps := []) (by decide +kernel) yes_mark (by simp) (fun p hp => by cases hp)
  | mark m =>
    intro fuel hg hd
    obtain ⟨k, rfl⟩ : ∃ k, fuel = k + 1 := ⟨fuel - 1, by unfold Fm.dp at hd; omega⟩
    exact wm_mark hg
  | un u a ih =>
    intro fuel hg hd
    unfold Fm.dp at hd
    obtain ⟨k, rfl⟩ : ∃ k, fuel = k + 1 := ⟨fuel - 1, by omega⟩
    refine wm_word (ps := [a.sn]) (u1_look u) (u1_mark u) (by simp) fun p hp => ?_
    rw [List.mem_singleton] at hp
    subst hp
    exact ⟨a.isN, ih k hg (by omega)⟩
  | bi u a b iha ihb =>
    intro fuel hg hd
    unfold Fm.dp at hd
    obtain ⟨k, rfl⟩ : ∃ k, fuel = k + 1 := ⟨fuel - 1, by omega⟩
    refine wm_word (ps := [a.sn, b.sn]) (u2_look u) (u2_mark u) (by simp) fun p hp => ?_
    rcases List.mem_cons.mp hp with rfl | hp
    · exact ⟨a.isN, iha k hg.1 (by omega)⟩
    · rw [List.mem_singleton] at hp
      subst hp
      exact ⟨b.isN, ihb k hg.2 (by omega)⟩
theorem parts_word {wd : Tx} {ps : List Sn} (hm : wd ≠ tx "mark") : s_parts_of (.n (.x wd :: ps)) ∧ m_parts_of (.n (.x wd :: ps)) = ps := by
  have e0 : Sn.its (.n (.x wd :: ps)) = .x wd :: ps := rfl
  have e1 : Sn.tx (ix (.x wd :: ps : List Sn) 0) = wd := by rw [ix_c0]; rfl
  have e2 : Sn.isX (ix (.x wd :: ps : List Sn) 0) = true := by rw [ix_c0]; rfl
  constructor
  · unfold s_parts_of
    rw [e0, e1, e2]
    exact ⟨rfl, in0 _ _, rfl, fun _ => ⟨rfl, by simp, rfl, trivial⟩⟩
  · unfold m_parts_of
    rw [e0, e1, if_neg (by simpa using hm)]
    rfl
theorem parts_mark {ps : List Sn} : s_parts_of (.n (.x (tx "mark") :: ps)) ∧ m_parts_of (.n (.x (tx "mark") :: ps)) = [] := by
  have e0 : Sn.its (.n (.x (tx "mark") :: ps)) = .x (tx "mark") :: ps := rfl
  have e1 : Sn.tx (ix (.x (tx "mark") :: ps : List Sn) 0) = tx "mark" := by rw [ix_c0]; rfl
  have e2 : Sn.isX (ix (.x (tx "mark") :: ps : List Sn) 0) = true := by rw [ix_c0]; rfl
  constructor
  · unfold s_parts_of
    rw [e0, e1, e2]
    exact ⟨rfl, in0 _ _, rfl, fun _ => ⟨rfl, by simp, rfl, trivial⟩⟩
  · unfold m_parts_of
    rw [e0, e1, if_pos (by simp)]
theorem count_deep_ok : ∀ (f : Fm) (fuel : Nat), f.dp ≤ fuel → (s_count fuel f.sn ∧ m_count fuel f.sn = f.wc) ∧ s_deep fuel f.sn ∧ m_deep fuel f.sn = f.dp := by
  intro f
  have step : ∀ (s : Sn) (ps : List Sn) (k : Nat) (cs ds : List Int), s_parts_of s → m_parts_of s = ps → ps.length ≤ 1000 → (∀ p ∈ ps, s_count k p ∧ s_deep k p) → ps.map (m_count k) = cs → ps.map (m_deep k) = ds →
      (s_count (k + 1) s ∧ m_count (k + 1) s = 1 + cs.sum) ∧ s_deep (k + 1) s ∧ m_deep (k + 1) s = 1 + maxI ds := fun s ps k cs ds h1 h2 hz h3 h4 h5 => by
    subst h4 h5 h2
    exact ⟨⟨⟨h1, sz_le (by omega), fun p hp => (h3 p hp).1, trivial⟩, rfl⟩, ⟨h1, sz_le (by omega), fun p hp => (h3 p hp).2, trivial⟩, rfl⟩
  induction f with
  | yes =>
    intro fuel hd
    obtain ⟨k, rfl⟩ : ∃ k, fuel = k + 1 := ⟨fuel - 1, by unfold Fm.dp at hd; omega⟩
    exact step _ [] k [] [] (parts_word yes_mark).1 (parts_word yes_mark).2 (by simp) (fun p hp => by cases hp) rfl rfl
  | mark m =>
    intro fuel hd
    obtain ⟨k, rfl⟩ : ∃ k, fuel = k + 1 := ⟨fuel - 1, by unfold Fm.dp at hd; omega⟩
    exact step _ [] k [] [] parts_mark.1 parts_mark.2 (by simp) (fun p hp => by cases hp) rfl rfl
  | un u a ih =>
    intro fuel hd
    unfold Fm.dp at hd
    obtain ⟨k, rfl⟩ : ∃ k, fuel = k + 1 := ⟨fuel - 1, by omega⟩
    obtain ⟨⟨a1, a2⟩, a3, a4⟩ := ih k (by omega)
    obtain ⟨⟨x1, x2⟩, x3, x4⟩ := step (.n [.x u.w, a.sn]) [a.sn] k [(a.wc : Int)] [(a.dp : Int)] (parts_word (u1_mark u)).1 (parts_word (u1_mark u)).2 (by simp) (fun p hp => by rw [List.mem_singleton] at hp; subst hp; exact ⟨a1, a3⟩) (by rw [List.map_cons, a2]; rfl) (by rw [List.map_cons, a4]; rfl)
    refine ⟨⟨x1, x2.trans ?_⟩, x3, x4.trans ?_⟩
    · show 1 + ([(a.wc : Int)]).sum = ((a.wc + 1 : Nat) : Int)
      simp; omega
    · show 1 + maxI [(a.dp : Int)] = ((a.dp + 1 : Nat) : Int)
      unfold maxI; simp; omega
  | bi u a b iha ihb =>
    intro fuel hd
    unfold Fm.dp at hd
    obtain ⟨k, rfl⟩ : ∃ k, fuel = k + 1 := ⟨fuel - 1, by omega⟩
    obtain ⟨⟨a1, a2⟩, a3, a4⟩ := iha k (by omega)
    obtain ⟨⟨b1, b2⟩, b3, b4⟩ := ihb k (by omega)
    obtain ⟨⟨x1, x2⟩, x3, x4⟩ := step (.n [.x u.w, a.sn, b.sn]) [a.sn, b.sn] k [(a.wc : Int), (b.wc : Int)] [(a.dp : Int), (b.dp : Int)] (parts_word (u2_mark u)).1 (parts_word (u2_mark u)).2 (by simp) (fun p hp => by
      rcases List.mem_cons.mp hp with rfl | hp
      · exact ⟨a1, a3⟩
      · rw [List.mem_singleton] at hp; subst hp; exact ⟨b1, b3⟩) (by rw [List.map_cons, a2, List.map_cons, b2]; rfl) (by rw [List.map_cons, a4, List.map_cons, b4]; rfl)
    refine ⟨⟨x1, x2.trans ?_⟩, x3, x4.trans ?_⟩
    · show 1 + ([(a.wc : Int), (b.wc : Int)]).sum = ((a.wc + b.wc + 1 : Nat) : Int)
      simp; omega
    · show 1 + maxI [(a.dp : Int), (b.dp : Int)] = ((max a.dp b.dp + 1 : Nat) : Int)
      unfold maxI
      simp only [List.foldl_cons, List.foldl_nil]
      split <;> omega
theorem is_sentence_ok {f : Fm} (hg : f.good) (hd : f.dp ≤ 24) (hw : f.wc ≤ 200) : s_is_sentence f.sn ∧ m_is_sentence f.sn = true := by
  obtain ⟨a, b⟩ := well_made_ok f 30 hg (by omega)
  obtain ⟨⟨c, d⟩, e, g⟩ := count_deep_ok f 30 (by omega)
  constructor
  · exact ⟨a, fun _ => c, fun _ _ => e, trivial⟩
  · unfold m_is_sentence
    rw [b, d, g, decide_eq_true (by omega), decide_eq_true (by omega)]
    rfl
theorem ask_sentence_ok {f : Fm} (hg : f.good) (hd : f.dp ≤ 24) (hw : f.wc ≤ 200) : s_ask_sentence f.sn ∧ m_ask_sentence f.sn = .ok () := by
  obtain ⟨a, b⟩ := is_sentence_ok hg hd hw
  refine ⟨⟨a, trivial⟩, ?_⟩
  unfold m_ask_sentence
  rw [b]; rfl
end Law

/-! Where sentences hold. -/
namespace Law
open PySem PySem.Spec PyProof.Rows L2 MP
open MP.Enc (enc)
section
variable {w : W} {n : Nat} (h : Wok w n)
include h
end
end Law

/-! Worlds of plans; rooms with a mark. -/
namespace Law
open PySem PySem.Spec PyProof.Rows L2 MP
open MP.Enc (enc)
theorem abc_mark {i : Int} (h0 : 0 ≤ i) (h1 : i < 3) : InR (List.length (tx "abc").cs) i ∧ Sz (tx "abc").cs ∧ MarkRow [Tx.ix (tx "abc") i] := by
  have hl : (tx "abc").cs.length = 3 := by decide
  refine ⟨inR h0 (by rw [hl]; exact h1), sz_le (by rw [hl]; decide), ?_⟩
  have : i = 0 ∨ i = 1 ∨ i = 2 := by omega
  have key : ∀ l : List Tx, (decide (m_are_marks l = true) && (decide (l.length ≤ 10000) && l.all fun x => decide (x.cs.length ≤ 10000))) = true → MarkRow l := fun l h => by
    simp only [Bool.and_eq_true, decide_eq_true_eq, List.all_eq_true] at h
    exact h
  rcases this with rfl | rfl | rfl <;> exact key _ (by decide +kernel)
section
variable {w : W} {n : Nat} (h : Wok w n)
include h
/-- the world of a plan -/
structure Fol (w w' : W) (n : Nat) (P : List (Option Int)) : Prop where
  wok : Wok w' n
  own : w'.a = w.a
  mks : w'.b = w.b
  no : ∀ r : Int, 0 ≤ r → r < n → ix P r = none → ix w'.c r = ix w.c r
  go : ∀ r s : Int, 0 ≤ r → r < n → ix P r = some s → ix w'.c r = [s] ∧ s ∈ ix w.c r
end
end Law

/-! Worlds of the told plans, judged. -/
namespace Law
open PySem PySem.Spec PyProof.Rows L2 MP
open MP.Enc (enc)
section
variable {w w' : W} {n : Nat} (h : Wok w n) {p : Int} (hp : Pl p) {P : List (Option Int)} (F : Fol w w' n P)
include h hp F
end
end Law

/-! One player alone; again and again, judged. -/
namespace Law
open PySem PySem.Spec PyProof.Rows L2 MP
open MP.Enc (enc)
section
variable {w : W} {n : Nat} (h : Wok w n) {M : Int → Prop}
include h
end
section
variable {w : W} {n : Nat} (h : Wok w n) {p : Int} (hp : Pl p) (ow : ∀ r : Int, 0 ≤ r → r < n → ix w.a r = p)
include h hp ow
end
end Law

/-! Again and again in the worlds of the told plans. -/
namespace Law
open PySem PySem.Spec PyProof.Rows L2 MP
open MP.Enc (enc)
section
variable {w w' : W} {n : Nat} (h : Wok w n) {p : Int} (hp : Pl p) {X : Int → Prop} {R P : List (Option Int)} {T : Tu} {C : List (Option Int)} (A : Agn w n p X R T)
include h hp A
end
end Law

/-! Drawn sentences; worlds drawn by other words. -/
namespace Law
open PySem PySem.Spec PyProof.Rows L2 MP
open MP.Enc (enc)
/-! ### drawn sentences -/
def kindsL : List Tx := [tx "mark", tx "mark", tx "not", tx "and", tx "some until", tx "all until", tx "some next", tx "all next", tx "some always", tx "all always", tx "or", tx "yes"]
theorem kinds_of : ∀ k ∈ kindsL, k = tx "yes" ∨ k = tx "mark" ∨ (∃ u : U2, k = u.w) ∨ ∃ u : U1, k = u.w := by
  intro k hk
  simp only [kindsL, List.mem_cons, List.not_mem_nil, or_false] at hk
  rcases hk with rfl | rfl | rfl | rfl | rfl | rfl | rfl | rfl | rfl | rfl | rfl | rfl
  · exact .inr (.inl rfl)
  · exact .inr (.inl rfl)
  · exact .inr (.inr (.inr ⟨.not, rfl⟩))
  · exact .inr (.inr (.inl ⟨.and, rfl⟩))
  · exact .inr (.inr (.inl ⟨.su, rfl⟩))
  · exact .inr (.inr (.inl ⟨.au, rfl⟩))
  · exact .inr (.inr (.inr ⟨.sn, rfl⟩))
  · exact .inr (.inr (.inr ⟨.an, rfl⟩))
  · exact .inr (.inr (.inr ⟨.sa, rfl⟩))
  · exact .inr (.inr (.inr ⟨.aa, rfl⟩))
  · exact .inr (.inr (.inl ⟨.or, rfl⟩))
  · exact .inl rfl
structure SI (i : Nat) (made : List Sn) : Prop where
  len : made.length = i + 1
  fm : ∀ x ∈ made, ∃ f : Fm, x = f.sn ∧ f.good ∧ f.dp ≤ i + 1 ∧ f.on (· ∈ chars (tx "abc"))
theorem abc_in {i : Int} (h0 : 0 ≤ i) (h1 : i < 3) : Tx.ix (tx "abc") i ∈ chars (tx "abc") := by
  have : i = 0 ∨ i = 1 ∨ i = 2 := by omega
  rcases this with rfl | rfl | rfl <;> decide +kernel
theorem law_sentence_on (sc : Sc) {at_ : Int} (ha : 0 ≤ at_ ∧ at_ ≤ 1000) {m : Nat} (hm : m < 30) : s_law_sentence sc at_ (1 + (m : Int)) ∧ ∃ f : Fm, m_law_sentence sc at_ (1 + (m : Int)) = f.sn ∧ f.good ∧ f.dp ≤ m + 1 ∧ f.on (· ∈ chars (tx "abc")) := by
  have eK : ([tx "mark", tx "mark", tx "not", tx "and", tx "some until", tx "all until", tx "some next", tx "all next", tx "some always"] ++ [tx "all always", tx "or", tx "yes"] : List Tx) = kindsL := rfl
  have er : rng2 1 (1 + (m : Int)) = (rng (m : Int)).map fun k => k + 1 := by rw [Int.add_comm]; exact rng2_1 m
  have dr := draw_rng (m_law_cell_at sc at_) 3 (b := 3) (by decide)
  obtain ⟨am1, am2, am3⟩ := abc_mark dr.1 dr.2
  have i0 : SI 0 [Sn.n [Sn.x (tx "mark"), Sn.x (Tx.ix (tx "abc") (m_law_draw (m_law_cell_at sc at_) 3 3))]] := ⟨rfl, fun x hx => by
    rw [List.mem_singleton] at hx
    exact ⟨.mark _, hx, am3, Nat.le_refl 1, abc_in dr.1 dr.2⟩⟩
  have turn : ∀ i : Nat, i < m → ∀ made, SI i made → u_law_sentence_1 sc at_ kindsL made ((i : Int) + 1) ∧ SI (i + 1) (t_law_sentence_1 sc at_ kindsL made ((i : Int) + 1)) := fun i hi made hs => by
    obtain ⟨c, hc⟩ : ∃ c, c = m_law_cell_at sc (at_ + ((i : Int) + 1)) := ⟨_, rfl⟩
    have d0 := draw_rng c 0 (b := 12) (by decide)
    have d1 := draw_rng c 1 (b := 2) (by decide)
    have d2 := draw_rng c 2 (b := 60) (by decide)
    have d3 := draw_rng c 3 (b := 3) (by decide)
    obtain ⟨bm1, bm2, bm3⟩ := abc_mark d3.1 d3.2
    have el : MP.len made = (i : Int) + 1 := by show ((made.length : Nat) : Int) = _; rw [hs.len]; omega
    have f1 := Int.fmod_nonneg_of_pos (m_law_draw c 1 2) (show (0 : Int) < MP.len made by omega)
    have f2 := Int.fmod_lt_of_pos (m_law_draw c 1 2) (show (0 : Int) < MP.len made by omega)
    have g1 := Int.fmod_nonneg_of_pos (m_law_draw c 2 60) (show (0 : Int) < MP.len made by omega)
    have g2 := Int.fmod_lt_of_pos (m_law_draw c 2 60) (show (0 : Int) < MP.len made by omega)
    have I0 : InR (List.length kindsL) (m_law_draw c 0 12) := inR d0.1 d0.2
    have I1 : InR made.length (-1 - (m_law_draw c 1 2).fmod (MP.len made)) := by unfold InR; rw [hs.len]; constructor <;> omega
    have I2 : InR made.length ((m_law_draw c 2 60).fmod (MP.len made)) := inR g1 (by rw [hs.len]; omega)
    have hk := kinds_of _ (ix_mem I0)
    obtain ⟨a, ea, ga, da, na⟩ := hs.fm _ (ix_mem I1)
    obtain ⟨b, eb, gb, db, nb⟩ := hs.fm _ (ix_mem I2)
    have sz1 : Sz1 made := sz1_le (by rw [hs.len]; omega)
    have app : ∀ f : Fm, f.good → f.dp ≤ i + 1 + 1 → f.on (· ∈ chars (tx "abc")) → SI (i + 1) (made ++ [f.sn]) := fun f gf df nf => ⟨by simp [hs.len], fun x hx => by
      rcases List.mem_append.mp hx with z | z
      · obtain ⟨g, e, gg, dg, ng⟩ := hs.fm x z
        exact ⟨g, e, gg, by omega, ng⟩
      · rw [List.mem_singleton] at z
        exact ⟨f, z, gf, df, nf⟩⟩
    constructor
    · unfold u_law_sentence_1
      simp only [lt_eq, ← hc]
      exact ⟨s_cell (by omega), s_draw (by decide) (by decide), I0, s_draw2 (by decide), by omega, I1, s_draw (by decide) (by decide), by omega, I2, fun _ => ⟨sz1, trivial⟩, fun _ => ⟨fun _ => ⟨s_draw (by decide) (by decide), bm1, bm2, sz1, trivial⟩, fun _ => ⟨fun _ => ⟨sz1, trivial⟩, fun _ => ⟨sz1, trivial⟩⟩⟩⟩
    · unfold t_law_sentence_1
      simp only [lt_eq, ← hc]
      generalize hkk : ix kindsL (m_law_draw c 0 12) = k at hk ⊢
      rw [ea, eb]
      rcases hk with rfl | rfl | ⟨u, rfl⟩ | ⟨u, rfl⟩
      · rw [if_pos (by simp)]
        exact app .yes trivial (by show 1 ≤ _; omega) trivial
      · rw [if_neg (by simpa using fun z => yes_mark z.symm), if_pos (by simp)]
        exact app (.mark _) bm3 (by show 1 ≤ _; omega) (abc_in d3.1 d3.2)
      · rw [if_neg (by simpa using u2_yes u), if_neg (by simpa using u2_mark u), if_pos (by cases u <;> decide +kernel)]
        exact app (.bi u b a) ⟨gb, ga⟩ (by show max b.dp a.dp + 1 ≤ _; omega) ⟨nb, na⟩
      · rw [if_neg (by simpa using u1_yes u), if_neg (by simpa using u1_mark u), if_neg (by cases u <;> decide +kernel)]
        exact app (.un u a) ga (by show a.dp + 1 ≤ _; omega) na
  have fin := foldl_rng SI (n := m) (f := fun s i => t_law_sentence_1 sc at_ kindsL s (i + 1)) i0 fun i hi s hs => (turn i hi s hs).2
  have Il : InR ((rng (m : Int)).foldl (fun s i => t_law_sentence_1 sc at_ kindsL s (i + 1)) [Sn.n [Sn.x (tx "mark"), Sn.x (Tx.ix (tx "abc") (m_law_draw (m_law_cell_at sc at_) 3 3))]]).length (-1) := by
    unfold InR; rw [fin.len]; constructor <;> omega
  constructor
  · unfold s_law_sentence
    simp only [lt_eq, eK, er, List.foldl_map]
    exact ⟨sz_le (by decide), s_cell (by omega), s_draw (by decide) (by decide), am1, am2, rg2Ok (by omega) (by omega) (by omega) (by omega), foldS_map (foldS_rng SI i0 turn), Il, trivial⟩
  · unfold m_law_sentence
    simp only [lt_eq, eK, er, List.foldl_map]
    exact fin.fm _ (ix_mem Il)
theorem law_sentence_ok (sc : Sc) {at_ : Int} (ha : 0 ≤ at_ ∧ at_ ≤ 1000) {m : Nat} (hm : m < 30) : s_law_sentence sc at_ (1 + (m : Int)) ∧ ∃ f : Fm, m_law_sentence sc at_ (1 + (m : Int)) = f.sn ∧ f.good ∧ f.dp ≤ m + 1 := by
  obtain ⟨a, f, b, c, d, _⟩ := law_sentence_on sc ha hm
  exact ⟨a, f, b, c, d⟩
theorem law_count_ok : ∀ (f : Fm) (fuel : Nat), f.dp ≤ fuel → s_law_count fuel f.sn ∧ m_law_count fuel f.sn = f.wc := by
  intro f
  have step : ∀ (wd : Tx) (ps : List Sn) (k : Nat) (cs : List Int), (ps.filter fun p => p.isN).map (m_law_count k) = cs → ps.length ≤ 1000 → (∀ p ∈ ps, p.isN = true → s_law_count k p) → s_law_count (k + 1) (.n (.x wd :: ps)) ∧ m_law_count (k + 1) (.n (.x wd :: ps)) = 1 + cs.sum := fun wd ps k cs h1 hz h2 => by
    have e0 : Sn.its (.n (.x wd :: ps)) = .x wd :: ps := rfl
    have e3 : Sn.its (Sn.n (List.drop 1 (.x wd :: ps))) = ps := rfl
    subst h1
    constructor
    · simp only [s_law_count, e0, e3]
      exact ⟨rfl, by simp, rfl, sz_le (by omega), h2, trivial⟩
    · simp only [m_law_count, e0, e3]
  induction f with
  | yes =>
    intro fuel hd
    obtain ⟨k, rfl⟩ : ∃ k, fuel = k + 1 := ⟨fuel - 1, by unfold Fm.dp at hd; omega⟩
    exact step (tx "yes") [] k [] rfl (by simp) (fun p hp => by cases hp)
  | mark m =>
    intro fuel hd
    obtain ⟨k, rfl⟩ : ∃ k, fuel = k + 1 := ⟨fuel - 1, by unfold Fm.dp at hd; omega⟩
    refine step (tx "mark") [.x m] k [] rfl (by simp) (fun p hp hn => ?_)
    rw [List.mem_singleton] at hp
    subst hp; cases hn
  | un u a ih =>
    intro fuel hd
    have hd : a.dp + 1 ≤ fuel := hd
    obtain ⟨k, rfl⟩ : ∃ k, fuel = k + 1 := ⟨fuel - 1, by omega⟩
    obtain ⟨i1, i2⟩ := ih k (by omega)
    obtain ⟨x1, x2⟩ := step u.w [a.sn] k [(a.wc : Int)] (by rw [List.filter_cons, if_pos a.isN, List.filter_nil, List.map_cons, i2]; rfl) (by simp) (fun p hp _ => by rw [List.mem_singleton] at hp; subst hp; exact i1)
    refine ⟨x1, x2.trans ?_⟩
    show 1 + ([(a.wc : Int)]).sum = ((a.wc + 1 : Nat) : Int)
    simp; omega
  | bi u a b iha ihb =>
    intro fuel hd
    have hd : max a.dp b.dp + 1 ≤ fuel := hd
    obtain ⟨k, rfl⟩ : ∃ k, fuel = k + 1 := ⟨fuel - 1, by omega⟩
    obtain ⟨a1, a2⟩ := iha k (by omega)
    obtain ⟨b1, b2⟩ := ihb k (by omega)
    obtain ⟨x1, x2⟩ := step u.w [a.sn, b.sn] k [(a.wc : Int), (b.wc : Int)] (by rw [List.filter_cons, if_pos a.isN, List.filter_cons, if_pos b.isN, List.filter_nil, List.map_cons, a2, List.map_cons, b2]; rfl) (by simp) (fun p hp _ => by
      rcases List.mem_cons.mp hp with rfl | hp
      · exact a1
      · rw [List.mem_singleton] at hp; subst hp; exact b1)
    refine ⟨x1, x2.trans ?_⟩
    show 1 + ([(a.wc : Int), (b.wc : Int)]).sum = ((a.wc + b.wc + 1 : Nat) : Int)
    simp; omega
/-! ### likenesses of time -/
section
variable {w : W} {n : Nat} (h : Wok w n) {A B : Int → Prop} {r : Int}
include h
end
end Law

/-! Worlds made of worlds, judged. -/
namespace Law
open PySem PySem.Spec PyProof.Rows L2 MP
open MP.Enc (enc)
section
variable {w w' : W} {n n' : Nat} {e : Int → Int} (h : Wok w n) (h' : Wok w' n') (val : ∀ r : Int, 0 ≤ r → r < n → 0 ≤ e r ∧ e r < n') (st : ∀ r t : Int, 0 ≤ r → r < n → (t ∈ ix w'.c (e r) ↔ ∃ s ∈ ix w.c r, t = e s))
include h h' val st
end
section
variable {w : W} {n : Nat} (h : Wok w n)
include h
/-! ### rooms that are reached -/
structure RS (w : W) (n : Nat) (room : Int) (s : List Int × Int) : Prop where
  rm : ∀ x ∈ s.1, 0 ≤ x ∧ x < (n : Int)
  nd : s.1.Nodup
  inn : room ∈ s.1
  a0 : 0 ≤ s.2
  al : s.2 ≤ s.1.length
  done : ∀ i : Int, 0 ≤ i → i < s.2 → ∀ t ∈ ix w.c (ix s.1 i), t ∈ s.1
/-! ### a part that no step leaves -/
end
end Law

/-! The law's own judging. -/
namespace Law
open PySem PySem.Spec PyProof.Rows L2 MP
open MP.Enc (enc)
section
variable {w : W} {n : Nat} (h : Wok w n)
include h
end
end Law

/-! Papers of judged sentences: what is looked at. -/
namespace Law
open PySem PySem.Spec PyProof.Rows L2 MP
open MP.Enc (enc)
def Pp.rm (p : Pp) : List Int := (Pp.t3 p).a
def Pp.rk (p : Pp) : Option (List (Option Int)) := (Pp.t3 p).b
def Pp.ps (p : Pp) : List Pp := (Pp.t3 p).c
section
variable {w : W} {n : Nat} (h : Wok w n)
include h
end
/-! ### any paper that is not too great -/
mutual
def Pp.sm : Pp → Prop
  | .mk a _ c => a.length ≤ 1000 ∧ Pp.sms c
def Pp.sms : List Pp → Prop
  | [] => True
  | p :: r => Pp.sm p ∧ Pp.sms r
end
def Fm.hd (f : Fm) : Tx := Sn.tx (ix (Sn.its f.sn) 0)
def Fm.subs : Fm → List Fm
  | .yes => []
  | .mark _ => []
  | .un _ x => [x]
  | .bi _ x y => [x, y]
theorem parts_fm (f : Fm) : s_parts_of f.sn ∧ m_parts_of f.sn = f.subs.map Fm.sn := by
  cases f with
  | yes => exact parts_word (ps := []) yes_mark
  | mark m => exact parts_mark
  | un u a => exact parts_word (ps := [a.sn]) (u1_mark u)
  | bi u a b => exact parts_word (ps := [a.sn, b.sn]) (u2_mark u)
def Fm.wd : Fm → Tx
  | .yes => tx "yes"
  | .mark _ => tx "mark"
  | .un u _ => u.w
  | .bi u _ _ => u.w
theorem two_of {α : Type} {l : List α} (h : l.length = 2) : ∃ a b, l = [a, b] := by
  match l, h with
  | [a, b], _ => exact ⟨a, b, rfl⟩
section
variable {w : W} {n : Nat} (h : Wok w n)
include h
end
end Law

/-! Papers of judged sentences: told ones, and that those that hold are sound. -/
namespace Law
open PySem PySem.Spec PyProof.Rows L2 MP
open MP.Enc (enc)
section
variable {w : W} {n : Nat} (h : Wok w n)
include h
end
end Law

/-! Papers of judged sentences: told ones hold. -/
namespace Law
open PySem PySem.Spec PyProof.Rows L2 MP
open MP.Enc (enc)
/-- each rank is right by its steps -/
structure FR (w : W) (n : Nat) (stay goal : List Int) (each : Bool) (s : Int × List (Option Int) × Bool) : Prop where
  nn : 0 ≤ s.1
  rk : ∀ r k : Int, 0 ≤ r → r < n → ix s.2.1 r = some k → (0 ≤ k ∧ k ≤ s.1) ∧ (k = 0 ↔ r ∈ goal) ∧ (0 < k → r ∈ stay ∧ if each = true then ∀ t ∈ ix w.c r, ∃ j, ix s.2.1 t = some j ∧ j < k else ∃ t ∈ ix w.c r, ∃ j, ix s.2.1 t = some j ∧ j < k)
section
variable {w : W} {n : Nat} (h : Wok w n)
include h
end
end Law

/-! Ways that are fair. -/
namespace Law
open PySem PySem.Spec PyProof.Rows L2 MP
open MP.Enc (enc)
section
variable {w : W} {n : Nat} (h : Wok w n) {y : T2 (List Int) (List Int)} (hy : WayOk w n y) (hl : (y.a ++ y.b).length ≤ 1000)
include h hy hl
omit hl in
end
end Law

/-! The great world of k20, k41. -/
namespace Law
open PySem PySem.Spec PyProof.Rows L2 MP
open MP.Enc (enc)
end Law

/-! k21: the law's look at told papers. -/
namespace Law
open PySem PySem.Spec PyProof.Rows L2 MP
open MP.Enc (enc)
section
variable {w : W} {n : Nat} (h : Wok w n)
include h
end
end Law

/-! Shorter sentences. -/
namespace Law
open PySem PySem.Spec PyProof.Rows L2 MP
open MP.Enc (enc)
noncomputable instance : DecidableEq Fm := fun a b => Classical.propDecidable (a = b)
structure Less (f g : Fm) : Prop where
  wc : f.wc ≤ g.wc
  dp : f.dp ≤ g.dp
/-! ### it holds at the same rooms -/
section
variable {w : W} {n : Nat} (h : Wok w n)
include h
end
end Law

/-! Shorter forms: the program's and the law's own look. -/
namespace Law
open PySem PySem.Spec PyProof.Rows L2 MP
open MP.Enc (enc)
end Law

/-! Base forms. -/
namespace Law
open PySem PySem.Spec PyProof.Rows L2 MP
open MP.Enc (enc)
/-! ### how great it is -/
/-! ### its words -/
noncomputable def Fm.ws : Fm → List Tx
  | .yes => [tx "yes"]
  | .mark _ => [tx "mark"]
  | .un u a => u.w :: a.ws
  | .bi u a b => u.w :: (a.ws ++ b.ws)
/-! ### it holds at the same rooms -/
section
variable {w : W} {n : Nat} (h : Wok w n)
include h
end
end Law

/-! Sentences as texts: a sentence's text is read to the sentence. -/
namespace Law
open PySem PySem.Spec PyProof.Rows L2 MP
open MP.Enc (enc)
/-! ### texts, sign by sign -/
/-! ### the text of a sentence -/
end Law

namespace Law
open PySem PySem.Spec PyProof.Rows L2 MP
open MP.Enc (enc)
end Law

/-! Two worlds together. -/
namespace Law
open PySem PySem.Spec PyProof.Rows L2 MP
open MP.Enc (enc)
def sixL : List Tx := [tx "a", tx "b", tx "c", tx "d", tx "e", tx "f"]
theorem six_key : ∀ a b c d e f : Bool, MarkRow (((sixL.zip [a, b, c, d, e, f]).filter (·.2)).map (·.1)) := by
  have key : ∀ a b c d e f : Bool, (fun l : List Tx => (decide (m_are_marks l = true) && (decide (l.length ≤ 10000) && l.all fun x => decide (x.cs.length ≤ 10000)))) (((sixL.zip [a, b, c, d, e, f]).filter (·.2)).map (·.1)) = true := by decide +kernel
  intro a b c d e f
  have h := key a b c d e f
  simp only [Bool.and_eq_true, decide_eq_true_eq, List.all_eq_true] at h
  exact ⟨h.1, h.2.1, h.2.2⟩
theorem six_row (S : Tx → Bool) : MarkRow (sixL.filter S) := by
  have key := six_key (S (tx "a")) (S (tx "b")) (S (tx "c")) (S (tx "d")) (S (tx "e")) (S (tx "f"))
  have e : ((sixL.zip [S (tx "a"), S (tx "b"), S (tx "c"), S (tx "d"), S (tx "e"), S (tx "f")]).filter (·.2)).map (·.1) = sixL.filter S := by
    unfold sixL
    simp only [List.zip_cons_cons, List.zip_nil_right, List.filter_cons, List.filter_nil]
    cases S (tx "a") <;> cases S (tx "b") <;> cases S (tx "c") <;> cases S (tx "d") <;> cases S (tx "e") <;> cases S (tx "f") <;> rfl
  rwa [e] at key
/-- some of the six marks, in their order -/
def Six (r : List Tx) : Prop := ∃ S : Tx → Bool, r = sixL.filter S
theorem six_nd : sixL.Nodup := by decide +kernel
theorem Six.mark {r : List Tx} (h : Six r) : MarkRow r := by
  obtain ⟨S, rfl⟩ := h
  exact six_row S
theorem Six.sub {r : List Tx} (h : Six r) {x : Tx} (hx : x ∈ r) : x ∈ sixL := by
  obtain ⟨S, rfl⟩ := h
  exact (List.mem_filter.mp hx).1
theorem Six.nd {r : List Tx} (h : Six r) : r.Nodup := by
  obtain ⟨S, rfl⟩ := h
  exact six_nd.filter _
/-- a room's steps together -/
def togRow (u v : W) (m : Nat) (l r : Int) : List Int := (ix u.c l).flatMap fun there => (ix v.c r).map fun room => there * (m : Int) + room
section
variable {u v : W} {n m : Nat} (hu : Wok u n) (hv : Wok v m)
include hu hv
/-- the world of two worlds together -/
structure Tog (u : W) (n : Nat) (v : W) (m : Nat) (w : W) : Prop where
  wok : Wok w (n * m)
  own : ∀ l r : Int, 0 ≤ l → l < n → 0 ≤ r → r < m → ix w.a (l * m + r) = ix u.a l
  mks : ∀ l r : Int, 0 ≤ l → l < n → 0 ≤ r → r < m → ix w.b (l * m + r) = sixL.filter fun x => decide (x ∈ ix u.b l) || decide (x ∈ ix v.b r)
  st : ∀ l r : Int, 0 ≤ l → l < n → 0 ≤ r → r < m → ix w.c (l * m + r) = togRow u v m l r
end
end Law

/-! The marks that a sentence names. -/
namespace Law
open PySem PySem.Spec PyProof.Rows L2 MP
open MP.Enc (enc)
def nms : Fm → List Tx
  | .yes => []
  | .mark m => [m]
  | .un _ a => nms a
  | .bi _ a b => nms a ++ nms b
theorem nms_wc : ∀ f : Fm, (nms f).length ≤ f.wc
  | .yes => by show 0 ≤ 1; omega
  | .mark m => by show 1 ≤ 1; omega
  | .un u a => by
    have := nms_wc a
    show (nms a).length ≤ a.wc + 1; omega
  | .bi u a b => by
    have := nms_wc a
    have := nms_wc b
    show (nms a ++ nms b).length ≤ a.wc + b.wc + 1
    rw [List.length_append]; omega
theorem named_ok : ∀ (fuel : Nat) (f : Fm), f.dp ≤ fuel → f.wc ≤ 1000 → s_named fuel f.sn ∧ m_named fuel f.sn = nms f
  | 0, f, hd, _ => by cases f <;> (unfold Fm.dp at hd; omega)
  | fuel + 1, f, hd, hw => by
    rw [s_named.eq_2, m_named.eq_2]
    have tn : ∀ (s : List Tx) (x : Sn), t_named_1 (m_named fuel) s x = s ++ m_named fuel x := fun s x => by unfold t_named_1; simp only [lt_eq]
    cases f with
    | yes =>
      have e0 : Sn.its (Fm.sn .yes) = [.x (tx "yes")] := rfl
      have e1 : Sn.tx (ix ([.x (tx "yes")] : List Sn) 0) = tx "yes" := by rw [ix_c0]; rfl
      have e2 : Sn.isX (ix ([.x (tx "yes")] : List Sn) 0) = true := by rw [ix_c0]; rfl
      obtain ⟨p1, p2⟩ := parts_fm .yes
      have p2 : m_parts_of (Fm.sn .yes) = [] := p2
      have ne : (decide (tx "yes" = tx "mark")) = false := by decide +kernel
      simp only [lt_eq, e0, e1, e2, p2, ne]
      exact ⟨⟨rfl, in0 _ _, trivial, fun z => (by cases z), fun _ => ⟨p1, trivial, trivial⟩⟩, rfl⟩
    | mark m =>
      have e0 : Sn.its (Fm.sn (.mark m)) = [.x (tx "mark"), .x m] := rfl
      have e1 : Sn.tx (ix ([.x (tx "mark"), .x m] : List Sn) 0) = tx "mark" := by rw [ix_c0]; rfl
      have e2 : Sn.isX (ix ([.x (tx "mark"), .x m] : List Sn) 0) = true := by rw [ix_c0]; rfl
      have e3 : Sn.tx (ix ([.x (tx "mark"), .x m] : List Sn) 1) = m := by rw [ix_c1]; rfl
      have e4 : Sn.isX (ix ([.x (tx "mark"), .x m] : List Sn) 1) = true := by rw [ix_c1]; rfl
      simp only [lt_eq, e0, e1, e2, e3, e4]
      refine ⟨⟨rfl, in0 _ _, trivial, fun _ => ⟨rfl, in1 _ _ _, trivial, trivial⟩, fun z => by simp at z⟩, ?_⟩
      rw [if_pos (by simp)]
      rfl
    | un u a =>
      have e0 : Sn.its (Fm.sn (.un u a)) = [.x u.w, a.sn] := rfl
      have e1 : Sn.tx (ix ([.x u.w, a.sn] : List Sn) 0) = u.w := by rw [ix_c0]; rfl
      have e2 : Sn.isX (ix ([.x u.w, a.sn] : List Sn) 0) = true := by rw [ix_c0]; rfl
      obtain ⟨p1, p2⟩ := parts_fm (.un u a)
      have p2 : m_parts_of (Fm.sn (.un u a)) = [a.sn] := p2
      have hd : a.dp + 1 ≤ fuel + 1 := hd
      have hw : a.wc + 1 ≤ 1000 := hw
      obtain ⟨i1, i2⟩ := named_ok fuel a (by omega) (by omega)
      have la := nms_wc a
      have ne : (decide (u.w = tx "mark")) = false := decide_eq_false (u1_mark u)
      simp only [lt_eq, e0, e1, e2, p2, ne]
      refine ⟨⟨rfl, in0 _ _, trivial, fun z => (by cases z), fun _ => ⟨p1, ⟨⟨i1, sz_le (by rw [i2, List.nil_append]; omega), trivial⟩, trivial⟩, trivial⟩⟩, ?_⟩
      rw [if_neg (by decide)]
      show t_named_1 (m_named fuel) [] a.sn = nms a
      rw [tn, i2, List.nil_append]
    | bi u a b =>
      have e0 : Sn.its (Fm.sn (.bi u a b)) = [.x u.w, a.sn, b.sn] := rfl
      have e1 : Sn.tx (ix ([.x u.w, a.sn, b.sn] : List Sn) 0) = u.w := by rw [ix_c0]; rfl
      have e2 : Sn.isX (ix ([.x u.w, a.sn, b.sn] : List Sn) 0) = true := by rw [ix_c0]; rfl
      obtain ⟨p1, p2⟩ := parts_fm (.bi u a b)
      have p2 : m_parts_of (Fm.sn (.bi u a b)) = [a.sn, b.sn] := p2
      have hd : max a.dp b.dp + 1 ≤ fuel + 1 := hd
      have hw : a.wc + b.wc + 1 ≤ 1000 := hw
      obtain ⟨i1, i2⟩ := named_ok fuel a (by omega) (by omega)
      obtain ⟨j1, j2⟩ := named_ok fuel b (by omega) (by omega)
      have la := nms_wc a
      have lb := nms_wc b
      have ne : (decide (u.w = tx "mark")) = false := decide_eq_false (u2_mark u)
      simp only [lt_eq, e0, e1, e2, p2, ne]
      refine ⟨⟨rfl, in0 _ _, trivial, fun z => (by cases z), fun _ => ⟨p1, ⟨⟨i1, sz_le (by rw [i2, List.nil_append]; omega), trivial⟩, ⟨j1, sz_le (by rw [tn, i2, j2, List.nil_append, List.length_append]; omega), trivial⟩, trivial⟩, trivial⟩⟩, ?_⟩
      rw [if_neg (by decide)]
      show t_named_1 (m_named fuel) (t_named_1 (m_named fuel) [] a.sn) b.sn = nms a ++ nms b
      rw [tn, tn, i2, j2, List.nil_append]
end Law

/-! The law's look at shorter forms. -/
namespace Law
open PySem PySem.Spec PyProof.Rows L2 MP
open MP.Enc (enc)
end Law

/-! Any tree of texts and tuples: is it a sentence? -/
namespace Law
open PySem PySem.Spec PyProof.Rows L2 MP
open MP.Enc (enc)
mutual
def Sn.ht : Sn → Nat
  | .x _ => 0
  | .n l => Sn.hts l + 1
def Sn.hts : List Sn → Nat
  | [] => 0
  | a :: r => max (Sn.ht a) (Sn.hts r)
end
mutual
def Sn.nn : Sn → Nat
  | .x _ => 0
  | .n l => Sn.nns l + 1
def Sn.nns : List Sn → Nat
  | [] => 0
  | a :: r => Sn.nn a + Sn.nns r
end
mutual
def Sn.tame : Sn → Prop
  | .x t => t.cs.length ≤ 1000
  | .n l => l.length ≤ 1000 ∧ Sn.tames l
def Sn.tames : List Sn → Prop
  | [] => True
  | a :: r => Sn.tame a ∧ Sn.tames r
end
theorem ht_n (l : List Sn) : Sn.ht (.n l) = Sn.hts l + 1 := by rw [Sn.ht]
theorem ht_x (t : Tx) : Sn.ht (.x t) = 0 := by rw [Sn.ht]
theorem hts_nil : Sn.hts [] = 0 := by rw [Sn.hts]
theorem hts_cons (a : Sn) (r : List Sn) : Sn.hts (a :: r) = max (Sn.ht a) (Sn.hts r) := by rw [Sn.hts]
theorem nn_n (l : List Sn) : Sn.nn (.n l) = Sn.nns l + 1 := by rw [Sn.nn]
theorem nn_x (t : Tx) : Sn.nn (.x t) = 0 := by rw [Sn.nn]
theorem nns_nil : Sn.nns [] = 0 := by rw [Sn.nns]
theorem nns_cons (a : Sn) (r : List Sn) : Sn.nns (a :: r) = Sn.nn a + Sn.nns r := by rw [Sn.nns]
theorem tame_n (l : List Sn) : Sn.tame (.n l) = (l.length ≤ 1000 ∧ Sn.tames l) := by rw [Sn.tame]
theorem tame_x (t : Tx) : Sn.tame (.x t) = (t.cs.length ≤ 1000) := by rw [Sn.tame]
theorem tames_nil : Sn.tames [] = True := by rw [Sn.tames]
theorem tames_cons (a : Sn) (r : List Sn) : Sn.tames (a :: r) = (Sn.tame a ∧ Sn.tames r) := by rw [Sn.tames]
theorem ht_mem {a : Sn} : ∀ {l : List Sn}, a ∈ l → Sn.ht a ≤ Sn.hts l
  | b :: r, h => by
    rw [hts_cons]
    rcases List.mem_cons.mp h with rfl | h
    · omega
    · have := ht_mem h; omega
theorem tame_mem {a : Sn} : ∀ {l : List Sn}, a ∈ l → Sn.tames l → Sn.tame a
  | b :: r, h, t => by
    rw [tames_cons] at t
    rcases List.mem_cons.mp h with rfl | h
    · exact t.1
    · exact tame_mem h t.2
theorem wm_any : ∀ (fuel : Nat) (x : Sn), x.isN = true → Sn.tame x → Sn.ht x ≤ fuel → s_well_made fuel x
  | _, .x _, h, _, _ => by cases h
  | 0, .n l, _, _, h => by rw [ht_n] at h; omega
  | fuel + 1, .n l, _, ht, hh => by
    rw [tame_n] at ht
    rw [ht_n] at hh
    have e0 : Sn.its (.n l) = l := rfl
    have lp : decide (MP.len l = 0) = false → 0 < l.length := fun z => by
      have := of_decide_eq_false z
      unfold MP.len at this
      omega
    have l2 : decide (MP.len l = 2) = true → l.length = 2 := fun z => by
      have := of_decide_eq_true z
      unfold MP.len at this
      omega
    have i0 : 0 < l.length → InR l.length 0 := fun z => inR (by decide) (by omega)
    have i1 : l.length = 2 → InR l.length 1 := fun z => inR (by decide) (by omega)
    simp only [s_well_made, e0]
    refine ⟨rfl, fun _ => rfl, fun z => i0 (lp z), fun z => ?_⟩
    rw [Bool.or_eq_false_iff] at z
    have hp := lp z.1
    have hx : (ix l 0).isX = true := by simpa using z.2
    refine ⟨rfl, i0 hp, hx, fun _ => ⟨rfl, fun _ => rfl, fun q => i1 (l2 q), fun _ _ => rfl, fun q _ => i1 (l2 q), fun _ q => q, fun q q2 => ?_, trivial⟩, fun _ => ⟨rfl, i0 hp, hx, fun _ => rfl, fun _ => rfl, fun _ => i0 hp, fun _ => hx, fun q => by simpa using q, fun _ => ⟨rfl, hp, rfl, ?_, fun p hp2 hn => ?_, trivial⟩⟩⟩
    · refine s_are_marks_ok (by simp) fun y hy => ?_
      rw [List.mem_singleton] at hy
      subst hy
      have hm : ix l 1 ∈ l := MP.ix_mem (i1 (l2 q))
      have := tame_mem hm ht.2
      rw [Sn.tx_of q2, tame_x] at this
      omega
    · show Sz (List.drop 1 l)
      exact sz_le (by rw [List.length_drop]; omega)
    · have hm : p ∈ l := List.mem_of_mem_drop (show p ∈ List.drop 1 l from hp2)
      have := ht_mem hm
      exact wm_any fuel p hn (tame_mem hm ht.2) (by omega)
theorem lookX_mem {t : Tx} {k : Int} : ∀ {l : List (Tx × Int)}, lookX t l = some k → (t, k) ∈ l := by
  intro l
  induction l with
  | nil => intro h; cases h
  | cons p r ih =>
    obtain ⟨a, b⟩ := p
    intro h
    unfold lookX at h
    split at h
    · rename_i e
      have : a = t := by first | exact e | exact eq_of_beq e | exact of_decide_eq_true e
      subst this
      cases h
      exact List.mem_cons_self
    · exact List.mem_cons_of_mem _ (ih h)
theorem len1 {t : Tx} (h : m_are_marks [t] = true) : MarkRow [t] := by
  refine ⟨h, by simp, fun x hx => ?_⟩
  rw [List.mem_singleton] at hx
  subst hx
  unfold m_are_marks at h
  rw [Bool.and_eq_true] at h
  have h := h.1
  rw [List.all_cons, Bool.and_eq_true, Bool.and_eq_true] at h
  have h := of_decide_eq_true h.1.1
  unfold Tx.len at h
  omega
theorem wm_sound : ∀ (fuel : Nat) (x : Sn), x.isN = true → m_well_made fuel x = true → ∃ f : Fm, f.good ∧ f.sn = x
  | _, .x _, h, _ => by cases h
  | 0, .n l, _, h => by cases h
  | fuel + 1, .n l, _, h => by
    have e0 : Sn.its (.n l) = l := rfl
    have ed : Sn.its (Sn.n (List.drop 1 l)) = List.drop 1 l := rfl
    simp only [m_well_made, e0, ed] at h
    split at h
    · cases h
    rename_i h1
    rw [Bool.not_eq_true, Bool.or_eq_false_iff] at h1
    obtain ⟨a, r, rfl⟩ : ∃ a r, l = a :: r := by
      cases l with
      | nil => exact absurd h1.1 (by decide)
      | cons a r => exact ⟨a, r, rfl⟩
    rw [ix_c0] at h1 h
    have hx : a.isX = true := by simpa using h1.2
    obtain ⟨t, rfl⟩ : ∃ t, a = .x t := ⟨_, Sn.tx_of hx⟩
    have et : Sn.tx (.x t) = t := rfl
    rw [et] at h
    rw [List.drop_one, List.tail_cons] at h
    split at h
    · rename_i h2
      have h2 := of_decide_eq_true h2
      subst h2
      rw [Bool.and_eq_true, Bool.and_eq_true] at h
      obtain ⟨q1, q2, q3⟩ := h
      have q1 := of_decide_eq_true q1
      obtain ⟨b, rfl⟩ : ∃ b, r = [b] := by
        have : MP.len (.x (tx "mark") :: r : List Sn) = (r.length : Int) + 1 := by show (((.x (tx "mark") :: r : List Sn).length : Nat) : Int) = _; simp
        exact List.length_eq_one_iff.mp (show r.length = 1 by omega)
      rw [ix_c1] at q2 q3
      obtain ⟨m, rfl⟩ : ∃ m, b = .x m := ⟨_, Sn.tx_of q2⟩
      exact ⟨.mark m, len1 q3, rfl⟩
    rename_i h2
    split at h
    · cases h
    rename_i h3
    rw [Bool.not_eq_true, Bool.or_eq_false_iff] at h3
    obtain ⟨k, hk⟩ : ∃ k, lookX t tab_PARTS = some k := by
      cases e : lookX t tab_PARTS with
      | none => rw [e] at h3; exact absurd h3.1 (by decide)
      | some k => exact ⟨k, rfl⟩
    have hl : MP.len (.x t :: r : List Sn) = k + 1 := by
      have := h3.2
      rw [hk] at this
      rw [Bool.not_eq_false'] at this
      exact of_decide_eq_true this
    have hr : ∀ p ∈ r, ∃ f : Fm, f.good ∧ f.sn = p := fun p hp => by
      rw [List.all_eq_true] at h
      have := h p hp
      rw [Bool.and_eq_true] at this
      exact wm_sound fuel p this.1 this.2
    have hl : (r.length : Int) = k := by
      have : MP.len (.x t :: r : List Sn) = (r.length : Int) + 1 := by show (((.x t :: r : List Sn).length : Nat) : Int) = _; simp
      omega
    have hm := lookX_mem hk
    have un : ∀ u : U1, t = u.w → k = 1 → ∃ f : Fm, f.good ∧ f.sn = .n (.x t :: r) := fun u e1 e2 => by
      obtain ⟨b, hb⟩ := List.length_eq_one_iff.mp (show r.length = 1 by omega)
      obtain ⟨f, g1, g2⟩ := hr b (by rw [hb]; exact List.mem_cons_self)
      refine ⟨.un u f, g1, ?_⟩
      rw [hb, e1, ← g2]; rfl
    have bi : ∀ u : U2, t = u.w → k = 2 → ∃ f : Fm, f.good ∧ f.sn = .n (.x t :: r) := fun u e1 e2 => by
      obtain ⟨b, c, hb⟩ := (show ∃ b c, r = [b, c] from by
        cases r with
        | nil => exact absurd hl (by simp; omega)
        | cons b r =>
          cases r with
          | nil => exact absurd hl (by simp; omega)
          | cons c r =>
            cases r with
            | nil => exact ⟨b, c, rfl⟩
            | cons d r => exact absurd hl (by simp; omega))
      obtain ⟨f, g1, g2⟩ := hr b (by rw [hb]; exact List.mem_cons_self)
      obtain ⟨f', g3, g4⟩ := hr c (by rw [hb]; exact List.mem_cons_of_mem _ List.mem_cons_self)
      refine ⟨.bi u f f', ⟨g1, g3⟩, ?_⟩
      rw [hb, e1, ← g2, ← g4]; rfl
    unfold tab_PARTS at hm
    simp only [List.mem_cons, List.not_mem_nil, or_false, Prod.mk.injEq] at hm
    rcases hm with ⟨e1, e2⟩ | ⟨e1, e2⟩ | ⟨e1, e2⟩ | ⟨e1, e2⟩ | ⟨e1, e2⟩ | ⟨e1, e2⟩ | ⟨e1, e2⟩ | ⟨e1, e2⟩ | ⟨e1, e2⟩ | ⟨e1, e2⟩
    · have hb := List.length_eq_zero_iff.mp (show r.length = 0 by omega)
      refine ⟨.yes, trivial, ?_⟩
      rw [hb, e1]; rfl
    · exact un .not e1 e2
    · exact bi .and e1 e2
    · exact bi .or e1 e2
    · exact un .sn e1 e2
    · exact un .an e1 e2
    · exact bi .su e1 e2
    · exact bi .au e1 e2
    · exact un .sa e1 e2
    · exact un .aa e1 e2
theorem dp_ht : ∀ f : Fm, f.dp = Sn.ht f.sn ∧ f.wc = Sn.nn f.sn := by
  intro f
  induction f with
  | yes => constructor <;> (unfold Fm.sn; simp [Fm.dp, Fm.wc, ht_n, hts_cons, hts_nil, ht_x, nn_n, nns_cons, nns_nil, nn_x])
  | mark m => constructor <;> (unfold Fm.sn; simp [Fm.dp, Fm.wc, ht_n, hts_cons, hts_nil, ht_x, nn_n, nns_cons, nns_nil, nn_x])
  | un u a ih => constructor <;> (unfold Fm.sn; simp [Fm.dp, Fm.wc, ht_n, hts_cons, hts_nil, ht_x, nn_n, nns_cons, nns_nil, nn_x, ih.1, ih.2])
  | bi u a b iha ihb =>
    constructor
    · unfold Fm.sn
      simp [Fm.dp, ht_n, hts_cons, hts_nil, ht_x, iha.1, ihb.1]
    · unfold Fm.sn
      simp [Fm.wc, nn_n, nns_cons, nns_nil, nn_x, iha.2, ihb.2]
/-- any tree that is not too deep -/
theorem is_sentence_any {x : Sn} (hn : x.isN = true) (ht : Sn.tame x) (hh : Sn.ht x ≤ 30) : s_is_sentence x ∧ (m_is_sentence x = true ↔ ∃ f : Fm, f.good ∧ f.sn = x ∧ f.wc ≤ 200 ∧ f.dp ≤ 24) := by
  have a := wm_any 30 x hn ht hh
  have key : m_well_made 30 x = true → ∃ f : Fm, f.good ∧ f.sn = x ∧ (s_count 30 x ∧ m_count 30 x = f.wc) ∧ s_deep 30 x ∧ m_deep 30 x = f.dp := fun z => by
    obtain ⟨f, g1, g2⟩ := wm_sound 30 x hn z
    have := (dp_ht f).1
    rw [g2] at this
    have c := count_deep_ok f 30 (by omega)
    rw [g2] at c
    exact ⟨f, g1, g2, c⟩
  refine ⟨⟨a, fun z => ?_, fun z _ => ?_, trivial⟩, fun z => ?_, fun ⟨f, g1, g2, g3, g4⟩ => ?_⟩
  · obtain ⟨f, _, _, c, _⟩ := key z; exact c.1
  · obtain ⟨f, _, _, _, c, _⟩ := key z; exact c
  · unfold m_is_sentence at z
    rw [Bool.and_eq_true, Bool.and_eq_true] at z
    obtain ⟨z1, z2, z3⟩ := z
    obtain ⟨f, g1, g2, c, _, d⟩ := key z1
    have z2 := of_decide_eq_true z2
    have z3 := of_decide_eq_true z3
    rw [c.2] at z2
    rw [d] at z3
    exact ⟨f, g1, g2, by omega, by omega⟩
  · rw [← g2]
    exact (is_sentence_ok g1 g4 g3).2
theorem tame_sn : ∀ f : Fm, f.good → Sn.tame f.sn := by
  have tw1 : ∀ u : U1, u.w.cs.length ≤ 1000 := fun u => by cases u <;> decide +kernel
  have tw2 : ∀ u : U2, u.w.cs.length ≤ 1000 := fun u => by cases u <;> decide +kernel
  intro f
  induction f with
  | yes => intro _; unfold Fm.sn; simp [tame_n, tames_cons, tames_nil, tame_x]; decide +kernel
  | mark m =>
    intro h
    have h : m_are_marks [m] = true := h.1
    unfold m_are_marks at h
    rw [Bool.and_eq_true] at h
    have h := h.1
    rw [List.all_cons, Bool.and_eq_true, Bool.and_eq_true] at h
    have h := of_decide_eq_true h.1.1
    unfold Tx.len at h
    unfold Fm.sn
    simp [tame_n, tames_cons, tames_nil, tame_x]
    exact ⟨by decide +kernel, by omega⟩
  | un u a ih =>
    intro h
    unfold Fm.sn
    simp [tame_n, tames_cons, tames_nil, tame_x]
    exact ⟨tw1 u, ih h⟩
  | bi u a b iha ihb =>
    intro h
    unfold Fm.sn
    simp [tame_n, tames_cons, tames_nil, tame_x]
    exact ⟨tw2 u, iha h.1, ihb h.2⟩
end Law

/-! A way's rooms place by place; what it shows hangs on them alone; its short form. -/
namespace Law
open PySem PySem.Spec PyProof.Rows L2 MP
open MP.Enc (enc)
/-- where in the two lists a place lies -/
def pos (y : T2 (List Int) (List Int)) (k : Nat) : Nat := if k < y.a.length then k else y.a.length + (k - y.a.length) % y.b.length
section
variable {y : T2 (List Int) (List Int)} (hb : y.b ≠ [])
include hb
end
/-! what a way shows -/
inductive Kd where
  | sn | su | sa | an | au | aa
def Kd.w : Kd → Tx
  | .sn => tx "some next"
  | .su => tx "some until"
  | .sa => tx "some always"
  | .an => tx "all next"
  | .au => tx "all until"
  | .aa => tx "all always"
def Kd.fm : Kd → Fm → Fm → Fm
  | .sn, f, _ => .un .sn f
  | .an, f, _ => .un .an f
  | .sa, f, _ => .un .sa f
  | .aa, f, _ => .un .aa f
  | .su, f, g => .bi .su f g
  | .au, f, g => .bi .au f g
section
variable {w : W} {n : Nat} (h : Wok w n) {y : T2 (List Int) (List Int)} (hy : WayOk w n y) (hl : (y.a ++ y.b).length ≤ 1000)
include h hy hl
end
/-! the short form -/
section
variable {w : W} {n : Nat} (h : Wok w n) {y : T2 (List Int) (List Int)} (hy : WayOk w n y) (hl : (y.a ++ y.b).length ≤ 1000)
include h hy hl
end
end Law

/-! The sentences of the laws of ways. -/
namespace Law
open PySem PySem.Spec PyProof.Rows L2 MP
open MP.Enc (enc)
end Law

namespace Law
open PySem PySem.Spec PyProof.Rows L2 MP
open MP.Enc (enc)
section
variable {w : W} {n : Nat} {y : T2 (List Int) (List Int)} (h : Wok w n) (hy : WayOk w n y) (hl : (y.a ++ y.b).length ≤ 1000)
include h hy hl
end
end Law

namespace Law
open PySem PySem.Spec PyProof.Rows L2 MP
open MP.Enc (enc)
end Law

/-! Bad sentences. -/
namespace Law
open PySem PySem.Spec PyProof.Rows L2 MP
open MP.Enc (enc)
/-- no good one is written so -/
def NoG (x : Sn) : Prop := ∀ f : Fm, f.good → f.sn ≠ x
def NoS (x : Sn) : Prop := ∀ f : Fm, f.good → f.sn = x → f.wc ≤ 200 → f.dp ≤ 24 → False
theorem NoG.s {x : Sn} (h : NoG x) : NoS x := fun f g e _ _ => h f g e
/-- a bad tree that the program can look at -/
structure Bad (x : Sn) (k : Nat) : Prop where
  n : x.isN = true
  t : Sn.tame x
  h : Sn.ht x ≤ k
  b : NoG x
theorem ht_sn {f : Fm} {k : Nat} (h : f.dp ≤ k) : Sn.ht f.sn ≤ k := by rw [← (dp_ht f).1]; exact h
theorem tm1 {t : Tx} (h : t.cs.length ≤ 1000) : Sn.tame (.n [.x t]) := by rw [tame_n, tames_cons, tames_nil, tame_x]; exact ⟨by simp, h, trivial⟩
theorem tm2 {t : Tx} {a : Sn} (h : t.cs.length ≤ 1000) (ha : Sn.tame a) : Sn.tame (.n [.x t, a]) := by rw [tame_n, tames_cons, tames_cons, tames_nil, tame_x]; exact ⟨by simp, h, ha, trivial⟩
theorem tm3 {t : Tx} {a b : Sn} (h : t.cs.length ≤ 1000) (ha : Sn.tame a) (hb : Sn.tame b) : Sn.tame (.n [.x t, a, b]) := by rw [tame_n, tames_cons, tames_cons, tames_cons, tames_nil, tame_x]; exact ⟨by simp, h, ha, hb, trivial⟩
theorem ht2 {t : Tx} {a : Sn} : Sn.ht (.n [.x t, a]) = Sn.ht a + 1 := by rw [ht_n, hts_cons, hts_cons, hts_nil, ht_x]; omega
theorem ht3 {t : Tx} {a b : Sn} : Sn.ht (.n [.x t, a, b]) = max (Sn.ht a) (Sn.ht b) + 1 := by rw [ht_n, hts_cons, hts_cons, hts_cons, hts_nil, ht_x]; omega
/-- heights and nodes of a row that is joined two by two -/
def stp : List (Nat × Nat) → List (Nat × Nat)
  | a :: b :: r => r ++ [(max a.1 b.1 + 1, a.2 + b.2 + 1)]
  | r => r
def hn (x : Sn) : Nat × Nat := (Sn.ht x, Sn.nn x)
theorem join_ok {c : List Sn → Bool} {f : List Sn → List Sn} {v u : List Sn → Prop} {w : Tx} (hw : w.cs.length ≤ 1000) (hc : ∀ s, c s = decide ((1 : Int) < MP.len s)) (hf : ∀ s, f s = cut s (some (2 : Int)) none ++ [.n [.x w, ix s 0, ix s 1]])
    (hv : ∀ s, v s) (hu : ∀ s : List Sn, InR s.length 0 → InR s.length 1 → Sz (cut s (some (2 : Int)) none ++ [.n [.x w, ix s 0, ix s 1]]) → u s) {row : List Sn} {N : Nat} (h0 : row.length = N + 1) (hN : N ≤ 1000) (hr : ∀ x ∈ row, x.isN = true ∧ Sn.tame x) :
    whS v c u f wmost row ∧ ∃ x, whl c f wmost row = [x] ∧ x.isN = true ∧ Sn.tame x ∧ [hn x] = itn stp N (row.map hn) := by
  have hnn : ∀ k, itn stp (k + 1) (row.map hn) = stp (itn stp k (row.map hn)) := fun k => by
    first | rfl | exact itn_succ _ _ _
  let I : List Sn → Prop := fun s => (∃ k, k ≤ N ∧ s.length + k = N + 1 ∧ s.map hn = itn stp k (row.map hn)) ∧ ∀ x ∈ s, x.isN = true ∧ Sn.tame x
  have step : ∀ s, I s → c s = true → u s ∧ I (f s) ∧ (f s).length < s.length := fun s ⟨⟨k, k1, k2, k3⟩, ks⟩ hcs => by
    rw [hc] at hcs
    have hl := of_decide_eq_true hcs
    unfold MP.len at hl
    obtain ⟨a, b, r, rfl⟩ : ∃ a b r, s = a :: b :: r := by
      match s, hl with
      | [], z => simp at z
      | [_], z => simp at z
      | a :: b :: r, _ => exact ⟨a, b, r, rfl⟩
    have ec : cut (a :: b :: r) (some (2 : Int)) none = r := by
      rw [cut_from (by decide) (by simp; omega)]; rfl
    have ef : f (a :: b :: r) = r ++ [.n [.x w, a, b]] := by rw [hf, ec, ix_c0, ix_c1]
    have sa := ks a List.mem_cons_self
    have sb := ks b (List.mem_cons_of_mem _ List.mem_cons_self)
    simp only [List.length_cons] at k2
    refine ⟨hu _ (in0 _ _) (in1 _ _ _) (sz_le ?_), ?_, ?_⟩
    · rw [ec]; simp; omega
    · rw [ef]
      refine ⟨⟨k + 1, by omega, by simp; omega, ?_⟩, fun x hx => ?_⟩
      · rw [hnn, ← k3, List.map_append]
        show _ = r.map hn ++ [_]
        congr 1
        show [hn _] = _
        unfold hn
        rw [ht3, nn_n, nns_cons, nns_cons, nns_cons, nns_nil, nn_x]
        simp
      · rcases List.mem_append.mp hx with hx | hx
        · exact ks x (List.mem_cons_of_mem _ (List.mem_cons_of_mem _ hx))
        · rw [List.mem_singleton] at hx
          subst hx
          exact ⟨rfl, tm3 hw sa.2 sb.2⟩
    · rw [ef]; simp
  have i0 : I row := ⟨⟨0, by omega, by omega, rfl⟩, hr⟩
  have hwm : row.length < wmost := by rw [wmost_eq]; omega
  refine ⟨whS_inv I List.length (fun s hs => ⟨hv s, fun z => step s hs z⟩) i0 hwm, ?_⟩
  obtain ⟨⟨⟨k, k1, k2, k3⟩, ks⟩, he⟩ := whl_inv I List.length (fun s hs z => (step s hs z).2) i0 hwm
  generalize whl c f wmost row = s at *
  rw [hc] at he
  have hl := of_decide_eq_false he
  unfold MP.len at hl
  obtain ⟨x, rfl⟩ := List.length_eq_one_iff.mp (show s.length = 1 by omega)
  have : k = N := by simp at k2; omega
  subst this
  exact ⟨x, rfl, (ks x List.mem_cons_self).1, (ks x List.mem_cons_self).2, k3⟩
end Law

/-! What is a sentence: the law's own look. -/
namespace Law
open PySem PySem.Spec PyProof.Rows L2 MP
open MP.Enc (enc)
mutual
theorem sn_ht : ∀ x : Sn, x.enc.py.depth ≤ Sn.ht x
  | .x t => by
    rw [Sn.enc, ht_x]
    show PyData.depth (.str _) ≤ 0
    simp only [PyData.depth]
    omega
  | .n l => by
    rw [Sn.enc, ht_n]
    show PyData.depth (.tuple (pys (Sn.encs l))) ≤ _
    simp only [PyData.depth]
    have := sns_ht l
    omega
theorem sns_ht : ∀ l : List Sn, PyData.depthAll (pys (Sn.encs l)) ≤ Sn.hts l
  | [] => by
    rw [Sn.encs]
    show PyData.depthAll [] ≤ _
    simp only [PyData.depthAll]
    omega
  | a :: r => by
    rw [Sn.encs, hts_cons]
    show PyData.depthAll ((Sn.enc a).py :: pys (Sn.encs r)) ≤ _
    simp only [PyData.depthAll]
    have := sn_ht a
    have := sns_ht r
    omega
end
theorem snD_ht {x : Sn} (h : Sn.ht x ≤ 64) : SnD x := Nat.le_trans (sn_ht x) h
theorem look_eq {t : Tx} (h : t ≠ tx "mark") : lookX t wantsT = lookX t tab_PARTS := by
  by_cases e1 : t = tx "yes"
  · subst e1; decide +kernel
  by_cases e2 : t = tx "not"
  · subst e2; decide +kernel
  by_cases e3 : t = tx "some next"
  · subst e3; decide +kernel
  by_cases e4 : t = tx "all next"
  · subst e4; decide +kernel
  by_cases e5 : t = tx "some always"
  · subst e5; decide +kernel
  by_cases e6 : t = tx "all always"
  · subst e6; decide +kernel
  by_cases e7 : t = tx "and"
  · subst e7; decide +kernel
  by_cases e8 : t = tx "or"
  · subst e8; decide +kernel
  by_cases e9 : t = tx "some until"
  · subst e9; decide +kernel
  by_cases e10 : t = tx "all until"
  · subst e10; decide +kernel
  unfold wantsT tab_PARTS
  simp only [lookX]
  rw [if_neg (Ne.symm e1), if_neg (Ne.symm h), if_neg (Ne.symm e2), if_neg (Ne.symm e3), if_neg (Ne.symm e4), if_neg (Ne.symm e5), if_neg (Ne.symm e6), if_neg (Ne.symm e7), if_neg (Ne.symm e8), if_neg (Ne.symm e9), if_neg (Ne.symm e10)]
  rw [if_neg (Ne.symm e1), if_neg (Ne.symm e2), if_neg (Ne.symm e7), if_neg (Ne.symm e8), if_neg (Ne.symm e3), if_neg (Ne.symm e4), if_neg (Ne.symm e9), if_neg (Ne.symm e10), if_neg (Ne.symm e5), if_neg (Ne.symm e6)]
def six : List Tx := [tx "a", tx "b", tx "c", tx "d", tx "e", tx "f"]
theorem rises_one (y : Tx) : m_rises_X [y] = true := by
  unfold m_rises_X
  have : rng2 1 (MP.len [y]) = [] := by show rng2 1 1 = []; decide
  rw [this]; rfl
theorem marks_one (y : Tx) : m_are_marks [y] = decide (y ∈ six) := by
  unfold m_are_marks
  rw [rises_one, Bool.and_true, List.all_cons, List.all_nil, Bool.and_true]
  by_cases h : Tx.len y = 1
  · obtain ⟨c, rfl⟩ : ∃ c, y = ⟨[c]⟩ := by
      obtain ⟨cs⟩ := y
      obtain ⟨c, hc⟩ := List.length_eq_one_iff.mp (show cs.length = 1 by have h : (cs.length : Int) = 1 := h; omega)
      exact ⟨c, by rw [hc]⟩
    rw [decide_eq_true h, Bool.true_and, has_one]
    have e : (tx "abcdef").cs = ['a', 'b', 'c', 'd', 'e', 'f'] := by decide +kernel
    have e2 : six = [⟨['a']⟩, ⟨['b']⟩, ⟨['c']⟩, ⟨['d']⟩, ⟨['e']⟩, ⟨['f']⟩] := by decide +kernel
    rw [e, e2]
    have : (c ∈ (['a', 'b', 'c', 'd', 'e', 'f'] : List Char)) ↔ ((⟨[c]⟩ : Tx) ∈ ([⟨['a']⟩, ⟨['b']⟩, ⟨['c']⟩, ⟨['d']⟩, ⟨['e']⟩, ⟨['f']⟩] : List Tx)) := by
      have k : ∀ d : Char, ((⟨[c]⟩ : Tx) = ⟨[d]⟩) ↔ c = d := fun d => ⟨fun z => by injection z with z; injection z, fun z => by rw [z]⟩
      simp only [List.mem_cons, List.not_mem_nil, or_false, k]
    exact decide_eq_decide.mpr this
  · rw [decide_eq_false h, Bool.false_and]
    refine (decide_eq_false fun z => h ?_).symm
    have : ∀ x ∈ six, Tx.len x = 1 := by decide +kernel
    exact this y z
theorem n_nil (a : Sn) (r : List Sn) : decide (Sn.n (a :: r) = Sn.n []) = false := decide_eq_false fun z => by injection z with z; cases z
theorem good_any : ∀ (fuel : Nat) (x : Sn), x.isN = true → Sn.tame x → Sn.ht x ≤ fuel → Sn.ht x ≤ 64 → s_law_good_v2 fuel x ∧ m_law_good_v2 fuel x = m_well_made fuel x
  | _, .x _, h, _, _, _ => by cases h
  | 0, .n l, _, _, h, _ => by rw [ht_n] at h; omega
  | fuel + 1, .n l, _, ht, hh, h64 => by
    have sd := snD_ht h64
    have sd0 : SnD (Sn.n []) := snD_ht (by rw [ht_n, hts_nil]; omega)
    rw [tame_n] at ht
    rw [ht_n] at hh h64
    have e0 : Sn.its (.n l) = l := rfl
    have ed : Sn.its (Sn.n (List.drop 1 l)) = List.drop 1 l := rfl
    cases l with
    | nil =>
      constructor
      · refine ⟨sd, sd0, fun z => by simp at z, fun z => by simp at z, fun z => by simp at z, fun z => by simp at z, fun z => by simp at z, fun z => by simp at z⟩
      · simp only [m_law_good_v2, m_well_made, e0]
        rw [if_pos (by simp), if_pos (by simp [MP.len])]
    | cons a r =>
      have hp : 0 < (a :: r).length := by simp
      have i0 : InR (a :: r).length 0 := in0 _ _
      have nl : decide (MP.len (a :: r) = 0) = false := decide_eq_false fun z => by unfold MP.len at z; simp at z; omega
      have l2 : decide (MP.len (a :: r) = 2) = true → (a :: r).length = 2 := fun z => by
        have := of_decide_eq_true z
        unfold MP.len at this
        omega
      have i1 : (a :: r).length = 2 → InR (a :: r).length 1 := fun z => inR (by decide) (by omega)
      have rc : ∀ p ∈ r, p.isN = true → s_law_good_v2 fuel p ∧ m_law_good_v2 fuel p = m_well_made fuel p := fun p hm hn => by
        have := ht_mem (List.mem_cons_of_mem a hm)
        exact good_any fuel p hn (tame_mem (List.mem_cons_of_mem a hm) ht.2) (by omega) (by omega)
      constructor
      · simp only [s_law_good_v2, e0, n_nil, ix_c0]
        refine ⟨sd, sd0, fun _ => rfl, fun _ => i0, fun _ _ => rfl, fun _ _ => i0, fun _ z => by simpa using z, fun z => ?_⟩
        rw [Bool.or_eq_false_iff, Bool.or_eq_false_iff] at z
        have hx : a.isX = true := by simpa using z.2.1
        have hs : (lookX (Sn.tx a) wantsT).isSome = true := by simpa using z.2.2
        refine ⟨rfl, i0, hx, fun _ => ⟨rfl, fun _ => rfl, fun q => i1 (l2 q), fun _ _ => rfl, fun q _ => i1 (l2 q), fun _ q => q, trivial⟩, fun _ => ⟨rfl, rfl, i0, hx, hs, fun _ => ⟨rfl, hp, rfl, ?_, fun p hp2 hn => ?_, trivial⟩⟩⟩
        · show Sz (List.drop 1 (a :: r))
          exact sz_le (by rw [List.length_drop]; omega)
        · exact (rc p hp2 hn).1
      · simp only [m_law_good_v2, m_well_made, e0, n_nil, nl, ix_c0, Bool.false_or]
        cases hx : a.isX with
        | false => rfl
        | true =>
          simp only [Bool.not_true, Bool.false_or, Bool.false_eq_true, if_false]
          by_cases hm : Sn.tx a = tx "mark"
          · rw [hm]
            have : (!(lookX (tx "mark") wantsT).isSome) = false := by decide +kernel
            rw [this, if_neg (by decide), if_pos (by simp), if_pos (by simp), marks_one]
            rfl
          · rw [look_eq hm, if_neg (c := decide (Sn.tx a = tx "mark") = true) (by simpa using hm), if_neg (c := decide (Sn.tx a = tx "mark") = true) (by simpa using hm)]
            cases e : lookX (Sn.tx a) tab_PARTS with
            | none => rfl
            | some k =>
              simp only [Option.isSome_some, Bool.not_true, Bool.false_or, Bool.false_eq_true, if_false]
              split
              · rfl
              · show List.all r _ = List.all r _
                rw [Bool.eq_iff_iff, List.all_eq_true, List.all_eq_true]
                refine ⟨fun z p hp2 => ?_, fun z p hp2 => ?_⟩
                · have := z p hp2
                  rw [Bool.and_eq_true] at this ⊢
                  exact ⟨this.1, by rw [← (rc p hp2 this.1).2]; exact this.2⟩
                · have := z p hp2
                  rw [Bool.and_eq_true] at this ⊢
                  exact ⟨this.1, by rw [(rc p hp2 this.1).2]; exact this.2⟩
theorem law_deep_ok : ∀ (f : Fm) (fuel : Nat), f.dp ≤ fuel → s_law_deep fuel f.sn ∧ m_law_deep fuel f.sn = f.dp := by
  intro f
  have step : ∀ (wd : Tx) (ps : List Sn) (k : Nat) (cs : List Int), (ps.filter fun p => p.isN).map (m_law_deep k) = cs → ps.length ≤ 1000 → (∀ p ∈ ps, p.isN = true → s_law_deep k p) → s_law_deep (k + 1) (.n (.x wd :: ps)) ∧ m_law_deep (k + 1) (.n (.x wd :: ps)) = 1 + maxI cs := fun wd ps k cs h1 hz h2 => by
    have e0 : Sn.its (.n (.x wd :: ps)) = .x wd :: ps := rfl
    have e3 : Sn.its (Sn.n (List.drop 1 (.x wd :: ps))) = ps := rfl
    subst h1
    constructor
    · simp only [s_law_deep, e0, e3]
      exact ⟨rfl, by simp, rfl, sz_le (by omega), h2, trivial⟩
    · simp only [m_law_deep, e0, e3]
  induction f with
  | yes =>
    intro fuel hd
    obtain ⟨k, rfl⟩ : ∃ k, fuel = k + 1 := ⟨fuel - 1, by unfold Fm.dp at hd; omega⟩
    exact step (tx "yes") [] k [] rfl (by simp) (fun p hp => by cases hp)
  | mark m =>
    intro fuel hd
    obtain ⟨k, rfl⟩ : ∃ k, fuel = k + 1 := ⟨fuel - 1, by unfold Fm.dp at hd; omega⟩
    refine step (tx "mark") [.x m] k [] rfl (by simp) (fun p hp hn => ?_)
    rw [List.mem_singleton] at hp
    subst hp; cases hn
  | un u a ih =>
    intro fuel hd
    have hd : a.dp + 1 ≤ fuel := hd
    obtain ⟨k, rfl⟩ : ∃ k, fuel = k + 1 := ⟨fuel - 1, by omega⟩
    obtain ⟨i1, i2⟩ := ih k (by omega)
    obtain ⟨x1, x2⟩ := step u.w [a.sn] k [(a.dp : Int)] (by rw [List.filter_cons, if_pos a.isN, List.filter_nil, List.map_cons, i2]; rfl) (by simp) (fun p hp _ => by rw [List.mem_singleton] at hp; subst hp; exact i1)
    refine ⟨x1, x2.trans ?_⟩
    show 1 + maxI [(a.dp : Int)] = ((a.dp + 1 : Nat) : Int)
    unfold maxI; simp; omega
  | bi u a b iha ihb =>
    intro fuel hd
    have hd : max a.dp b.dp + 1 ≤ fuel := hd
    obtain ⟨k, rfl⟩ : ∃ k, fuel = k + 1 := ⟨fuel - 1, by omega⟩
    obtain ⟨a1, a2⟩ := iha k (by omega)
    obtain ⟨b1, b2⟩ := ihb k (by omega)
    obtain ⟨x1, x2⟩ := step u.w [a.sn, b.sn] k [(a.dp : Int), (b.dp : Int)] (by rw [List.filter_cons, if_pos a.isN, List.filter_cons, if_pos b.isN, List.filter_nil, List.map_cons, a2, List.map_cons, b2]; rfl) (by simp) (fun p hp _ => by
      rcases List.mem_cons.mp hp with rfl | hp
      · exact a1
      · rw [List.mem_singleton] at hp; subst hp; exact b1)
    refine ⟨x1, x2.trans ?_⟩
    show 1 + maxI [(a.dp : Int), (b.dp : Int)] = ((max a.dp b.dp + 1 : Nat) : Int)
    unfold maxI
    simp only [List.foldl_cons, List.foldl_nil]
    split <;> omega
theorem law_named_ok : ∀ (fuel : Nat) (f : Fm), f.dp ≤ fuel → f.wc ≤ 1000 → s_law_named fuel f.sn ∧ m_law_named fuel f.sn = nms f
  | 0, f, hd, _ => by cases f <;> (unfold Fm.dp at hd; omega)
  | fuel + 1, f, hd, hw => by
    rw [s_law_named.eq_2, m_law_named.eq_2]
    have tn : ∀ (s : List Tx) (x : Sn), t_law_named_1 (m_law_named fuel) s x = s ++ m_law_named fuel x := fun s x => by unfold t_law_named_1; simp only [lt_eq]
    cases f with
    | yes =>
      have e0 : Sn.its (Fm.sn .yes) = [.x (tx "yes")] := rfl
      have e1 : Sn.tx (ix ([.x (tx "yes")] : List Sn) 0) = tx "yes" := by rw [ix_c0]; rfl
      have e2 : Sn.isX (ix ([.x (tx "yes")] : List Sn) 0) = true := by rw [ix_c0]; rfl
      have e5 : Sn.its (Sn.n (List.drop 1 ([.x (tx "yes")] : List Sn))) = [] := rfl
      have ne : (decide (tx "yes" = tx "mark")) = false := by decide +kernel
      simp only [lt_eq, e0, e1, e2, ne, e5]
      exact ⟨⟨rfl, in0 _ _, trivial, fun z => (by cases z), fun _ => ⟨rfl, by simp, rfl, trivial, trivial⟩⟩, rfl⟩
    | mark m =>
      have e0 : Sn.its (Fm.sn (.mark m)) = [.x (tx "mark"), .x m] := rfl
      have e1 : Sn.tx (ix ([.x (tx "mark"), .x m] : List Sn) 0) = tx "mark" := by rw [ix_c0]; rfl
      have e2 : Sn.isX (ix ([.x (tx "mark"), .x m] : List Sn) 0) = true := by rw [ix_c0]; rfl
      have e3 : Sn.tx (ix ([.x (tx "mark"), .x m] : List Sn) 1) = m := by rw [ix_c1]; rfl
      have e4 : Sn.isX (ix ([.x (tx "mark"), .x m] : List Sn) 1) = true := by rw [ix_c1]; rfl
      simp only [lt_eq, e0, e1, e2, e3, e4]
      refine ⟨⟨rfl, in0 _ _, trivial, fun _ => ⟨rfl, in1 _ _ _, trivial, trivial⟩, fun z => by simp at z⟩, ?_⟩
      rw [if_pos (by simp)]
      rfl
    | un u a =>
      have e0 : Sn.its (Fm.sn (.un u a)) = [.x u.w, a.sn] := rfl
      have e1 : Sn.tx (ix ([.x u.w, a.sn] : List Sn) 0) = u.w := by rw [ix_c0]; rfl
      have e2 : Sn.isX (ix ([.x u.w, a.sn] : List Sn) 0) = true := by rw [ix_c0]; rfl
      have e5 : Sn.its (Sn.n (List.drop 1 ([.x u.w, a.sn] : List Sn))) = [a.sn] := rfl
      have hd : a.dp + 1 ≤ fuel + 1 := hd
      have hw : a.wc + 1 ≤ 1000 := hw
      obtain ⟨i1, i2⟩ := law_named_ok fuel a (by omega) (by omega)
      have la := nms_wc a
      have ne : (decide (u.w = tx "mark")) = false := decide_eq_false (u1_mark u)
      simp only [lt_eq, e0, e1, e2, ne, e5]
      refine ⟨⟨rfl, in0 _ _, trivial, fun z => (by cases z), fun _ => ⟨rfl, by simp, rfl, ⟨⟨i1, sz_le (by rw [i2, List.nil_append]; omega), trivial⟩, trivial⟩, trivial⟩⟩, ?_⟩
      rw [if_neg (by decide)]
      show t_law_named_1 (m_law_named fuel) [] a.sn = nms a
      rw [tn, i2, List.nil_append]
    | bi u a b =>
      have e0 : Sn.its (Fm.sn (.bi u a b)) = [.x u.w, a.sn, b.sn] := rfl
      have e1 : Sn.tx (ix ([.x u.w, a.sn, b.sn] : List Sn) 0) = u.w := by rw [ix_c0]; rfl
      have e2 : Sn.isX (ix ([.x u.w, a.sn, b.sn] : List Sn) 0) = true := by rw [ix_c0]; rfl
      have e5 : Sn.its (Sn.n (List.drop 1 ([.x u.w, a.sn, b.sn] : List Sn))) = [a.sn, b.sn] := rfl
      have hd : max a.dp b.dp + 1 ≤ fuel + 1 := hd
      have hw : a.wc + b.wc + 1 ≤ 1000 := hw
      obtain ⟨i1, i2⟩ := law_named_ok fuel a (by omega) (by omega)
      obtain ⟨j1, j2⟩ := law_named_ok fuel b (by omega) (by omega)
      have la := nms_wc a
      have lb := nms_wc b
      have ne : (decide (u.w = tx "mark")) = false := decide_eq_false (u2_mark u)
      simp only [lt_eq, e0, e1, e2, ne, e5]
      refine ⟨⟨rfl, in0 _ _, trivial, fun z => (by cases z), fun _ => ⟨rfl, by simp, rfl, ⟨⟨i1, sz_le (by rw [i2, List.nil_append]; omega), trivial⟩, ⟨j1, sz_le (by rw [tn, i2, j2, List.nil_append, List.length_append]; omega), trivial⟩, trivial⟩, trivial⟩⟩, ?_⟩
      rw [if_neg (by decide)]
      show t_law_named_1 (m_law_named fuel) (t_law_named_1 (m_law_named fuel) [] a.sn) b.sn = nms a ++ nms b
      rw [tn, tn, i2, j2, List.nil_append]
theorem nd_le {α : Type} [DecidableEq α] : ∀ {l m : List α}, l.Nodup → (∀ x ∈ l, x ∈ m) → l.length ≤ m.length
  | [], m, _, _ => by simp
  | a :: l, m, nd, h => by
    rw [List.nodup_cons] at nd
    have ha := h a List.mem_cons_self
    have := nd_le (l := l) (m := m.erase a) nd.2 fun x hx => by
      have : x ≠ a := fun e => nd.1 (e ▸ hx)
      exact (List.mem_erase_of_ne this).mpr (h x (List.mem_cons_of_mem _ hx))
    rw [List.length_erase_of_mem ha] at this
    have := List.length_pos_of_mem ha
    rw [List.length_cons]
    omega
theorem nms_six : ∀ f : Fm, f.good → ∀ x ∈ nms f, x ∈ six
  | .yes, _, x, hx => by cases hx
  | .mark m, g, x, hx => by
    have hx : x ∈ [m] := hx
    rw [List.mem_singleton] at hx
    subst hx
    have g : m_are_marks [x] = true := g.1
    rw [marks_one] at g
    exact of_decide_eq_true g
  | .un u a, g, x, hx => nms_six a g x hx
  | .bi u a b, g, x, hx => by
    rcases List.mem_append.mp (show x ∈ nms a ++ nms b from hx) with z | z
    · exact nms_six a g.1 x z
    · exact nms_six b g.2 x z
theorem nms_few {f : Fm} (g : f.good) : (uniq (nms f)).length ≤ 6 := nd_le (uniq_nd _) fun x hx => nms_six f g x ((uniq_mem _ _).mp hx)
theorem marks_ok2 {f : Fm} (hg : f.good) (hd : f.dp ≤ 24) (hw : f.wc ≤ 200) : s_marks_of f.sn ∧ m_marks_of f.sn = .ok (sortX (uniq (nms f))) := by
  obtain ⟨as, es⟩ := ask_sentence_ok hg hd hw
  obtain ⟨n1, n2⟩ := named_ok 30 f (by omega) (by omega)
  have ln := nms_wc f
  have em : List.map T2.a (List.map (fun (mark : Tx) => (⟨mark, true⟩ : (T2 Tx Bool))) (nms f)) = nms f := by rw [List.map_map]; exact List.map_id _
  unfold s_marks_of m_marks_of
  rw [n2, em, es]
  refine ⟨⟨as, fun _ _ => ⟨n1, sz_le (by omega), ?_, trivial⟩⟩, rfl⟩
  have := nms_few hg
  omega
/-! ### trees put otherwise -/
structure Pt (x : Sn) (k : Nat) : Prop where
  n : x.isN = true
  t : Sn.tame x
  h : Sn.ht x ≤ k
theorem tames_iff : ∀ {l : List Sn}, Sn.tames l ↔ ∀ a ∈ l, Sn.tame a
  | [] => by rw [tames_nil]; simp
  | a :: r => by rw [tames_cons, tames_iff (l := r)]; simp
theorem hts_iff {k : Nat} : ∀ {l : List Sn}, Sn.hts l ≤ k ↔ ∀ a ∈ l, Sn.ht a ≤ k
  | [] => by rw [hts_nil]; simp
  | a :: r => by
    rw [hts_cons]
    have := hts_iff (k := k) (l := r)
    simp only [List.mem_cons, forall_eq_or_imp, ← this]
    omega
theorem pt_n {l : List Sn} {k : Nat} (hl : l.length ≤ 1000) (h : ∀ a ∈ l, Sn.tame a ∧ Sn.ht a ≤ k) : Pt (.n l) (k + 1) :=
  ⟨rfl, by rw [tame_n]; exact ⟨hl, tames_iff.mpr fun a ha => (h a ha).1⟩, by rw [ht_n]; have := hts_iff.mpr fun a ha => (h a ha).2; omega⟩
theorem pt_x {t : Tx} (h : t.cs.length ≤ 1000) (k : Nat) : Sn.tame (.x t) ∧ Sn.ht (.x t) ≤ k := ⟨by rw [tame_x]; exact h, by rw [ht_x]; omega⟩
theorem Pt.up {x : Sn} {k m : Nat} (h : Pt x k) (hm : k ≤ m) : Pt x m := ⟨h.n, h.t, Nat.le_trans h.h hm⟩
theorem spoilt_step {fuel : Nat} {l : List Sn} {c : Int} {k : Nat} (h0 : 0 < l.length) (h3 : l.length ≤ 3) (hk : 1 ≤ k) (P : Pt (.n l) k) {pl : List Int} (hp : List.filter (fun (j : Int) => Sn.isN (ix l j)) (rng2 1 (MP.len l)) = pl)
    (hin : ∀ j ∈ pl, 1 ≤ j ∧ j < l.length ∧ s_law_spoilt_v2 fuel (ix l j) (Int.fdiv c 9) ∧ Pt (m_law_spoilt_v2 fuel (ix l j) (Int.fdiv c 9)) k) :
    s_law_spoilt_v2 (fuel + 1) (.n l) c ∧ Pt (m_law_spoilt_v2 (fuel + 1) (.n l) c) (k + 1) := by
  have e0 : Sn.its (.n l) = l := rfl
  have en : ∀ m : List Sn, Sn.its (.n m) = m := fun _ => rfl
  have hl : (MP.len l : Int) = l.length := rfl
  obtain ⟨at_, ea⟩ : ∃ at_, at_ = ix pl (Int.fmod (Int.fdiv c (3 : Int)) (MP.len pl)) := ⟨_, rfl⟩
  obtain ⟨odd, eo⟩ : ∃ odd : List Sn, odd = (([(Sn.n []), (Sn.n [(Sn.x (tx "yes")), (Sn.x (tx "yes"))]), (Sn.n [(Sn.x (tx "mark"))]), (Sn.n [(Sn.x (tx "mark")), (Sn.x (tx "g"))]), (Sn.n [(Sn.x (tx "mark")), (Sn.x (tx "ab"))]), (Sn.n [(Sn.x (tx "mark")), (Sn.n [(Sn.x (tx "yes"))])]), (Sn.n [(Sn.x (tx "not"))]), (Sn.n [(Sn.x (tx "not")), (Sn.x (tx "a"))])] : (List Sn)) ++ ([(Sn.n [(Sn.x (tx "and")), .n l]), (Sn.n [(Sn.x (tx "until")), .n l, .n l]), (Sn.n [(Sn.x (tx "some next")), .n l, .n l]), (Sn.n [(Sn.x (tx "Yes"))]), (Sn.n [(Sn.x (tx "mark")), (Sn.x (tx "f"))]), (Sn.n [.n l])] : (List Sn))) ++ ([(Sn.n [(Sn.x (tx "or")), .n l, .n l]), (Sn.n (l ++ [(Sn.n [(Sn.x (tx "yes"))])])), (Sn.n [(Sn.x (tx "mark")), (Sn.x (tx ""))]), (Sn.n [(Sn.x (tx "not")), .n l])] : (List Sn)) := ⟨_, rfl⟩
  have lo : odd.length = 18 := by rw [eo]; rfl
  have hy1 : Sn.tame (.n [.x (tx "yes")]) ∧ Sn.ht (.n [.x (tx "yes")]) ≤ k := by
    have := pt_n (l := [.x (tx "yes")]) (k := 0) (by simp) fun a ha => by rw [List.mem_singleton] at ha; subst ha; exact pt_x (by decide +kernel) 0
    exact ⟨this.t, Nat.le_trans this.h hk⟩
  have hodd : ∀ y ∈ odd, Pt y (k + 1) := fun y hy => by
    have hx := (⟨P.t, P.h⟩ : Sn.tame (.n l) ∧ Sn.ht (.n l) ≤ k)
    have q : ∀ s : String, (tx s).cs.length ≤ 1000 → Sn.tame (.x (tx s)) ∧ Sn.ht (.x (tx s)) ≤ k := fun s h => pt_x h k
    have o1 : ∀ {a : Sn}, Sn.tame a ∧ Sn.ht a ≤ k → Pt (.n [a]) (k + 1) := fun {a} h => pt_n (by simp) fun b hb => by rw [List.mem_singleton] at hb; subst hb; exact h
    have o2 : ∀ {a b : Sn}, Sn.tame a ∧ Sn.ht a ≤ k → Sn.tame b ∧ Sn.ht b ≤ k → Pt (.n [a, b]) (k + 1) := fun {a b} h1 h2 => pt_n (by simp) fun z hz => by
      simp only [List.mem_cons, List.not_mem_nil, or_false] at hz
      rcases hz with rfl | rfl
      · exact h1
      · exact h2
    have o3 : ∀ {a b d : Sn}, Sn.tame a ∧ Sn.ht a ≤ k → Sn.tame b ∧ Sn.ht b ≤ k → Sn.tame d ∧ Sn.ht d ≤ k → Pt (.n [a, b, d]) (k + 1) := fun {a b d} h1 h2 h4 => pt_n (by simp) fun z hz => by
      simp only [List.mem_cons, List.not_mem_nil, or_false] at hz
      rcases hz with rfl | rfl | rfl
      · exact h1
      · exact h2
      · exact h4
    rw [eo] at hy
    simp only [List.cons_append, List.nil_append, List.mem_cons, List.not_mem_nil, or_false] at hy
    rcases hy with rfl | rfl | rfl | rfl | rfl | rfl | rfl | rfl | rfl | rfl | rfl | rfl | rfl | rfl | rfl | rfl | rfl | rfl
    · exact pt_n (by simp) fun a ha => by cases ha
    · exact o2 (q _ (by decide +kernel)) (q _ (by decide +kernel))
    · exact o1 (q _ (by decide +kernel))
    · exact o2 (q _ (by decide +kernel)) (q _ (by decide +kernel))
    · exact o2 (q _ (by decide +kernel)) (q _ (by decide +kernel))
    · exact o2 (q _ (by decide +kernel)) hy1
    · exact o1 (q _ (by decide +kernel))
    · exact o2 (q _ (by decide +kernel)) (q _ (by decide +kernel))
    · exact o2 (q _ (by decide +kernel)) hx
    · exact o3 (q _ (by decide +kernel)) hx hx
    · exact o3 (q _ (by decide +kernel)) hx hx
    · exact o1 (q _ (by decide +kernel))
    · exact o2 (q _ (by decide +kernel)) (q _ (by decide +kernel))
    · exact o1 hx
    · exact o3 (q _ (by decide +kernel)) hx hx
    · refine pt_n (by simp; omega) fun a ha => ?_
      rcases List.mem_append.mp ha with ha | ha
      · have ht := P.t
        rw [tame_n] at ht
        have hh := P.h
        rw [ht_n] at hh
        have := ht_mem ha
        exact ⟨tame_mem ha ht.2, by omega⟩
      · rw [List.mem_singleton] at ha; subst ha; exact hy1
    · exact o2 (q _ (by decide +kernel)) (q _ (by decide +kernel))
    · exact o2 (q _ (by decide +kernel)) hx
  have m18 := Int.fmod_nonneg_of_pos (Int.fdiv c 3) (show (0 : Int) < 18 by decide)
  have m18' := Int.fmod_lt_of_pos (Int.fdiv c 3) (show (0 : Int) < 18 by decide)
  have hg : ((decide ((0 : Int) < MP.len pl)) && (decide ((0 : Int) < (Int.fmod c (3 : Int))))) = true → (MP.len pl ≠ 0) ∧ InR pl.length (Int.fmod (Int.fdiv c (3 : Int)) (MP.len pl)) ∧ at_ ∈ pl := fun z => by
    rw [Bool.and_eq_true] at z
    have z1 := of_decide_eq_true z.1
    have zl : (MP.len pl : Int) = pl.length := rfl
    have f1 := Int.fmod_nonneg_of_pos (Int.fdiv c 3) z1
    have f2 := Int.fmod_lt_of_pos (Int.fdiv c 3) z1
    exact ⟨by omega, inR f1 (by omega), by rw [ea]; exact ix_in f1 (by omega)⟩
  have es1 : ∀ j : Int, 1 ≤ j → j < l.length → ¬ (HT.sIx l.length 0 none = 0 ∧ HT.sIx l.length l.length (some j) = l.length) := fun j j1 j2 => by
    have : (l.length = 2 ∧ j = 1) ∨ (l.length = 3 ∧ j = 1) ∨ (l.length = 3 ∧ j = 2) := by omega
    rcases this with ⟨a, b⟩ | ⟨a, b⟩ | ⟨a, b⟩ <;> (rw [a, b]; decide)
  have es2 : ∀ j : Int, 1 ≤ j → j < l.length → ¬ (HT.sIx l.length 0 (some (j + (1 : Int))) = 0 ∧ HT.sIx l.length l.length none = l.length) := fun j j1 j2 => by
    have : (l.length = 2 ∧ j = 1) ∨ (l.length = 3 ∧ j = 1) ∨ (l.length = 3 ∧ j = 2) := by omega
    rcases this with ⟨a, b⟩ | ⟨a, b⟩ | ⟨a, b⟩ <;> (rw [a, b]; decide)
  have ec : ∀ j : Int, 1 ≤ j → j < l.length → cut l none (some j) = l.take j.toNat ∧ cut l (some (j + 1)) none = l.drop (j + 1).toNat := fun j j1 j2 => ⟨cut_to (by omega) (by omega), cut_from (by omega) (by omega)⟩
  constructor
  · simp only [s_law_spoilt_v2, en, lt_eq, hp, ← ea]
    refine ⟨rfl, rg2Ok (by decide) (by omega) (by decide) (by omega), fun _ _ => rfl, fun j hj => ?_, fun z => ?_, fun _ => ?_⟩
    · have := mem_rng2.mp hj
      exact inR (by omega) (by omega)
    · obtain ⟨z1, z2, z3⟩ := hg z
      obtain ⟨a1, a2, a3, a4⟩ := hin at_ z3
      obtain ⟨c1, c2⟩ := ec at_ a1 a2
      refine ⟨z1, z2, rfl, es1 _ a1 a2, rfl, inR (by omega) a2, a3, rfl, rfl, ?_, ?_, rfl, es2 _ a1 a2, rfl, rfl, ?_, ?_, trivial⟩
      · rw [c1, List.length_take]; omega
      · exact sz_le (by rw [c1, List.length_append, List.length_take]; simp; omega)
      · rw [List.length_append]; simp
      · exact sz_le (by rw [c1, c2, List.length_append, List.length_append, List.length_take, List.length_drop]; simp; omega)
    · refine ⟨sz_le (by simp), rfl, rfl, h0, sz_le (by simp; omega), sz_le (by simp), ?_, trivial⟩
      exact inR m18 (by rw [← eo, lo]; exact m18')
  · simp only [m_law_spoilt_v2, en, lt_eq, hp, ← ea]
    split
    · rename_i z
      obtain ⟨z1, z2, z3⟩ := hg z
      obtain ⟨a1, a2, a3, a4⟩ := hin at_ z3
      obtain ⟨c1, c2⟩ := ec at_ a1 a2
      rw [c1, c2]
      have ht := P.t
      rw [tame_n] at ht
      have hh := P.h
      rw [ht_n] at hh
      have old : ∀ a ∈ l, Sn.tame a ∧ Sn.ht a ≤ k := fun a ha => by
        have := ht_mem ha
        exact ⟨tame_mem ha ht.2, by omega⟩
      refine pt_n (by rw [List.length_append, List.length_append, List.length_take, List.length_drop]; simp; omega) fun a ha => ?_
      rcases List.mem_append.mp ha with ha | ha
      · rcases List.mem_append.mp ha with ha | ha
        · exact old a (List.mem_of_mem_take ha)
        · rw [List.mem_singleton] at ha; subst ha
          exact ⟨a4.t, a4.h⟩
      · exact old a (List.mem_of_mem_drop ha)
    · rw [← eo]
      exact hodd _ (ix_in m18 (by rw [lo]; exact m18'))
theorem pt_sn {f : Fm} (g : f.good) {k : Nat} (h : f.dp ≤ k) : Pt f.sn k := ⟨f.isN, tame_sn f g, ht_sn h⟩
theorem spoilt_ok : ∀ (fuel : Nat) (f : Fm) (c : Int), f.good → f.dp ≤ fuel → s_law_spoilt_v2 fuel f.sn c ∧ Pt (m_law_spoilt_v2 fuel f.sn c) (f.dp + 1)
  | 0, f, c, g, h => by cases f <;> (unfold Fm.dp at h; omega)
  | fuel + 1, f, c, g, h => by
    have P := pt_sn g (Nat.le_refl f.dp)
    have hk : 1 ≤ f.dp := by cases f <;> (unfold Fm.dp; omega)
    cases f with
    | yes => exact spoilt_step (l := [.x (tx "yes")]) (pl := []) (by simp) (by simp) hk P (by decide) fun j hj => by cases hj
    | mark m => exact spoilt_step (l := [.x (tx "mark"), .x m]) (pl := []) (by simp) (by simp) hk P rfl fun j hj => by cases hj
    | un u a =>
      have h : a.dp + 1 ≤ fuel + 1 := h
      obtain ⟨i1, i2⟩ := spoilt_ok fuel a (Int.fdiv c 9) g (by omega)
      have e : List.filter (fun (j : Int) => Sn.isN (ix ([.x u.w, a.sn] : List Sn) j)) (rng2 1 (MP.len ([.x u.w, a.sn] : List Sn))) = [1] := by
        have : rng2 1 (MP.len ([.x u.w, a.sn] : List Sn)) = [1] := rfl
        rw [this, List.filter_cons, ix_c1, if_pos a.isN]; rfl
      refine spoilt_step (l := [.x u.w, a.sn]) (by simp) (by simp) hk P e fun j hj => ?_
      rw [List.mem_singleton] at hj
      subst hj
      rw [ix_c1]
      exact ⟨by decide, by simp, i1, i2⟩
    | bi u a b =>
      have h : max a.dp b.dp + 1 ≤ fuel + 1 := h
      obtain ⟨i1, i2⟩ := spoilt_ok fuel a (Int.fdiv c 9) g.1 (by omega)
      obtain ⟨j1, j2⟩ := spoilt_ok fuel b (Int.fdiv c 9) g.2 (by omega)
      have ix2 : ix ([.x u.w, a.sn, b.sn] : List Sn) 2 = b.sn := by rw [ix_at (by decide) (by simp)]; rfl
      have e : List.filter (fun (j : Int) => Sn.isN (ix ([.x u.w, a.sn, b.sn] : List Sn) j)) (rng2 1 (MP.len ([.x u.w, a.sn, b.sn] : List Sn))) = [1, 2] := by
        have : rng2 1 (MP.len ([.x u.w, a.sn, b.sn] : List Sn)) = [1, 2] := rfl
        rw [this, List.filter_cons, ix_c1, if_pos a.isN, List.filter_cons, ix2, if_pos b.isN]; rfl
      refine spoilt_step (l := [.x u.w, a.sn, b.sn]) (by simp) (by simp) hk P e fun j hj => ?_
      simp only [List.mem_cons, List.not_mem_nil, or_false] at hj
      have ed : Fm.dp (.bi u a b) = max a.dp b.dp + 1 := rfl
      rcases hj with rfl | rfl
      · rw [ix_c1]
        exact ⟨by decide, by simp, i1, i2.up (by rw [ed]; omega)⟩
      · rw [ix2]
        exact ⟨by decide, by simp, j1, j2.up (by rw [ed]; omega)⟩
end Law

/-! Likeness: numbers round by round. -/
namespace Law
open PySem PySem.Spec PyProof.Rows L2 MP
open MP.Enc (enc)
/-- numbers by the first place of what is like -/
structure Kn (n : Nat) (l : List Int) : Prop where
  len : l.length = n
  le : ∀ r : Int, 0 ≤ r → r < n → 0 ≤ ix l r ∧ ix l r ≤ r
  id : ∀ r : Int, 0 ≤ r → r < n → ix l (ix l r) = ix l r
/-- each step has one to a like room -/
def Sk (w : W) (k : List Int) (a b : Int) : Prop := (∀ s ∈ ix w.c a, ∃ t ∈ ix w.c b, ix k s = ix k t) ∧ ∀ t ∈ ix w.c b, ∃ s ∈ ix w.c a, ix k s = ix k t
/-- rooms that go on alike -/
def Bis (w : W) (n : Nat) (owned : Bool) (R : Int → Int → Prop) : Prop := ∀ a b : Int, 0 ≤ a → a < n → 0 ≤ b → b < n → R a b → ix w.b a = ix w.b b ∧ (owned = true → ix w.a a = ix w.a b) ∧ (∀ s ∈ ix w.c a, ∃ t ∈ ix w.c b, R s t) ∧ ∀ t ∈ ix w.c b, ∃ s ∈ ix w.c a, R s t
/-- how many lists -/
def cls (n : Nat) (l : List Int) : Nat := ((rng (n : Int)).filter fun r => decide (ix l r = r)).length
section
variable {w : W} {n : Nat} (h : Wok w n)
include h
/-- the rounds -/
structure Rds (w : W) (n : Nat) (owned : Bool) (f : List (List Int)) : Prop where
  ne : f ≠ []
  first : ix f 0 = m_first_keys w owned
  next : ∀ i : Int, 0 ≤ i → i + 1 < f.length → ix f (i + 1) = m_finer_keys w (ix f i)
  kn : ∀ k ∈ f, Kn n k
  look : ∀ k ∈ f, ∀ a b : Int, 0 ≤ a → a < n → 0 ≤ b → b < n → ix k a = ix k b → ix w.b a = ix w.b b ∧ (owned = true → ix w.a a = ix w.a b)
  max : ∀ R, Bis w n owned R → ∀ k ∈ f, ∀ a b : Int, 0 ≤ a → a < n → 0 ≤ b → b < n → R a b → ix k a = ix k b
/-- the numbers that turn no more -/
structure Lik (w : W) (n : Nat) (owned : Bool) (k : List Int) : Prop where
  kn : Kn n k
  look : ∀ a b : Int, 0 ≤ a → a < n → 0 ≤ b → b < n → ix k a = ix k b → ix w.b a = ix w.b b ∧ (owned = true → ix w.a a = ix w.a b)
  st : ∀ a b : Int, 0 ≤ a → a < n → 0 ≤ b → b < n → ix k a = ix k b → Sk w k a b
  max : ∀ R, Bis w n owned R → ∀ a b : Int, 0 ≤ a → a < n → 0 ≤ b → b < n → R a b → ix k a = ix k b
/-- the lists of like rooms -/
def firstsL (n : Nat) (k : List Int) : List Int := (rng (n : Int)).filter fun r => decide (ix k r = r)
end
end Law

/-! The least world. -/
namespace Law
open PySem PySem.Spec PyProof.Rows L2 MP
open MP.Enc (enc)
/-- the least world: a room for each list -/
structure Lw (w : W) (n : Nat) (owned : Bool) (k : List Int) (v : W) (m : Nat) (pl : List Int) : Prop where
  wok : Wok v m
  len : pl.length = n
  mlen : m = (firstsL n k).length
  at_ : ∀ r : Int, 0 ≤ r → r < n → 0 ≤ ix pl r ∧ ix pl r < m
  fst : ∀ r : Int, 0 ≤ r → r < n → ix (firstsL n k) (ix pl r) = ix k r
  like : ∀ r s : Int, 0 ≤ r → r < n → 0 ≤ s → s < n → (ix pl r = ix pl s ↔ ix k r = ix k s)
  onto : ∀ j : Int, 0 ≤ j → j < m → (0 ≤ ix (firstsL n k) j ∧ ix (firstsL n k) j < n) ∧ ix pl (ix (firstsL n k) j) = j
  mks : ∀ r : Int, 0 ≤ r → r < n → ix v.b (ix pl r) = ix w.b r
  own : owned = true → ∀ r : Int, 0 ≤ r → r < n → ix v.a (ix pl r) = ix w.a r
  own0 : ∀ j : Int, 0 ≤ j → j < m → ix v.a j = ix w.a (ix (firstsL n k) j)
  st : ∀ r t : Int, 0 ≤ r → r < n → (t ∈ ix v.c (ix pl r) ↔ ∃ s ∈ ix w.c r, t = ix pl s)
  rows : ∀ j : Int, 0 ≤ j → j < m → ix v.c j = sortI (uniq ((ix w.c (ix (firstsL n k) j)).map fun s => ix pl s))
section
variable {w : W} {n : Nat} (h : Wok w n)
include h
end
end Law

/-! Worlds that are drawn with few marks. -/
namespace Law
open PySem PySem.Spec PyProof.Rows L2 MP
open MP.Enc (enc)
end Law

namespace Law
open PySem PySem.Spec PyProof.Rows L2 MP
open MP.Enc (enc)
theorem rep_hn (k : Nat) : (rep ([(Sn.n [(Sn.x (tx "mark")), (Sn.x (tx "f"))])] : (List Sn)) (k : Int)).map hn = List.replicate k (1, 1) := by
  have e : hn (Sn.n [(Sn.x (tx "mark")), (Sn.x (tx "f"))]) = (1, 1) := by
    unfold hn
    rw [ht_n, hts_cons, hts_cons, hts_nil, ht_x, ht_x, nn_n, nns_cons, nns_cons, nns_nil, nn_x, nn_x]
    rfl
  show ((List.replicate k [_]).flatten).map hn = _
  rw [List.map_flatten, List.map_replicate]
  show (List.replicate k [hn _]).flatten = _
  rw [e]
  induction k with
  | zero => rfl
  | succ k ih => rw [List.replicate_succ, List.flatten_cons, ih, List.replicate_succ]; rfl
theorem rep_pt (k : Nat) : ∀ y ∈ rep ([(Sn.n [(Sn.x (tx "mark")), (Sn.x (tx "f"))])] : (List Sn)) (k : Int), y.isN = true ∧ Sn.tame y := fun y hy => by
  unfold rep at hy
  rw [List.mem_flatten] at hy
  obtain ⟨l, hl, hy⟩ := hy
  have := List.eq_of_mem_replicate hl
  subst this
  rw [List.mem_singleton] at hy
  subst hy
  exact ⟨rfl, tm2 (by decide +kernel) (by rw [tame_x]; decide +kernel)⟩
theorem rep_ln (k : Nat) : (rep ([(Sn.n [(Sn.x (tx "mark")), (Sn.x (tx "f"))])] : (List Sn)) (k : Int)).length = k := by
  have := congrArg List.length (rep_hn k)
  rw [List.length_map, List.length_replicate] at this
  exact this
theorem words_ht {t : Sn → Int → Sn} {w : Tx} (hw : w.cs.length ≤ 1000) (ht : ∀ s k, t s k = .n [.x w, s]) : ∀ (l : List Int) (x : Sn) (k : Nat), Pt x k → Pt (l.foldl t x) (k + l.length)
  | [], x, k, h => h
  | j :: r, x, k, h => by
    rw [List.foldl_cons, ht]
    have := words_ht hw ht r (.n [.x w, x]) (k + 1) ⟨rfl, tm2 hw h.t, by rw [ht2]; have := h.h; omega⟩
    rw [List.length_cons]
    exact this.up (by omega)
theorem law_great_ok (c : Int) : s_law_great c ∧ Pt (m_law_great c) 30 := by
  have a3 := Int.fmod_nonneg_of_pos (Int.fdiv c 2) (show (0 : Int) < 3 by decide)
  have a3' := Int.fmod_lt_of_pos (Int.fdiv c 2) (show (0 : Int) < 3 by decide)
  have b3 := Int.fmod_nonneg_of_pos (Int.fdiv c 6) (show (0 : Int) < 3 by decide)
  have b3' := Int.fmod_lt_of_pos (Int.fdiv c 6) (show (0 : Int) < 3 by decide)
  have a4 := Int.fmod_nonneg_of_pos (Int.fdiv c 2) (show (0 : Int) < 4 by decide)
  have a4' := Int.fmod_lt_of_pos (Int.fdiv c 2) (show (0 : Int) < 4 by decide)
  obtain ⟨j, hj⟩ : ∃ j : Nat, Int.fmod (Int.fdiv c 2) 3 = j := ⟨_, (Int.toNat_of_nonneg a3).symm⟩
  have en : (99 : Int) + (Int.fmod (Int.fdiv c (2 : Int)) (3 : Int)) = ((98 + j + 1 : Nat) : Int) := by omega
  have j2 : j ≤ 2 := by omega
  obtain ⟨w1, x, w2, w3, w4, w5⟩ := join_ok (c := c_law_great_1) (f := t_law_great_1) (v := v_law_great_1) (u := u_law_great_1) (w := tx "and") (by decide +kernel) (fun _ => rfl) (fun _ => rfl) (fun _ => trivial) (fun s a b d => ⟨a, b, d, trivial⟩) (row := rep ([(Sn.n [(Sn.x (tx "mark")), (Sn.x (tx "f"))])] : (List Sn)) ((98 + j + 1 : Nat) : Int)) (N := 98 + j) (rep_ln _) (by omega) (rep_pt _)
  have hx : Sn.ht x ≤ 8 := by
    rw [rep_hn] at w5
    have : ∀ i : Fin 3, (itn stp (98 + i.val) (List.replicate (98 + i.val + 1) (1, 1))).all (fun p => decide (p.1 ≤ 8)) = true := by decide +kernel
    have := this ⟨j, by omega⟩
    rw [← w5, List.all_cons, Bool.and_eq_true] at this
    exact of_decide_eq_true this.1
  have lr : ∀ k : Int, 0 ≤ k → ((rng k).length : Int) = k := fun k hk => by
    obtain ⟨m, rfl⟩ : ∃ m : Nat, k = m := ⟨k.toNat, by omega⟩
    unfold rng rangeI; simp
  constructor
  · unfold s_law_great
    simp only [lt_eq, en, w2]
    refine ⟨fun _ => ⟨⟨by omega, by omega, by simp; omega⟩, w1, inR (by decide) (by simp), rgOk b3 (by omega), foldS_inv (fun _ => True) trivial fun _ _ _ _ => ⟨trivial, trivial⟩, trivial⟩, fun _ => ⟨rgOk (by omega) (by omega), foldS_inv (fun _ => True) trivial fun _ _ _ _ => ⟨trivial, trivial⟩, trivial⟩⟩
  · unfold m_law_great
    simp only [lt_eq, en, w2, ix_c0]
    split
    · have h := words_ht (t := t_law_great_2) (w := tx "not") (by decide +kernel) (fun _ _ => rfl) (rng (Int.fmod (Int.fdiv c (6 : Int)) (3 : Int))) x 8 ⟨w3, w4, hx⟩
      have := lr _ b3
      exact h.up (by omega)
    · have h := words_ht (t := t_law_great_3) (w := tx "some next") (by decide +kernel) (fun _ _ => rfl) (rng ((22 : Int) + (Int.fmod (Int.fdiv c (2 : Int)) (4 : Int)))) (Sn.n [(Sn.x (tx "yes"))]) 1 ⟨rfl, tm1 (by decide +kernel), by rw [ht_n, hts_cons, hts_nil, ht_x]; omega⟩
      have := lr ((22 : Int) + (Int.fmod (Int.fdiv c (2 : Int)) (4 : Int))) (by omega)
      exact h.up (by omega)
theorem law_k11_ok (sc : Sc) : s_law_k11 sc ∧ m_law_k11 sc = true := by
  have m14 := Int.fmod_nonneg_of_pos (m_law_cell_at sc 0) (show (0 : Int) < 14 by decide)
  have m14' := Int.fmod_lt_of_pos (m_law_cell_at sc 0) (show (0 : Int) < 14 by decide)
  obtain ⟨i, hi⟩ : ∃ i : Nat, (m_law_cell_at sc 0).fmod 14 = i := ⟨_, (Int.toNat_of_nonneg m14).symm⟩
  obtain ⟨s1, a, ea, ga, da⟩ := law_sentence_ok sc (at_ := 3) (by decide) (m := i) (by omega)
  obtain ⟨c1, c2⟩ := law_count_ok a 30 (by omega)
  obtain ⟨b, eb, gb, db⟩ : ∃ b : Fm, b.sn = (if (decide ((120 : Int) < (a.wc : Int))) = true then (Sn.n [(Sn.x (tx "not")), (Sn.n [(Sn.x (tx "mark")), (Sn.x (tx "f"))])]) else a.sn) ∧ b.good ∧ b.dp ≤ 14 := by
    by_cases q : (120 : Int) < (a.wc : Int)
    · refine ⟨.un .not (.mark (tx "f")), by rw [if_pos (decide_eq_true q)]; rfl, ?_, by simp [Fm.dp]⟩
      exact len1 (by rw [marks_one]; decide +kernel)
    · exact ⟨a, by rw [if_neg (by simpa using q)], ga, by omega⟩
  obtain ⟨p1, p2⟩ := spoilt_ok 30 b (Int.fmod (m_law_cell_at sc (2 : Int)) (1000000000000 : Int)) gb (by omega)
  obtain ⟨j2, e2⟩ : ∃ j2, j2 = (if (decide ((Int.fmod (m_law_cell_at sc (1 : Int)) (2 : Int)) = (1 : Int))) = true then m_law_spoilt_v2 30 b.sn (Int.fmod (m_law_cell_at sc (2 : Int)) (1000000000000 : Int)) else b.sn) := ⟨_, rfl⟩
  have P2 : Pt j2 30 := by
    rw [e2]
    split
    · exact p2.up (by omega)
    · exact pt_sn gb (by omega)
  obtain ⟨g1, g2⟩ := law_great_ok (m_law_cell_at sc 2)
  obtain ⟨x, ex⟩ : ∃ x, x = (if (decide ((Int.fmod (Int.fdiv (m_law_cell_at sc (1 : Int)) (2 : Int)) (8 : Int)) = (1 : Int))) = true then m_law_great (m_law_cell_at sc (2 : Int)) else j2) := ⟨_, rfl⟩
  have P : Pt x 30 := by
    rw [ex]
    split
    · exact g2
    · exact P2
  obtain ⟨q1, q2⟩ := good_any 30 x P.n P.t P.h (by have := P.h; omega)
  obtain ⟨i1, i2⟩ := is_sentence_any P.n P.t P.h
  have key : m_well_made 30 x = true → ∃ f : Fm, f.good ∧ f.sn = x ∧ f.dp ≤ 30 := fun z => by
    obtain ⟨f, g1, g2⟩ := wm_sound 30 x P.n z
    have := (dp_ht f).1
    rw [g2] at this
    exact ⟨f, g1, g2, by have := P.h; omega⟩
  have sc1 : m_law_good_v2 30 x = true → s_law_count 30 x := fun z => by
    rw [q2] at z
    obtain ⟨f, _, e, d⟩ := key z
    rw [← e]; exact (law_count_ok f 30 d).1
  have sd1 : m_law_good_v2 30 x = true → s_law_deep 30 x := fun z => by
    rw [q2] at z
    obtain ⟨f, _, e, d⟩ := key z
    rw [← e]; exact (law_deep_ok f 30 d).1
  have due : ((m_law_good_v2 30 x) && ((decide ((m_law_count 30 x) ≤ (200 : Int))) && (decide ((m_law_deep 30 x) ≤ (24 : Int))))) = m_is_sentence x := by
    unfold m_is_sentence
    rw [q2]
    by_cases z : m_well_made 30 x = true
    · obtain ⟨f, _, e, d⟩ := key z
      obtain ⟨⟨_, k1⟩, _, k2⟩ := count_deep_ok f 30 d
      rw [← e, (law_count_ok f 30 d).2, (law_deep_ok f 30 d).2, k1, k2]
    · rw [Bool.not_eq_true] at z
      rw [z, Bool.false_and, Bool.false_and]
  have Y : m_is_sentence x = true → (s_words x ∧ isOk (m_words x) ∧ s_depth x ∧ isOk (m_depth x) ∧ okv (m_words x) = m_law_count 30 x ∧ okv (m_depth x) = m_law_deep 30 x) ∧ (∀ k : Int, u_law_k11_1 x () k ∧ t_law_k11_1 x () k = .nx ()) ∧ s_law_count 30 x ∧ s_law_deep 30 x := fun z => by
    obtain ⟨f, fg, e, fw, fd⟩ := i2.mp z
    subst e
    obtain ⟨as, es⟩ := ask_sentence_ok fg fd fw
    obtain ⟨⟨k1, k2⟩, k3, k4⟩ := count_deep_ok f 30 (by omega)
    obtain ⟨l1, l2⟩ := law_count_ok f 30 (by omega)
    obtain ⟨d1, d2⟩ := law_deep_ok f 30 (by omega)
    have mw : m_words f.sn = .ok (m_count 30 f.sn) := by unfold m_words; rw [es]; rfl
    have md : m_depth f.sn = .ok (m_deep 30 f.sn) := by unfold m_depth; rw [es]; rfl
    obtain ⟨n1, n2⟩ := law_named_ok 30 f (by omega) (by omega)
    obtain ⟨r1, r2⟩ := marks_ok2 fg fd fw
    have nw := nms_wc f
    have nf := nms_few fg
    refine ⟨⟨⟨as, fun _ _ => ⟨k1, trivial⟩⟩, ⟨_, mw⟩, ⟨as, fun _ _ => ⟨k3, trivial⟩⟩, ⟨_, md⟩, ?_, ?_⟩, fun k => ⟨?_, ?_⟩, l1, d1⟩
    · rw [mw, l2, ← k2]; rfl
    · rw [md, d2, ← k4]; rfl
    · unfold u_law_k11_1
      simp only [lt_eq, n2, r2]
      refine ⟨r1, ⟨_, rfl⟩, fun _ => n1, fun _ => ⟨by omega, by omega⟩, fun _ => ⟨?_, trivial⟩⟩
      show (sortX (uniq (nms f))).length < 16777216
      have := (sortX_perm (uniq (nms f))).length_eq
      omega
    · unfold t_law_k11_1
      simp only [lt_eq, n2, r2]
      have : (okv (.ok (sortX (uniq (nms f))) : Except PySem.Str (List Tx))) = sortX (uniq (nms f)) := rfl
      rw [this, if_neg (by simp)]
  constructor
  · unfold s_law_k11
    simp only [lt_eq, hi, ea, c2, ← eb, ← e2, ← ex, due]
    refine ⟨s_cell (by decide), s1, c1, s_cell (by decide), fun _ => ⟨s_cell (by decide), by decide, p1, trivial⟩, s_cell (by decide), fun _ => ⟨s_cell (by decide), g1, trivial⟩, q1, sc1, fun z _ => sd1 z, i1, fun _ z => ?_⟩
    have z : m_is_sentence x = true := by simpa using z
    obtain ⟨⟨y1, y2, y3, y4, y5, y6⟩, y7, y8, y9⟩ := Y z
    refine ⟨y1, y2, y3, y4, in0 _ _, trivial, fun _ => in1 _ _ _, fun _ => trivial, fun _ _ => y8, fun _ _ => y9, fun _ => ⟨rgOk (by decide) (by decide), foldOS_unit fun k _ => (y7 k).1, trivial⟩⟩
  · unfold m_law_k11
    simp only [lt_eq, hi, ea, c2, ← eb, ← e2, ← ex, due]
    rw [if_neg (by simp)]
    by_cases z : m_is_sentence x = true
    case neg => rw [if_pos (by simpa using z)]
    case pos =>
      obtain ⟨⟨y1, y2, y3, y4, y5, y6⟩, y7, y8, y9⟩ := Y z
      rw [if_neg (by rw [z]; decide), y5, y6, if_neg (by simp [m_law_whole])]
      have e12 : rng 2 = [0, 1] := rfl
      rw [e12, foldO, (y7 0).2]
      show (foldO (t_law_k11_1 x) [1] ()).then _ _ = true
      rw [foldO, (y7 1).2]
      rfl
end Law

namespace Law
open PySem PySem.Spec PyProof.Rows L2 MP
open MP.Enc (enc)
def b_rises_0 : List S := [.ife (.cmp .ge (.ix (.var 0) (.bin .sub (.var 1) (.lit (.int (1))))) (.ix (.var 0) (.var 1))) [.ret (.lit (.bool false))] []]
def d_rises : Def := ⟨"rises", ["some"], ["some", "k"], [.for_ (.one 1) (.range2 (.lit (.int (1))) (.bi .len (.cons (.var 0) .nil))) b_rises_0 [1] false, .ret (.lit (.bool true))]⟩
def d_are_marks : Def := ⟨"are_marks", ["marks"], ["marks", "mark"], [.ret (.land (.bi .all (.cons (.comp (.land (.cmp .eq (.bi .len (.cons (.var 1) .nil)) (.lit (.int (1)))) (.cmp .isin (.var 1) (.glob "LETTERS" c_LETTERS))) (.one 1) (.seq (.var 0)) (.lit (.bool true)) [1]) .nil)) (.call 0 (.cons (.var 0) .nil)))]⟩
def d_parts_of : Def := ⟨"parts_of", ["sentence"], ["sentence"], [.ife (.cmp .eq (.ix (.var 0) (.lit (.int (0)))) (.lit (.str "mark"))) [.ret (.list .nil)] [], .ret (.bi .listOf (.cons (.sl (.var 0) (.lit (.int (1))) (.lit .none)) .nil))]⟩
def d_well_made : Def := ⟨"well_made", ["some"], ["some", "piece"], [.ife (.lor (.cmp .eq (.bi .len (.cons (.var 0) .nil)) (.lit (.int (0)))) (.lnot (.bi (.isinst "str") (.cons (.ix (.var 0) (.lit (.int (0)))) .nil)))) [.ret (.lit (.bool false))] [], .ife (.cmp .eq (.ix (.var 0) (.lit (.int (0)))) (.lit (.str "mark"))) [.ret (.land (.cmp .eq (.bi .len (.cons (.var 0) .nil)) (.lit (.int (2)))) (.land (.bi (.isinst "str") (.cons (.ix (.var 0) (.lit (.int (1)))) .nil)) (.call 1 (.cons (.list (.cons (.ix (.var 0) (.lit (.int (1)))) .nil)) .nil))))] [], .ife (.lor (.bi (.tabIn true "PARTS" (tab_PARTS.map fun p => p.1.str) (tab_PARTS.map fun p => p.2)) (.cons (.ix (.var 0) (.lit (.int (0)))) .nil)) (.cmp .ne (.bi .len (.cons (.var 0) .nil)) (.bin .add (.bi (.tabGet "PARTS" (tab_PARTS.map fun p => p.1.str) (tab_PARTS.map fun p => p.2)) (.cons (.ix (.var 0) (.lit (.int (0)))) .nil)) (.lit (.int (1)))))) [.ret (.lit (.bool false))] [], .ret (.bi .all (.cons (.comp (.land (.bi (.isinst "tuple") (.cons (.var 1) .nil)) (.call 3 (.cons (.var 1) .nil))) (.one 1) (.seq (.sl (.var 0) (.lit (.int (1))) (.lit .none))) (.lit (.bool true)) [1]) .nil))]⟩
def d_count : Def := ⟨"count", ["sentence"], ["sentence", "piece"], [.ret (.bin .add (.lit (.int (1))) (.bi .sum (.cons (.comp (.call 4 (.cons (.var 1) .nil)) (.one 1) (.seq (.call 2 (.cons (.var 0) .nil))) (.lit (.bool true)) [1]) .nil)))]⟩
def d_deep : Def := ⟨"deep", ["sentence"], ["sentence", "piece"], [.ret (.bin .add (.lit (.int (1))) (.bi .maxD0 (.cons (.comp (.call 5 (.cons (.var 1) .nil)) (.one 1) (.seq (.call 2 (.cons (.var 0) .nil))) (.lit (.bool true)) [1]) .nil)))]⟩
def d_is_sentence : Def := ⟨"is_sentence", ["some"], ["some"], [.ret (.land (.call 3 (.cons (.var 0) .nil)) (.land (.cmp .le (.call 4 (.cons (.var 0) .nil)) (.glob "MOST_WORDS" c_MOST_WORDS)) (.cmp .le (.call 5 (.cons (.var 0) .nil)) (.glob "MOST_DEEP" c_MOST_DEEP))))]⟩
def d_ask_sentence : Def := ⟨"ask_sentence", ["sentence"], ["sentence"], [.ife (.lnot (.call 6 (.cons (.var 0) .nil))) [.raise "NoSentence"] []]⟩
def d_words : Def := ⟨"words", ["sentence"], ["sentence"], [.expr (.call 7 (.cons (.var 0) .nil)), .ret (.call 4 (.cons (.var 0) .nil))]⟩
def d_depth : Def := ⟨"depth", ["sentence"], ["sentence"], [.expr (.call 7 (.cons (.var 0) .nil)), .ret (.call 5 (.cons (.var 0) .nil))]⟩
def b_named_0 : List S := [.expr (.mt .extend (.var 1) (.cons (.call 10 (.cons (.var 2) .nil)) .nil))]
def d_named : Def := ⟨"named", ["sentence"], ["sentence", "found", "piece"], [.ife (.cmp .eq (.ix (.var 0) (.lit (.int (0)))) (.lit (.str "mark"))) [.ret (.list (.cons (.ix (.var 0) (.lit (.int (1)))) .nil))] [], .set 1 (.cell (.list .nil)), .for_ (.one 2) (.seq (.call 2 (.cons (.var 0) .nil))) b_named_0 [2] false, .ret (.var 1)]⟩
def d_marks_of : Def := ⟨"marks_of", ["sentence"], ["sentence", "mark"], [.expr (.call 7 (.cons (.var 0) .nil)), .ret (.cell (.bi .dkX (.cons (.comp (.tup (.cons (.var 1) (.cons (.lit (.bool true)) .nil))) (.one 1) (.seq (.call 10 (.cons (.var 0) .nil))) (.lit (.bool true)) [1]) .nil)))]⟩
def d__law_cell_at : Def := ⟨"_law_cell_at", ["script", "k"], ["script", "k"], [.ife (.cmp .lt (.var 1) (.bi .len (.cons (.var 0) .nil))) [.ret (.ix (.var 0) (.var 1))] [], .ret (.lit (.int (0)))]⟩
def d__law_whole : Def := ⟨"_law_whole", ["found"], ["found"], [.ret (.land (.bi (.isinst "int") (.cons (.var 0) .nil)) (.lnot (.bi (.isinst "bool") (.cons (.var 0) .nil))))]⟩
def b__law_draw_0 : List S := [.set 4 (.bin .fdiv (.var 4) (.var 2))]
def d__law_draw : Def := ⟨"_law_draw", ["cell", "k", "bound"], ["cell", "k", "bound", "stir", "left", "j"], [.ife (.cmp .ge (.var 0) (.bin .pow (.lit (.int (10))) (.lit (.int (18))))) [.set 4 (.var 0), .for_ (.one 5) (.range1 (.var 1)) b__law_draw_0 [5] false, .ret (.bin .mod (.var 4) (.var 2))] [], .set 3 (.bin .mod (.bin .mul (.bin .add (.bin .add (.bin .mod (.var 0) (.lit (.int (1000000007)))) (.bin .mul (.lit (.int (1009))) (.var 1))) (.lit (.int (17)))) (.lit (.int (69621)))) (.lit (.int (2147483647)))), .set 3 (.bin .mod (.bin .add (.bin .add (.bin .mul (.var 3) (.var 3)) (.bin .mul (.lit (.int (40503))) (.var 1))) (.lit (.int (5)))) (.lit (.int (2147483629)))), .ret (.bin .mod (.bin .fdiv (.bin .mod (.bin .mul (.var 3) (.lit (.int (48271)))) (.lit (.int (2147483647)))) (.lit (.int (32)))) (.var 2))]⟩
def b__law_sentence_0 : List S := [.set 6 (.call 12 (.cons (.var 0) (.cons (.bin .add (.var 1) (.var 5)) .nil))), .set 7 (.ix (.var 3) (.call 14 (.cons (.var 6) (.cons (.lit (.int (0))) (.cons (.lit (.int (12))) .nil))))), .set 8 (.ix (.var 4) (.bin .sub (.lit (.int (-1))) (.bin .mod (.call 14 (.cons (.var 6) (.cons (.lit (.int (1))) (.cons (.lit (.int (2))) .nil)))) (.bi .len (.cons (.var 4) .nil))))), .set 9 (.ix (.var 4) (.bin .mod (.call 14 (.cons (.var 6) (.cons (.lit (.int (2))) (.cons (.lit (.int (60))) .nil)))) (.bi .len (.cons (.var 4) .nil)))), .ife (.cmp .eq (.var 7) (.lit (.str "yes"))) [.expr (.mt .append (.var 4) (.cons (.tup (.cons (.lit (.str "yes")) .nil)) .nil))] [.ife (.cmp .eq (.var 7) (.lit (.str "mark"))) [.expr (.mt .append (.var 4) (.cons (.tup (.cons (.lit (.str "mark")) (.cons (.ix (.lit (.str "abc")) (.call 14 (.cons (.var 6) (.cons (.lit (.int (3))) (.cons (.lit (.int (3))) .nil))))) .nil))) .nil))] [.ife (.cmp .isin (.var 7) (.tup (.cons (.lit (.str "and")) (.cons (.lit (.str "or")) (.cons (.lit (.str "some until")) (.cons (.lit (.str "all until")) .nil)))))) [.expr (.mt .append (.var 4) (.cons (.tup (.cons (.var 7) (.cons (.var 9) (.cons (.var 8) .nil)))) .nil))] [.expr (.mt .append (.var 4) (.cons (.tup (.cons (.var 7) (.cons (.var 8) .nil))) .nil))]]]]
def d__law_sentence : Def := ⟨"_law_sentence", ["script", "at", "many"], ["script", "at", "many", "kinds", "made", "k", "cell", "kind", "one", "other"], [.set 3 (.list (.cons (.lit (.str "mark")) (.cons (.lit (.str "mark")) (.cons (.lit (.str "not")) (.cons (.lit (.str "and")) (.cons (.lit (.str "some until")) (.cons (.lit (.str "all until")) (.cons (.lit (.str "some next")) (.cons (.lit (.str "all next")) (.cons (.lit (.str "some always")) .nil)))))))))), .set 3 (.bin .add (.var 3) (.list (.cons (.lit (.str "all always")) (.cons (.lit (.str "or")) (.cons (.lit (.str "yes")) .nil))))), .set 4 (.cell (.list (.cons (.tup (.cons (.lit (.str "mark")) (.cons (.ix (.lit (.str "abc")) (.call 14 (.cons (.call 12 (.cons (.var 0) (.cons (.var 1) .nil))) (.cons (.lit (.int (3))) (.cons (.lit (.int (3))) .nil))))) .nil))) .nil))), .for_ (.one 5) (.range2 (.lit (.int (1))) (.var 2)) b__law_sentence_0 [5, 6, 7, 8, 9] false, .ret (.ix (.var 4) (.lit (.int (-1))))]⟩
def d__law_count : Def := ⟨"_law_count", ["sentence"], ["sentence", "piece"], [.ret (.bin .add (.lit (.int (1))) (.bi .sum (.cons (.comp (.call 16 (.cons (.var 1) .nil)) (.one 1) (.seq (.sl (.var 0) (.lit (.int (1))) (.lit .none))) (.bi (.isinst "tuple") (.cons (.var 1) .nil)) [1]) .nil)))]⟩
def b__law_good_0 : List S := [.dput (.var 1) (.var 2) (.lit (.int (2)))]
def d__law_good : Def := ⟨"_law_good", ["some"], ["some", "wants", "word", "piece"], [.set 1 (.bi (.dlitX ["yes", "mark", "not", "some next", "all next", "some always", "all always"] [0, 0, 1, 1, 1, 1, 1]) .nil), .for_ (.one 2) (.seq (.tup (.cons (.lit (.str "and")) (.cons (.lit (.str "or")) (.cons (.lit (.str "some until")) (.cons (.lit (.str "all until")) .nil)))))) b__law_good_0 [2] false, .ife (.lor (.cmp .eq (.var 0) (.tup .nil)) (.lor (.lnot (.bi (.isinst "str") (.cons (.ix (.var 0) (.lit (.int (0)))) .nil))) (.bi (.dhas true) (.cons (.ix (.var 0) (.lit (.int (0)))) (.cons (.var 1) .nil))))) [.ret (.lit (.bool false))] [], .ife (.cmp .eq (.ix (.var 0) (.lit (.int (0)))) (.lit (.str "mark"))) [.ret (.land (.cmp .eq (.bi .len (.cons (.var 0) .nil)) (.lit (.int (2)))) (.land (.bi (.isinst "str") (.cons (.ix (.var 0) (.lit (.int (1)))) .nil)) (.cmp .isin (.ix (.var 0) (.lit (.int (1)))) (.list (.cons (.lit (.str "a")) (.cons (.lit (.str "b")) (.cons (.lit (.str "c")) (.cons (.lit (.str "d")) (.cons (.lit (.str "e")) (.cons (.lit (.str "f")) .nil))))))))))] [], .ife (.cmp .ne (.bi .len (.cons (.var 0) .nil)) (.bin .add (.bi .dget (.cons (.var 1) (.cons (.ix (.var 0) (.lit (.int (0)))) .nil))) (.lit (.int (1))))) [.ret (.lit (.bool false))] [], .ret (.bi .all (.cons (.comp (.land (.bi (.isinst "tuple") (.cons (.var 3) .nil)) (.call 17 (.cons (.var 3) .nil))) (.one 3) (.seq (.sl (.var 0) (.lit (.int (1))) (.lit .none))) (.lit (.bool true)) [3]) .nil))]⟩
def d__law_deep : Def := ⟨"_law_deep", ["some"], ["some", "piece"], [.ret (.bin .add (.lit (.int (1))) (.bi .maxD0 (.cons (.comp (.call 18 (.cons (.var 1) .nil)) (.one 1) (.seq (.sl (.var 0) (.lit (.int (1))) (.lit .none))) (.bi (.isinst "tuple") (.cons (.var 1) .nil)) [1]) .nil)))]⟩
def b__law_named_0 : List S := [.set 1 (.bin .add (.var 1) (.call 19 (.cons (.var 2) .nil)))]
def d__law_named : Def := ⟨"_law_named", ["some"], ["some", "found", "piece"], [.ife (.cmp .eq (.ix (.var 0) (.lit (.int (0)))) (.lit (.str "mark"))) [.ret (.list (.cons (.ix (.var 0) (.lit (.int (1)))) .nil))] [], .set 1 (.list .nil), .for_ (.one 2) (.seq (.sl (.var 0) (.lit (.int (1))) (.lit .none))) b__law_named_0 [2] false, .ret (.var 1)]⟩
def d__law_spoilt : Def := ⟨"_law_spoilt", ["some", "cell"], ["some", "cell", "places", "odd", "at", "k"], [.set 2 (.comp (.var 5) (.one 5) (.range2 (.lit (.int (1))) (.bi .len (.cons (.var 0) .nil))) (.bi (.isinst "tuple") (.cons (.ix (.var 0) (.var 5)) .nil)) [5]), .ife (.land (.cmp .gt (.bi .len (.cons (.var 2) .nil)) (.lit (.int (0)))) (.cmp .gt (.bin .mod (.var 1) (.lit (.int (3)))) (.lit (.int (0))))) [.set 4 (.ix (.var 2) (.bin .mod (.bin .fdiv (.var 1) (.lit (.int (3)))) (.bi .len (.cons (.var 2) .nil)))), .ret (.bin .add (.bin .add (.sl (.var 0) (.lit .none) (.var 4)) (.tup (.cons (.call 20 (.cons (.ix (.var 0) (.var 4)) (.cons (.bin .fdiv (.var 1) (.lit (.int (9)))) .nil))) .nil))) (.sl (.var 0) (.bin .add (.var 4) (.lit (.int (1)))) (.lit .none)))] [], .set 3 (.list (.cons (.tup .nil) (.cons (.tup (.cons (.lit (.str "yes")) (.cons (.lit (.str "yes")) .nil))) (.cons (.tup (.cons (.lit (.str "mark")) .nil)) (.cons (.tup (.cons (.lit (.str "mark")) (.cons (.lit (.str "g")) .nil))) (.cons (.tup (.cons (.lit (.str "mark")) (.cons (.lit (.str "ab")) .nil))) (.cons (.tup (.cons (.lit (.str "mark")) (.cons (.tup (.cons (.lit (.str "yes")) .nil)) .nil))) (.cons (.tup (.cons (.lit (.str "not")) .nil)) (.cons (.tup (.cons (.lit (.str "not")) (.cons (.lit (.str "a")) .nil))) .nil))))))))), .set 3 (.bin .add (.var 3) (.list (.cons (.tup (.cons (.lit (.str "and")) (.cons (.var 0) .nil))) (.cons (.tup (.cons (.lit (.str "until")) (.cons (.var 0) (.cons (.var 0) .nil)))) (.cons (.tup (.cons (.lit (.str "some next")) (.cons (.var 0) (.cons (.var 0) .nil)))) (.cons (.tup (.cons (.lit (.str "Yes")) .nil)) (.cons (.tup (.cons (.lit (.str "mark")) (.cons (.lit (.str "f")) .nil))) (.cons (.tup (.cons (.var 0) .nil)) .nil)))))))), .set 3 (.bin .add (.var 3) (.list (.cons (.tup (.cons (.lit (.str "or")) (.cons (.var 0) (.cons (.var 0) .nil)))) (.cons (.bin .add (.var 0) (.tup (.cons (.tup (.cons (.lit (.str "yes")) .nil)) .nil))) (.cons (.tup (.cons (.lit (.str "mark")) (.cons (.lit (.str "")) .nil))) (.cons (.tup (.cons (.lit (.str "not")) (.cons (.var 0) .nil))) .nil)))))), .ret (.ix (.var 3) (.bin .mod (.bin .fdiv (.var 1) (.lit (.int (3)))) (.lit (.int (18)))))]⟩
def b__law_great_0 : List S := [.set 3 (.bin .add (.sl (.var 3) (.lit (.int (2))) (.lit .none)) (.list (.cons (.tup (.cons (.lit (.str "and")) (.cons (.ix (.var 3) (.lit (.int (0)))) (.cons (.ix (.var 3) (.lit (.int (1)))) .nil)))) .nil)))]
def b__law_great_1 : List S := [.set 1 (.tup (.cons (.lit (.str "not")) (.cons (.var 1) .nil)))]
def b__law_great_2 : List S := [.set 1 (.tup (.cons (.lit (.str "some next")) (.cons (.var 1) .nil)))]
def d__law_great : Def := ⟨"_law_great", ["cell"], ["cell", "some", "k", "row"], [.ife (.cmp .eq (.bin .mod (.var 0) (.lit (.int (2)))) (.lit (.int (0)))) [.set 3 (.bin .mul (.list (.cons (.tup (.cons (.lit (.str "mark")) (.cons (.lit (.str "f")) .nil))) .nil)) (.bin .add (.lit (.int (99))) (.bin .mod (.bin .fdiv (.var 0) (.lit (.int (2)))) (.lit (.int (3)))))), .while_ (.cmp .gt (.bi .len (.cons (.var 3) .nil)) (.lit (.int (1)))) b__law_great_0 [] false, .set 1 (.ix (.var 3) (.lit (.int (0)))), .for_ (.one 2) (.range1 (.bin .mod (.bin .fdiv (.var 0) (.lit (.int (6)))) (.lit (.int (3))))) b__law_great_1 [] false, .ret (.var 1)] [], .set 1 (.tup (.cons (.lit (.str "yes")) .nil)), .for_ (.one 2) (.range1 (.bin .add (.lit (.int (22))) (.bin .mod (.bin .fdiv (.var 0) (.lit (.int (2)))) (.lit (.int (4)))))) b__law_great_2 [] false, .ret (.var 1)]⟩
def b_law_0 : List S := [.set 6 (.callC 11 (.cons (.var 1) .nil)), .ife (.lor (.lnot (.bi (.isinst "list") (.cons (.var 6) .nil))) (.cmp .ne (.var 6) (.bi .setX (.cons (.call 19 (.cons (.var 1) .nil)) .nil)))) [.ret (.lit (.bool false))] [], .expr (.mt .append (.var 6) (.cons (.lit (.str "z")) .nil))]
def d_law : Def := ⟨"law", ["script"], ["script", "some", "due", "found", "told", "turn", "letters"], [.set 1 (.call 15 (.cons (.var 0) (.cons (.lit (.int (3))) (.cons (.bin .add (.lit (.int (1))) (.bin .mod (.call 12 (.cons (.var 0) (.cons (.lit (.int (0))) .nil))) (.lit (.int (14))))) .nil)))), .ife (.cmp .gt (.call 16 (.cons (.var 1) .nil)) (.lit (.int (120)))) [.set 1 (.tup (.cons (.lit (.str "not")) (.cons (.tup (.cons (.lit (.str "mark")) (.cons (.lit (.str "f")) .nil))) .nil)))] [], .ife (.cmp .eq (.bin .mod (.call 12 (.cons (.var 0) (.cons (.lit (.int (1))) .nil))) (.lit (.int (2)))) (.lit (.int (1)))) [.set 1 (.call 20 (.cons (.var 1) (.cons (.bin .mod (.call 12 (.cons (.var 0) (.cons (.lit (.int (2))) .nil))) (.bin .pow (.lit (.int (10))) (.lit (.int (12))))) .nil)))] [], .ife (.cmp .eq (.bin .mod (.bin .fdiv (.call 12 (.cons (.var 0) (.cons (.lit (.int (1))) .nil))) (.lit (.int (2)))) (.lit (.int (8)))) (.lit (.int (1)))) [.set 1 (.call 21 (.cons (.call 12 (.cons (.var 0) (.cons (.lit (.int (2))) .nil))) .nil))] [], .set 2 (.land (.call 17 (.cons (.var 1) .nil)) (.land (.cmp .le (.call 16 (.cons (.var 1) .nil)) (.lit (.int (200)))) (.cmp .le (.call 18 (.cons (.var 1) .nil)) (.lit (.int (24)))))), .set 3 (.call 6 (.cons (.var 1) .nil)), .ife (.lor (.lnot (.bi (.isinst "bool") (.cons (.var 3) .nil))) (.cmp .ne (.var 3) (.var 2))) [.ret (.lit (.bool false))] [], .ife (.lnot (.var 2)) [.ret (.lit (.bool true))] [], .set 4 (.list (.cons (.call 8 (.cons (.var 1) .nil)) (.cons (.call 9 (.cons (.var 1) .nil)) .nil))), .ife (.lor (.lnot (.call 13 (.cons (.ix (.var 4) (.lit (.int (0)))) .nil))) (.lor (.lnot (.call 13 (.cons (.ix (.var 4) (.lit (.int (1)))) .nil))) (.cmp .ne (.var 4) (.list (.cons (.call 16 (.cons (.var 1) .nil)) (.cons (.call 18 (.cons (.var 1) .nil)) .nil)))))) [.ret (.lit (.bool false))] [], .for_ (.one 5) (.range1 (.lit (.int (2)))) b_law_0 [5, 6] true, .ret (.lit (.bool true))]⟩
def ds : List Def := [d_rises, d_are_marks, d_parts_of, d_well_made, d_count, d_deep, d_is_sentence, d_ask_sentence, d_words, d_depth, d_named, d_marks_of, d__law_cell_at, d__law_whole, d__law_draw, d__law_sentence, d__law_count, d__law_good, d__law_deep, d__law_named, d__law_spoilt, d__law_great, d_law]
abbrev T : Nat → Option Def := fun f => ds[f]?
def G : PySem.Str → Option D := fun x => if x = "LETTERS" then some c_LETTERS else if x = "PARTS" then some c_PARTS else if x = "MOST_WORDS" then some c_MOST_WORDS else if x = "MOST_DEEP" then some c_MOST_DEEP else Option.none
theorem ok_rises_I {k : Nat} (some_ : (List Int)) (h : s_rises_I some_) : Okp (run T (k + 1)) 0 [enc some_] (m_rises_I some_) := by
  refine okp_of (d := d_rises) rfl rfl ?_
  show Wp _ _ [_, _] [] _
  obtain ⟨c1, c4, h⟩ := h
  refine wp_forO (σ := Unit) RV QR (s := ()) (fun (s1 : Unit) env st => env = [some (enc (some_ : (List Int))), Option.none] ∧ st = []) (u_rises_I_1 some_) (t_rises_I_1 some_) (fun x env => _) (iw_range2 (tv_int).v ((tv_len ((tv_var (x := some_) rfl)).v)).v c1) ⟨rfl, rfl⟩ c4 (fun _ _ => rfl) (fun _ _ hr => rv_s hr) (fun _ _ hr => (rv_q hr).2) ?_ ?_
  · intro k_ hx1 s1 env' st' ⟨hE, hS⟩ h
    subst hE hS
    show Wp _ _ [_, _] [] _
    obtain ⟨c2, c3, h⟩ := h
    refine wp_if (QOT RV _ _ _ _) ((tv_ge ((tv_ix ((tv_var (x := some_) rfl)).v ((tv_sub ((tv_var (x := k_) rfl)).v (tv_int).v)).v c2)).v ((tv_ix ((tv_var (x := some_) rfl)).v ((tv_var (x := k_) rfl)).v c3)).v)).v (fun hb1 => ?_) (fun hb1 => ?_)
    · have h := True.intro
      exact wp_qot (wp_rv ((tv_bool).v).z)
    · have h := True.intro
      exact qot_end ⟨rfl, rfl⟩
  · intro f1 env' st' hfo ⟨hE, hS⟩
    subst hE hS
    have h := True.intro
    exact wp_ret ((tv_bool).v).z

theorem ok_rises_X {k : Nat} (some_ : (List Tx)) (h : s_rises_X some_) : Okp (run T (k + 1)) 0 [enc some_] (m_rises_X some_) := by
  refine okp_of (d := d_rises) rfl rfl ?_
  show Wp _ _ [_, _] [] _
  obtain ⟨c1, c4, h⟩ := h
  refine wp_forO (σ := Unit) RV QR (s := ()) (fun (s1 : Unit) env st => env = [some (enc (some_ : (List Tx))), Option.none] ∧ st = []) (u_rises_X_1 some_) (t_rises_X_1 some_) (fun x env => _) (iw_range2 (tv_int).v ((tv_len ((tv_var (x := some_) rfl)).v)).v c1) ⟨rfl, rfl⟩ c4 (fun _ _ => rfl) (fun _ _ hr => rv_s hr) (fun _ _ hr => (rv_q hr).2) ?_ ?_
  · intro k_ hx1 s1 env' st' ⟨hE, hS⟩ h
    subst hE hS
    show Wp _ _ [_, _] [] _
    obtain ⟨c2, c3, h⟩ := h
    refine wp_if (QOT RV _ _ _ _) ((tv_get ((tv_ix ((tv_var (x := some_) rfl)).v ((tv_sub ((tv_var (x := k_) rfl)).v (tv_int).v)).v c2)).v ((tv_ix ((tv_var (x := some_) rfl)).v ((tv_var (x := k_) rfl)).v c3)).v)).v (fun hb1 => ?_) (fun hb1 => ?_)
    · have h := True.intro
      exact wp_qot (wp_rv ((tv_bool).v).z)
    · have h := True.intro
      exact qot_end ⟨rfl, rfl⟩
  · intro f1 env' st' hfo ⟨hE, hS⟩
    subst hE hS
    have h := True.intro
    exact wp_ret ((tv_bool).v).z

theorem ok_are_marks {k : Nat} (marks : (List Tx)) (h : s_are_marks marks) : Okp (run T (k + 2)) 1 [enc marks] (m_are_marks marks) := by
  refine okp_of (d := d_are_marks) rfl rfl ?_
  show Wp _ _ [_, _] [] _
  obtain ⟨c1, c2, c3, h⟩ := h
  exact wp_ret (((tv_and ((tv_allm ((nv_map (l := marks) (fun (mark : Tx) => ((decide ((Tx.len mark) = (1 : Int))) && (Tx.has (tx "abcdef") mark))) (fun _ => _) (iv_seq ((tv_var (x := marks) rfl)).v) c1 (fun _ => rfl) (fun mark hx1 => (tv_and ((tv_eq ((tv_lent ((tv_var (x := mark) rfl)).v (c2 mark hx1))).v (tv_int).v)).v (fun _ => ((tv_intx ((tv_var (x := mark) rfl)).v ((tv_globs)).v)).v))))).v)).v (fun hx3_ => ((tv_call (as_cons (tv_var (x := marks) rfl) as_nil) (ok_rises_X marks (c3 hx3_)))).v))).v).z

theorem ok_parts_of {k : Nat} (sentence : Sn) (h : s_parts_of sentence) : Okp (run T (k + 1)) 2 [enc sentence] (m_parts_of sentence) := by
  refine okp_of (d := d_parts_of) rfl rfl ?_
  show Wp _ _ [_] [] _
  obtain ⟨c1, c2, c3, h⟩ := h
  refine wp_if QR ((tv_eq ((tv_rtx (tv_rix (tv_var (x := sentence) rfl) (tv_int).v c1 c2) c3)).v (tv_str).v)).v (fun hb1 => ?_) (fun hb1 => ?_)
  · have h := True.intro
    show Wp _ _ [_] [] _
    exact wp_ret (((nv_list ([] : (List Sn)) as_nil)).v).z
  · have h := h hb1
    show Wp _ _ [_] [] _
    obtain ⟨c4, c5, c6, h⟩ := h
    exact wp_ret (((nv_rlist (tv_rtail (tv_var (x := sentence) rfl) c4 c5) c6)).v).z

theorem ok_well_made {k : Nat} : ∀ (fuel : Nat) (some_ : Sn) (h : s_well_made fuel some_), Okp (run T (k + fuel + 3)) 3 [enc some_] (m_well_made fuel some_)
  | 0, _, h => h.elim
  | fuel + 1, some_, h => by
    refine okp_of (d := d_well_made) rfl rfl ?_
    show Wp _ _ [_, _] [] _
    obtain ⟨c1, c2, c3, h⟩ := h
    refine wp_if QR ((tv_or ((tv_eq ((tv_rlen (tv_var (x := some_) rfl) c1)).v (tv_int).v)).v (fun hx1_ => ((tv_not ((tv_risx (tv_rix (tv_var (x := some_) rfl) (tv_int).v (c2 hx1_) (c3 hx1_)))).v)).v))).v (fun hb2 => ?_) (fun hb2 => ?_)
    · have h := True.intro
      exact wp_ret ((tv_bool).v).z
    · have h := h hb2
      show Wp _ _ [_, _] [] _
      obtain ⟨c4, c5, c6, h⟩ := h
      refine wp_if QR ((tv_eq ((tv_rtx (tv_rix (tv_var (x := some_) rfl) (tv_int).v c4 c5) c6)).v (tv_str).v)).v (fun hb3 => ?_) (fun hb3 => ?_)
      · have h := h.1 hb3
        show Wp _ _ [_, _] [] _
        obtain ⟨c7, c8, c9, c10, c11, c12, c13, h⟩ := h
        exact wp_ret (((tv_and ((tv_eq ((tv_rlen (tv_var (x := some_) rfl) c7)).v (tv_int).v)).v (fun hx5_ => ((tv_and ((tv_risx (tv_rix (tv_var (x := some_) rfl) (tv_int).v (c8 hx5_) (c9 hx5_)))).v (fun hx4_ => ((tv_call (as_cons ((nv_list ([(Sn.tx (ix (Sn.its some_) (1 : Int)))] : (List Tx)) (as_cons (tv_rtx (tv_rix (tv_var (x := some_) rfl) (tv_int).v ((c10 hx5_) hx4_) ((c11 hx5_) hx4_)) ((c12 hx5_) hx4_)) as_nil))).t as_nil) (ok_are_marks ([(Sn.tx (ix (Sn.its some_) (1 : Int)))] : (List Tx)) ((c13 hx5_) hx4_)))).v))).v))).v).z
      · have h := h.2 hb3
        show Wp _ _ [_, _] [] _
        obtain ⟨c14, c15, c16, c17, c18, c19, c20, c21, h⟩ := h
        refine wp_if QR ((tv_or ((tv_tabnotin tab_PARTS ((tv_rtx (tv_rix (tv_var (x := some_) rfl) (tv_int).v c14 c15) c16)).v)).v (fun hx6_ => ((tv_ne ((tv_rlen (tv_var (x := some_) rfl) (c17 hx6_))).v ((tv_add ((tv_tabget tab_PARTS ((tv_rtx (tv_rix (tv_var (x := some_) rfl) (tv_int).v (c18 hx6_) (c19 hx6_)) (c20 hx6_))).v (c21 hx6_))).v (tv_int).v)).v)).v))).v (fun hb7 => ?_) (fun hb7 => ?_)
        · have h := True.intro
          exact wp_ret ((tv_bool).v).z
        · have h := h hb7
          show Wp _ _ [_, _] [] _
          obtain ⟨c22, c23, c24, c25, c26, h⟩ := h
          exact wp_ret (((tv_allm ((nv_map (l := (Sn.its (Sn.n (List.drop 1 (Sn.its some_))))) (fun (piece : Sn) => ((Sn.isN piece) && (m_well_made fuel piece))) (fun _ => _) (iv_rseq (tv_rtail (tv_var (x := some_) rfl) c22 c23) c24) c25 (fun _ => rfl) (fun piece hx8 => (tv_and ((tv_risn (tv_var (x := piece) rfl))).v (fun hx9_ => ((tv_call (as_cons (tv_var (x := piece) rfl) as_nil) (ok_well_made fuel piece ((c26 piece hx8) hx9_)))).v))))).v)).v).z

theorem ok_count {k : Nat} : ∀ (fuel : Nat) (sentence : Sn) (h : s_count fuel sentence), Okp (run T (k + fuel + 2)) 4 [enc sentence] (m_count fuel sentence)
  | 0, _, h => h.elim
  | fuel + 1, sentence, h => by
    refine okp_of (d := d_count) rfl rfl ?_
    show Wp _ _ [_, _] [] _
    obtain ⟨c1, c2, c3, h⟩ := h
    exact wp_ret (((tv_add (tv_int).v ((tv_sum ((nv_map (l := (m_parts_of sentence)) (fun (piece : Sn) => (m_count fuel piece)) (fun _ => _) (iv_seq ((tv_call (as_cons (tv_var (x := sentence) rfl) as_nil) (ok_parts_of sentence c1))).v) c2 (fun _ => rfl) (fun piece hx1 => (tv_call (as_cons (tv_var (x := piece) rfl) as_nil) (ok_count fuel piece (c3 piece hx1)))))).v)).v)).v).z

theorem ok_deep {k : Nat} : ∀ (fuel : Nat) (sentence : Sn) (h : s_deep fuel sentence), Okp (run T (k + fuel + 2)) 5 [enc sentence] (m_deep fuel sentence)
  | 0, _, h => h.elim
  | fuel + 1, sentence, h => by
    refine okp_of (d := d_deep) rfl rfl ?_
    show Wp _ _ [_, _] [] _
    obtain ⟨c1, c2, c3, h⟩ := h
    exact wp_ret (((tv_add (tv_int).v ((tv_maxd0 ((nv_map (l := (m_parts_of sentence)) (fun (piece : Sn) => (m_deep fuel piece)) (fun _ => _) (iv_seq ((tv_call (as_cons (tv_var (x := sentence) rfl) as_nil) (ok_parts_of sentence c1))).v) c2 (fun _ => rfl) (fun piece hx1 => (tv_call (as_cons (tv_var (x := piece) rfl) as_nil) (ok_deep fuel piece (c3 piece hx1)))))).v)).v)).v).z

theorem ok_is_sentence {k : Nat} (some_ : Sn) (h : s_is_sentence some_) : Okp (run T (k + 34)) 6 [enc some_] (m_is_sentence some_) := by
  refine okp_of (d := d_is_sentence) rfl rfl ?_
  show Wp _ _ [_] [] _
  obtain ⟨c1, c2, c3, h⟩ := h
  exact wp_ret (((tv_and ((tv_call (as_cons (tv_var (x := some_) rfl) as_nil) (ok_well_made 30 some_ c1))).v (fun hx2_ => ((tv_and ((tv_le ((tv_call (as_cons (tv_var (x := some_) rfl) as_nil) (ok_count 30 some_ (c2 hx2_)))).v ((tv_glob rfl)).v)).v (fun hx1_ => ((tv_le ((tv_call (as_cons (tv_var (x := some_) rfl) as_nil) (ok_deep 30 some_ ((c3 hx2_) hx1_)))).v ((tv_glob rfl)).v)).v))).v))).v).z

theorem ok_ask_sentence {k : Nat} (sentence : Sn) (h : s_ask_sentence sentence) : Oke (run T (k + 35)) 7 [enc sentence] (m_ask_sentence sentence) := by
  refine oke_of (d := d_ask_sentence) rfl rfl ?_
  show Wp _ _ [_] [] _
  obtain ⟨c1, h⟩ := h
  refine wp_if QE ((tv_not ((tv_call (as_cons (tv_var (x := sentence) rfl) as_nil) (ok_is_sentence sentence c1))).v)).v (fun hb1 => ?_) (fun hb1 => ?_)
  · have h := True.intro
    exact wp_raise QE_er
  · have h := True.intro
    exact wp_ende

theorem ok_words {k : Nat} (sentence : Sn) (h : s_words sentence) : Oke (run T (k + 36)) 8 [enc sentence] (m_words sentence) := by
  refine oke_of (d := d_words) rfl rfl ?_
  show Wp _ _ [_] [] _
  obtain ⟨c1, h⟩ := h
  refine wp_ask QE (fun _ _ _ => QE_er) (as_cons (tv_var (x := sentence) rfl) as_nil) (ok_ask_sentence sentence c1) fun u1 hu1 => ?_
  have h := h u1 hu1
  show Wp _ _ [_] [] _
  obtain ⟨c2, h⟩ := h
  exact wp_rete (((tv_call (as_cons (tv_var (x := sentence) rfl) as_nil) (ok_count 30 sentence c2))).v).z

theorem ok_depth {k : Nat} (sentence : Sn) (h : s_depth sentence) : Oke (run T (k + 36)) 9 [enc sentence] (m_depth sentence) := by
  refine oke_of (d := d_depth) rfl rfl ?_
  show Wp _ _ [_] [] _
  obtain ⟨c1, h⟩ := h
  refine wp_ask QE (fun _ _ _ => QE_er) (as_cons (tv_var (x := sentence) rfl) as_nil) (ok_ask_sentence sentence c1) fun u1 hu1 => ?_
  have h := h u1 hu1
  show Wp _ _ [_] [] _
  obtain ⟨c2, h⟩ := h
  exact wp_rete (((tv_call (as_cons (tv_var (x := sentence) rfl) as_nil) (ok_deep 30 sentence c2))).v).z

theorem ok_named {k : Nat} : ∀ (fuel : Nat) (sentence : Sn) (h : s_named fuel sentence), Okp (run T (k + fuel + 2)) 10 [enc sentence] (m_named fuel sentence)
  | 0, _, h => h.elim
  | fuel + 1, sentence, h => by
    refine okp_of (d := d_named) rfl rfl ?_
    show Wp _ _ [_, _, _] [] _
    obtain ⟨c1, c2, c3, h⟩ := h
    refine wp_if QR ((tv_eq ((tv_rtx (tv_rix (tv_var (x := sentence) rfl) (tv_int).v c1 c2) c3)).v (tv_str).v)).v (fun hb1 => ?_) (fun hb1 => ?_)
    · have h := h.1 hb1
      show Wp _ _ [_, _, _] [] _
      obtain ⟨c4, c5, c6, h⟩ := h
      exact wp_ret (((nv_list ([(Sn.tx (ix (Sn.its sentence) (1 : Int)))] : (List Tx)) (as_cons (tv_rtx (tv_rix (tv_var (x := sentence) rfl) (tv_int).v c4 c5) c6) as_nil))).v).z
    · have h := h.2 hb1
      show Wp _ _ [_, _, _] [] _
      refine wl_cell QR (l := ([] : (List Tx))) (nv_list ([] : (List Tx)) as_nil) fun found hfound => ?_
      have h := ltE h hfound
      show Wp _ _ [_, _, _] [_] _
      obtain ⟨c7, c10, h⟩ := h
      refine wl_for QR (σ := (List Tx)) (s := found) (fun (s1 : (List Tx)) env st => env = [some (enc (sentence : Sn)), some (.ref 0), Option.none] ∧ st = [.lst (List.map enc (s1 : (List Tx)))]) (u_named_1 (m_named fuel) (s_named fuel)) (t_named_1 (m_named fuel)) (fun x env => _) (iw_seq (tv_call (as_cons (tv_var (x := sentence) rfl) as_nil) (ok_parts_of sentence c7))) ⟨rfl, rfl⟩ c10 (fun _ _ => rfl) ?_ ?_
      · intro piece hx1 s1 env' st' ⟨hE, hS⟩ h
        subst hE hS
        show Wp _ _ [_, _, _] [_] _
        obtain ⟨c8, c9, h⟩ := h
        refine wl_extend (QT _ _ _ _) (n := 0) (l := s1) (m := (m_named fuel piece)) rfl rfl ((tv_call (as_cons (tv_var (x := piece) rfl) as_nil) (ok_named fuel piece c8))).v c9 fun found hfound => ?_
        exact qt_end ⟨rfl, rfl⟩
      · intro f1 hf1 env' st' ⟨hE, hS⟩
        subst hE hS
        show Wp _ _ [_, _, _] [_] _
        exact wp_ret ((vv_cell (n := 0) (x := f1) rfl rfl)).z

theorem okc_marks_of {k : Nat} (sentence : Sn) (h : s_marks_of sentence) : Okce (run T (k + 36)) 11 [enc sentence] (m_marks_of sentence) := by
  refine okce_of (d := d_marks_of) rfl rfl ?_
  show Wp _ _ [_, _] [] _
  obtain ⟨c1, h⟩ := h
  refine wp_ask QEc (fun _ _ _ => QEc_er) (as_cons (tv_var (x := sentence) rfl) as_nil) (ok_ask_sentence sentence c1) fun u2 hu2 => ?_
  have h := h u2 hu2
  show Wp _ _ [_, _] [] _
  obtain ⟨c2, c3, c4, h⟩ := h
  exact QEc_ok (wp_retcN (nv_dkx ((nv_map (l := (m_named 30 sentence)) (fun (mark : Tx) => (⟨mark, true⟩ : (T2 Tx Bool))) (fun _ => _) (iv_seq ((tv_call (as_cons (tv_var (x := sentence) rfl) as_nil) (ok_named 30 sentence c2))).v) c3 (fun _ => rfl) (fun mark hx1 => (tv_tup (x := (⟨mark, true⟩ : (T2 Tx Bool))) (as_cons (tv_var (x := mark) rfl) (as_cons tv_bool as_nil)) rfl)))).v c4))
theorem ok_marks_of {k : Nat} (sentence : Sn) (h : s_marks_of sentence) : Oke (run T (k + 36)) 11 [enc sentence] (m_marks_of sentence) := okc_oke (okc_marks_of sentence h)

theorem ok_law_cell_at {k : Nat} (script : Sc) (k_ : Int) (h : s_law_cell_at script k_) : Okp (run T (k + 1)) 12 [enc script, enc k_] (m_law_cell_at script k_) := by
  refine okp_of (d := d__law_cell_at) rfl rfl ?_
  show Wp _ _ [_, _] [] _
  refine wp_if QR ((tv_lt ((tv_var (x := k_) rfl)).v ((tv_lens ((tv_var (x := script) rfl)).v)).v)).v (fun hb1 => ?_) (fun hb1 => ?_)
  · have h := h hb1
    show Wp _ _ [_, _] [] _
    obtain ⟨c1, h⟩ := h
    exact wp_ret (((tv_ixs ((tv_var (x := script) rfl)).v ((tv_var (x := k_) rfl)).v c1)).v).z
  · have h := True.intro
    exact wp_ret ((tv_int).v).z

theorem ok_law_whole {k : Nat} (found : Int) (h : s_law_whole found) : Okp (run T (k + 1)) 13 [enc found] (m_law_whole found) := by
  refine okp_of (d := d__law_whole) rfl rfl ?_
  show Wp _ _ [_] [] _
  exact wp_ret (((tv_and ((tv_isinst ((tv_var (x := found) rfl)).v (fun d h => ⟨"int", by rw [h.ns]; rfl, by decide⟩))).v (fun _ => ((tv_not ((tv_isinst ((tv_var (x := found) rfl)).v (fun d h => ⟨"int", by rw [h.ns]; rfl, by decide⟩))).v)).v))).v).z

theorem ok_law_whole_U {k : Nat} (found : (Un Int Tx)) (h : s_law_whole_U found) : Okp (run T (k + 1)) 13 [enc found] (m_law_whole_U found) := by
  refine okp_of (d := d__law_whole) rfl rfl ?_
  show Wp _ _ [_] [] _
  exact wp_ret (((tv_and ((tv_isinstu (tv_var (x := found) rfl) (fun _ => ⟨"int", rfl, by decide⟩) (fun _ => ⟨"str", rfl, by decide⟩))).v (fun _ => ((tv_not ((tv_isinstu (tv_var (x := found) rfl) (fun _ => ⟨"int", rfl, by decide⟩) (fun _ => ⟨"str", rfl, by decide⟩))).v)).v))).v).z

theorem ok_law_draw {k : Nat} (cell : Int) (k_ : Int) (bound : Int) (h : s_law_draw cell k_ bound) : Okp (run T (k + 1)) 14 [enc cell, enc k_, enc bound] (m_law_draw cell k_ bound) := by
  refine okp_of (d := d__law_draw) rfl rfl ?_
  show Wp _ _ [_, _, _, _, _, _] [] _
  refine wp_if QR ((tv_ge ((tv_var (x := cell) rfl)).v ((tv_powl (tv_int).v (tv_int).v (by decide) (by decide +kernel))).v)).v (fun hb1 => ?_) (fun hb1 => ?_)
  · have h := h.1 hb1
    show Wp _ _ [_, _, _, _, _, _] [] _
    refine wl_set QR (x := (cell : Int)) (tv_var (x := cell) rfl) fun left_ hleft_ => ?_
    have h := ltE h hleft_
    show Wp _ _ [_, _, _, _, _, _] [] _
    obtain ⟨c1, c4, h⟩ := h
    refine wl_for QR (σ := Int) (s := left_) (fun (s1 : Int) env st => env = [some (enc (cell : Int)), some (enc (k_ : Int)), some (enc (bound : Int)), Option.none, some (enc (s1 : Int)), Option.none] ∧ st = []) (u_law_draw_1 bound) (t_law_draw_1 bound) (fun x env => _) (iw_range ((tv_var (x := k_) rfl)).v c1) ⟨rfl, rfl⟩ c4 (fun _ _ => rfl) ?_ ?_
    · intro j hx1 s1 env' st' ⟨hE, hS⟩ h
      subst hE hS
      show Wp _ _ [_, _, _, _, _, _] [] _
      obtain ⟨c2, h⟩ := h
      refine wl_set (QT _ _ _ _) (x := ((Int.fdiv s1 bound) : Int)) (tv_fdiv ((tv_var (x := s1) rfl)).v ((tv_var (x := bound) rfl)).v c2) fun left_ hleft_ => ?_
      exact qt_end ⟨rfl, rfl⟩
    · intro f1 hf1 env' st' ⟨hE, hS⟩
      subst hE hS
      have h := ltE h hf1
      show Wp _ _ [_, _, _, _, _, _] [] _
      obtain ⟨c3, h⟩ := h
      exact wp_ret (((tv_mod ((tv_var (x := f1) rfl)).v ((tv_var (x := bound) rfl)).v c3)).v).z
  · have h := h.2 hb1
    show Wp _ _ [_, _, _, _, _, _] [] _
    refine wl_set QR (x := ((Int.fmod ((((Int.fmod cell (1000000007 : Int)) + ((1009 : Int) * k_)) + (17 : Int)) * (69621 : Int)) (2147483647 : Int)) : Int)) (tv_mod ((tv_mul ((tv_add ((tv_add ((tv_mod ((tv_var (x := cell) rfl)).v (tv_int).v (by decide))).v ((tv_mul (tv_int).v ((tv_var (x := k_) rfl)).v (.inl (by decide)))).v)).v (tv_int).v)).v (tv_int).v (.inr (by decide)))).v (tv_int).v (by decide)) fun stir hstir => ?_
    have h := ltE h hstir
    show Wp _ _ [_, _, _, _, _, _] [] _
    obtain ⟨c5, h⟩ := h
    refine wl_set QR (x := ((Int.fmod (((stir * stir) + ((40503 : Int) * k_)) + (5 : Int)) (2147483629 : Int)) : Int)) (tv_mod ((tv_add ((tv_add ((tv_mul ((tv_var (x := stir) rfl)).v ((tv_var (x := stir) rfl)).v c5)).v ((tv_mul (tv_int).v ((tv_var (x := k_) rfl)).v (.inl (by decide)))).v)).v (tv_int).v)).v (tv_int).v (by decide)) fun stir hstir => ?_
    have h := ltE h hstir
    show Wp _ _ [_, _, _, _, _, _] [] _
    obtain ⟨c6, h⟩ := h
    exact wp_ret (((tv_mod ((tv_fdiv ((tv_mod ((tv_mul ((tv_var (x := stir) rfl)).v (tv_int).v (.inr (by decide)))).v (tv_int).v (by decide))).v (tv_int).v (by unfold DivOk CDivN; decide))).v ((tv_var (x := bound) rfl)).v c6)).v).z

theorem ok_law_sentence {k : Nat} (script : Sc) (at_ : Int) (many : Int) (h : s_law_sentence script at_ many) : Okp (run T (k + 2)) 15 [enc script, enc at_, enc many] (m_law_sentence script at_ many) := by
  refine okp_of (d := d__law_sentence) rfl rfl ?_
  show Wp _ _ [_, _, _, _, _, _, _, _, _, _] [] _
  refine wl_set QR (x := (([(tx "mark"), (tx "mark"), (tx "not"), (tx "and"), (tx "some until"), (tx "all until"), (tx "some next"), (tx "all next"), (tx "some always")] : (List Tx)) : (List Tx))) ((nv_list ([(tx "mark"), (tx "mark"), (tx "not"), (tx "and"), (tx "some until"), (tx "all until"), (tx "some next"), (tx "all next"), (tx "some always")] : (List Tx)) (as_cons tv_str (as_cons tv_str (as_cons tv_str (as_cons tv_str (as_cons tv_str (as_cons tv_str (as_cons tv_str (as_cons tv_str (as_cons tv_str as_nil))))))))))).t fun kinds hkinds => ?_
  have h := ltE h hkinds
  show Wp _ _ [_, _, _, _, _, _, _, _, _, _] [] _
  obtain ⟨c1, h⟩ := h
  refine wl_set QR (x := ((kinds ++ ([(tx "all always"), (tx "or"), (tx "yes")] : (List Tx))) : (List Tx))) ((nv_cat ((tv_var (x := kinds) rfl)).v ((nv_list ([(tx "all always"), (tx "or"), (tx "yes")] : (List Tx)) (as_cons tv_str (as_cons tv_str (as_cons tv_str as_nil))))).v c1)).t fun kinds hkinds => ?_
  have h := ltE h hkinds
  show Wp _ _ [_, _, _, _, _, _, _, _, _, _] [] _
  obtain ⟨c2, c3, c4, c5, h⟩ := h
  refine wl_cell QR (l := ([(Sn.n [(Sn.x (tx "mark")), (Sn.x (Tx.ix (tx "abc") (m_law_draw (m_law_cell_at script at_) (3 : Int) (3 : Int))))])] : (List Sn))) (nv_list ([(Sn.n [(Sn.x (tx "mark")), (Sn.x (Tx.ix (tx "abc") (m_law_draw (m_law_cell_at script at_) (3 : Int) (3 : Int))))])] : (List Sn)) (as_cons (tv_tup (x := (Sn.n [(Sn.x (tx "mark")), (Sn.x (Tx.ix (tx "abc") (m_law_draw (m_law_cell_at script at_) (3 : Int) (3 : Int))))])) (as_cons (tv_xr tv_str) (as_cons (tv_xr (tv_ixt (tv_str).v ((tv_call (as_cons (tv_call (as_cons (tv_var (x := script) rfl) (as_cons (tv_var (x := at_) rfl) as_nil)) (ok_law_cell_at script at_ c2)) (as_cons tv_int (as_cons tv_int as_nil))) (ok_law_draw (m_law_cell_at script at_) (3 : Int) (3 : Int) c3))).v c4 c5)) as_nil)) (sn_n [(Sn.x (tx "mark")), (Sn.x (Tx.ix (tx "abc") (m_law_draw (m_law_cell_at script at_) (3 : Int) (3 : Int))))])) as_nil)) fun made hmade => ?_
  have h := ltE h hmade
  show Wp _ _ [_, _, _, _, _, _, _, _, _, _] [_] _
  obtain ⟨c6, c24, h⟩ := h
  refine wl_for QR (σ := (List Sn)) (s := made) (fun (s1 : (List Sn)) env st => env = [some (enc (script : Sc)), some (enc (at_ : Int)), some (enc (many : Int)), some (enc (kinds : (List Tx))), some (.ref 0), Option.none, Option.none, Option.none, Option.none, Option.none] ∧ st = [.lst (List.map enc (s1 : (List Sn)))]) (u_law_sentence_1 script at_ kinds) (t_law_sentence_1 script at_ kinds) (fun x env => _) (iw_range2 (tv_int).v ((tv_var (x := many) rfl)).v c6) ⟨rfl, rfl⟩ c24 (fun _ _ => rfl) ?_ ?_
  · intro k_ hx1 s1 env' st' ⟨hE, hS⟩ h
    subst hE hS
    show Wp _ _ [_, _, _, _, _, _, _, _, _, _] [_] _
    obtain ⟨c7, h⟩ := h
    refine wl_set (QT _ _ _ _) (x := ((m_law_cell_at script (at_ + k_)) : Int)) (tv_call (as_cons (tv_var (x := script) rfl) (as_cons (tv_add ((tv_var (x := at_) rfl)).v ((tv_var (x := k_) rfl)).v) as_nil)) (ok_law_cell_at script (at_ + k_) c7)) fun cell hcell => ?_
    have h := ltE h hcell
    show Wp _ _ [_, _, _, _, _, _, _, _, _, _] [_] _
    obtain ⟨c8, c9, h⟩ := h
    refine wl_set (QT _ _ _ _) (x := ((ix kinds (m_law_draw cell (0 : Int) (12 : Int))) : Tx)) (tv_ix ((tv_var (x := kinds) rfl)).v ((tv_call (as_cons (tv_var (x := cell) rfl) (as_cons tv_int (as_cons tv_int as_nil))) (ok_law_draw cell (0 : Int) (12 : Int) c8))).v c9) fun kind hkind => ?_
    have h := ltE h hkind
    show Wp _ _ [_, _, _, _, _, _, _, _, _, _] [_] _
    obtain ⟨c10, c11, c12, h⟩ := h
    refine wl_set (QT _ _ _ _) (x := ((ix s1 ((-1 : Int) - (Int.fmod (m_law_draw cell (1 : Int) (2 : Int)) (len s1)))) : Sn)) (tv_ix (vv_cell (n := 0) (x := s1) rfl rfl) ((tv_sub (tv_int).v ((tv_mod ((tv_call (as_cons (tv_var (x := cell) rfl) (as_cons tv_int (as_cons tv_int as_nil))) (ok_law_draw cell (1 : Int) (2 : Int) c10))).v ((tv_len (vv_cell (n := 0) (x := s1) rfl rfl))).v c11)).v)).v c12) fun one_ hone_ => ?_
    have h := ltE h hone_
    show Wp _ _ [_, _, _, _, _, _, _, _, _, _] [_] _
    obtain ⟨c13, c14, c15, h⟩ := h
    refine wl_set (QT _ _ _ _) (x := ((ix s1 (Int.fmod (m_law_draw cell (2 : Int) (60 : Int)) (len s1))) : Sn)) (tv_ix (vv_cell (n := 0) (x := s1) rfl rfl) ((tv_mod ((tv_call (as_cons (tv_var (x := cell) rfl) (as_cons tv_int (as_cons tv_int as_nil))) (ok_law_draw cell (2 : Int) (60 : Int) c13))).v ((tv_len (vv_cell (n := 0) (x := s1) rfl rfl))).v c14)).v c15) fun other hother => ?_
    have h := ltE h hother
    show Wp _ _ [_, _, _, _, _, _, _, _, _, _] [_] _
    refine wp_if (QT _ _ _ _) ((tv_eq ((tv_var (x := kind) rfl)).v (tv_str).v)).v (fun hb1 => ?_) (fun hb1 => ?_)
    · have h := h.1 hb1
      show Wp _ _ [_, _, _, _, _, _, _, _, _, _] [_] _
      obtain ⟨c16, h⟩ := h
      refine wl_append (QT _ _ _ _) (n := 0) (l := s1) (x := ((Sn.n [(Sn.x (tx "yes"))]) : Sn)) rfl rfl (tv_tup (x := (Sn.n [(Sn.x (tx "yes"))])) (as_cons (tv_xr tv_str) as_nil) (sn_n [(Sn.x (tx "yes"))])) c16 fun made hmade => ?_
      exact qt_end ⟨rfl, rfl⟩
    · have h := h.2 hb1
      show Wp _ _ [_, _, _, _, _, _, _, _, _, _] [_] _
      refine wp_if (QT _ _ _ _) ((tv_eq ((tv_var (x := kind) rfl)).v (tv_str).v)).v (fun hb2 => ?_) (fun hb2 => ?_)
      · have h := h.1 hb2
        show Wp _ _ [_, _, _, _, _, _, _, _, _, _] [_] _
        obtain ⟨c17, c18, c19, c20, h⟩ := h
        refine wl_append (QT _ _ _ _) (n := 0) (l := s1) (x := ((Sn.n [(Sn.x (tx "mark")), (Sn.x (Tx.ix (tx "abc") (m_law_draw cell (3 : Int) (3 : Int))))]) : Sn)) rfl rfl (tv_tup (x := (Sn.n [(Sn.x (tx "mark")), (Sn.x (Tx.ix (tx "abc") (m_law_draw cell (3 : Int) (3 : Int))))])) (as_cons (tv_xr tv_str) (as_cons (tv_xr (tv_ixt (tv_str).v ((tv_call (as_cons (tv_var (x := cell) rfl) (as_cons tv_int (as_cons tv_int as_nil))) (ok_law_draw cell (3 : Int) (3 : Int) c17))).v c18 c19)) as_nil)) (sn_n [(Sn.x (tx "mark")), (Sn.x (Tx.ix (tx "abc") (m_law_draw cell (3 : Int) (3 : Int))))])) c20 fun made hmade => ?_
        exact qt_end ⟨rfl, rfl⟩
      · have h := h.2 hb2
        show Wp _ _ [_, _, _, _, _, _, _, _, _, _] [_] _
        refine wp_if (QT _ _ _ _) ((tv_intup ([(tx "and"), (tx "or"), (tx "some until"), (tx "all until")] : List Tx) ((tv_var (x := kind) rfl)).v ⟨_, tup_ev (as_cons tv_str (as_cons tv_str (as_cons tv_str (as_cons tv_str as_nil)))) (Nat.le_of_ble_eq_true rfl), rfl⟩ rfl)).v (fun hb3 => ?_) (fun hb3 => ?_)
        · have h := h.1 hb3
          show Wp _ _ [_, _, _, _, _, _, _, _, _, _] [_] _
          obtain ⟨c21, h⟩ := h
          refine wl_append (QT _ _ _ _) (n := 0) (l := s1) (x := ((Sn.n [(Sn.x kind), other, one_]) : Sn)) rfl rfl (tv_tup (x := (Sn.n [(Sn.x kind), other, one_])) (as_cons (tv_xr (tv_var (x := kind) rfl)) (as_cons (tv_var (x := other) rfl) (as_cons (tv_var (x := one_) rfl) as_nil))) (sn_n [(Sn.x kind), other, one_])) c21 fun made hmade => ?_
          exact qt_end ⟨rfl, rfl⟩
        · have h := h.2 hb3
          show Wp _ _ [_, _, _, _, _, _, _, _, _, _] [_] _
          obtain ⟨c22, h⟩ := h
          refine wl_append (QT _ _ _ _) (n := 0) (l := s1) (x := ((Sn.n [(Sn.x kind), one_]) : Sn)) rfl rfl (tv_tup (x := (Sn.n [(Sn.x kind), one_])) (as_cons (tv_xr (tv_var (x := kind) rfl)) (as_cons (tv_var (x := one_) rfl) as_nil)) (sn_n [(Sn.x kind), one_])) c22 fun made hmade => ?_
          exact qt_end ⟨rfl, rfl⟩
  · intro f1 hf1 env' st' ⟨hE, hS⟩
    subst hE hS
    have h := ltE h hf1
    show Wp _ _ [_, _, _, _, _, _, _, _, _, _] [_] _
    obtain ⟨c23, h⟩ := h
    exact wp_ret (((tv_ix (vv_cell (n := 0) (x := f1) rfl rfl) (tv_int).v c23)).v).z

theorem ok_law_count {k : Nat} : ∀ (fuel : Nat) (sentence : Sn) (h : s_law_count fuel sentence), Okp (run T (k + fuel + 1)) 16 [enc sentence] (m_law_count fuel sentence)
  | 0, _, h => h.elim
  | fuel + 1, sentence, h => by
    refine okp_of (d := d__law_count) rfl rfl ?_
    show Wp _ _ [_, _] [] _
    obtain ⟨c1, c2, c3, c4, c5, h⟩ := h
    exact wp_ret (((tv_add (tv_int).v ((tv_sum ((nv_comp (l := (Sn.its (Sn.n (List.drop 1 (Sn.its sentence))))) (fun (piece : Sn) => (Sn.isN piece)) (fun (piece : Sn) => (m_law_count fuel piece)) (fun _ => _) (iv_rseq (tv_rtail (tv_var (x := sentence) rfl) c1 c2) c3) c4 (fun _ => rfl) (fun piece hx1 => ⟨((tv_risn (tv_var (x := piece) rfl))).v, fun hp1 => (tv_call (as_cons (tv_var (x := piece) rfl) as_nil) (ok_law_count fuel piece (c5 piece hx1 hp1)))⟩))).v)).v)).v).z

theorem ok_law_good_v2 {k : Nat} : ∀ (fuel : Nat) (some_ : Sn) (h : s_law_good_v2 fuel some_), Okp (run T (k + fuel + 1)) 17 [enc some_] (m_law_good_v2 fuel some_)
  | 0, _, h => h.elim
  | fuel + 1, some_, h => by
    refine okp_of (d := d__law_good) rfl rfl ?_
    show Wp _ (.set _ _ :: _) [_, _, _, _] [] _
    refine wp_dlitX (T := wantsT.take 7) rfl rfl (by decide +kernel) ?_
    show Wp _ (.for_ _ _ _ _ _ :: _) [_, _, _, _] [_] _
    refine wp_forN (l := [tx "and", tx "or", tx "some until", tx "all until"]) (fun i env st => env = [some (enc some_), some (.ref 0), Option.none, Option.none] ∧ st = [dxC (wantsT.take (7 + i))]) (fun x env => _) (iw_tup ([tx "and", tx "or", tx "some until", tx "all until"] : List Tx) (as_cons tv_str (as_cons tv_str (as_cons tv_str (as_cons tv_str as_nil))))) ⟨rfl, rfl⟩ (fun _ _ => rfl) ?_ ?_
    · rintro i hi env' st' ⟨hE, hS⟩
      subst hE hS
      have hi4 : i < 4 := hi
      have e9 : lookX ([tx "and", tx "or", tx "some until", tx "all until"][i]'hi) (wantsT.take (7 + i)) = none ∧ wantsT.take (7 + i) ++ [([tx "and", tx "or", tx "some until", tx "all until"][i]'hi, 2)] = wantsT.take (7 + (i + 1)) := by
        have : i = 0 ∨ i = 1 ∨ i = 2 ∨ i = 3 := by omega
        rcases this with rfl | rfl | rfl | rfl
        · exact ⟨show lookX (tx "and") _ = none by decide +kernel, rfl⟩
        · exact ⟨show lookX (tx "or") _ = none by decide +kernel, rfl⟩
        · exact ⟨show lookX (tx "some until") _ = none by decide +kernel, rfl⟩
        · exact ⟨show lookX (tx "all until") _ = none by decide +kernel, rfl⟩
      show Wp _ (.dput _ _ _ :: _) [_, _, _, _] [_] _
      refine wp_dputX (n := 0) (T := wantsT.take (7 + i)) (t := [tx "and", tx "or", tx "some until", tx "all until"][i]'hi) (k := 2) rfl rfl (tv_var (i := 2) (x := [tx "and", tx "or", tx "some until", tx "all until"][i]'hi) rfl).v tv_int (by rw [List.length_take]; omega) e9.1 ?_
      rw [e9.2]
      exact wp_nil ⟨_, _, rfl, rfl, rfl⟩
    rintro env' st' ⟨hE, hS⟩
    subst hE hS
    show Wp _ _ [_, _, _, _] [dxC wantsT] _
    obtain ⟨c1, c2, c3, c4, c5, c6, c7, h⟩ := h
    refine wp_if QR ((tv_or ((tv_eqr (tv_var (x := some_) rfl) (tv_tup (x := (Sn.n [])) as_nil (sn_n [])) c1 c2)).v (fun hx2_ => ((tv_or ((tv_not ((tv_risx (tv_rix (tv_var (x := some_) rfl) (tv_int).v (c3 hx2_) (c4 hx2_)))).v)).v (fun hx1_ => ((tv_dxnotin (i := 1) (n := 0) (T := wantsT) ((tv_rtx (tv_rix (tv_var (x := some_) rfl) (tv_int).v ((c5 hx2_) hx1_) ((c6 hx2_) hx1_)) ((c7 hx2_) hx1_))).v rfl rfl)).v))).v))).v (fun hb3 => ?_) (fun hb3 => ?_)
    · have h := True.intro
      exact wp_ret ((tv_bool).v).z
    · have h := h hb3
      show Wp _ _ [_, _, _, _] [_] _
      obtain ⟨c8, c9, c10, h⟩ := h
      refine wp_if QR ((tv_eq ((tv_rtx (tv_rix (tv_var (x := some_) rfl) (tv_int).v c8 c9) c10)).v (tv_str).v)).v (fun hb4 => ?_) (fun hb4 => ?_)
      · have h := h.1 hb4
        show Wp _ _ [_, _, _, _] [_] _
        obtain ⟨c11, c12, c13, c17, c18, c19, h⟩ := h
        exact wp_ret (((tv_and ((tv_eq ((tv_rlen (tv_var (x := some_) rfl) c11)).v (tv_int).v)).v (fun hx6_ => ((tv_and ((tv_risx (tv_rix (tv_var (x := some_) rfl) (tv_int).v (c12 hx6_) (c13 hx6_)))).v (fun hx5_ => ((tv_in ((tv_rtx (tv_rix (tv_var (x := some_) rfl) (tv_int).v ((c17 hx6_) hx5_) ((c18 hx6_) hx5_)) ((c19 hx6_) hx5_))).v ((nv_list ([(tx "a"), (tx "b"), (tx "c"), (tx "d"), (tx "e"), (tx "f")] : (List Tx)) (as_cons tv_str (as_cons tv_str (as_cons tv_str (as_cons tv_str (as_cons tv_str (as_cons tv_str as_nil)))))))).v)).v))).v))).v).z
      · have h := h.2 hb4
        show Wp _ _ [_, _, _, _] [_] _
        obtain ⟨c20, c21, c22, c23, c24, h⟩ := h
        refine wp_if QR ((tv_ne ((tv_rlen (tv_var (x := some_) rfl) c20)).v ((tv_add ((tv_dxget (i := 1) (n := 0) (T := wantsT) ((tv_rtx (tv_rix (tv_var (x := some_) rfl) (tv_int).v c21 c22) c23)).v rfl rfl c24)).v (tv_int).v)).v)).v (fun hb7 => ?_) (fun hb7 => ?_)
        · have h := True.intro
          exact wp_ret ((tv_bool).v).z
        · have h := h hb7
          show Wp _ _ [_, _, _, _] [_] _
          obtain ⟨c25, c26, c27, c28, c29, h⟩ := h
          exact wp_ret (((tv_allm ((nv_map (l := (Sn.its (Sn.n (List.drop 1 (Sn.its some_))))) (fun (piece : Sn) => ((Sn.isN piece) && (m_law_good_v2 fuel piece))) (fun _ => _) (iv_rseq (tv_rtail (tv_var (x := some_) rfl) c25 c26) c27) c28 (fun _ => rfl) (fun piece hx8 => (tv_and ((tv_risn (tv_var (x := piece) rfl))).v (fun hx9_ => ((tv_call (as_cons (tv_var (x := piece) rfl) as_nil) (ok_law_good_v2 fuel piece ((c29 piece hx8) hx9_)))).v))))).v)).v).z

theorem ok_law_deep {k : Nat} : ∀ (fuel : Nat) (some_ : Sn) (h : s_law_deep fuel some_), Okp (run T (k + fuel + 1)) 18 [enc some_] (m_law_deep fuel some_)
  | 0, _, h => h.elim
  | fuel + 1, some_, h => by
    refine okp_of (d := d__law_deep) rfl rfl ?_
    show Wp _ _ [_, _] [] _
    obtain ⟨c1, c2, c3, c4, c5, h⟩ := h
    exact wp_ret (((tv_add (tv_int).v ((tv_maxd0 ((nv_comp (l := (Sn.its (Sn.n (List.drop 1 (Sn.its some_))))) (fun (piece : Sn) => (Sn.isN piece)) (fun (piece : Sn) => (m_law_deep fuel piece)) (fun _ => _) (iv_rseq (tv_rtail (tv_var (x := some_) rfl) c1 c2) c3) c4 (fun _ => rfl) (fun piece hx1 => ⟨((tv_risn (tv_var (x := piece) rfl))).v, fun hp1 => (tv_call (as_cons (tv_var (x := piece) rfl) as_nil) (ok_law_deep fuel piece (c5 piece hx1 hp1)))⟩))).v)).v)).v).z

theorem ok_law_named {k : Nat} : ∀ (fuel : Nat) (some_ : Sn) (h : s_law_named fuel some_), Okp (run T (k + fuel + 1)) 19 [enc some_] (m_law_named fuel some_)
  | 0, _, h => h.elim
  | fuel + 1, some_, h => by
    refine okp_of (d := d__law_named) rfl rfl ?_
    show Wp _ _ [_, _, _] [] _
    obtain ⟨c1, c2, c3, h⟩ := h
    refine wp_if QR ((tv_eq ((tv_rtx (tv_rix (tv_var (x := some_) rfl) (tv_int).v c1 c2) c3)).v (tv_str).v)).v (fun hb1 => ?_) (fun hb1 => ?_)
    · have h := h.1 hb1
      show Wp _ _ [_, _, _] [] _
      obtain ⟨c4, c5, c6, h⟩ := h
      exact wp_ret (((nv_list ([(Sn.tx (ix (Sn.its some_) (1 : Int)))] : (List Tx)) (as_cons (tv_rtx (tv_rix (tv_var (x := some_) rfl) (tv_int).v c4 c5) c6) as_nil))).v).z
    · have h := h.2 hb1
      show Wp _ _ [_, _, _] [] _
      refine wl_set QR (x := (([] : (List Tx)) : (List Tx))) ((nv_list ([] : (List Tx)) as_nil)).t fun found hfound => ?_
      have h := ltE h hfound
      show Wp _ _ [_, _, _] [] _
      obtain ⟨c7, c8, c9, c12, h⟩ := h
      refine wl_for QR (σ := (List Tx)) (s := found) (fun (s1 : (List Tx)) env st => env = [some (enc (some_ : Sn)), some (enc (s1 : (List Tx))), Option.none] ∧ st = []) (u_law_named_1 (m_law_named fuel) (s_law_named fuel)) (t_law_named_1 (m_law_named fuel)) (fun x env => _) (iw_rseq (tv_rtail (tv_var (x := some_) rfl) c7 c8) c9) ⟨rfl, rfl⟩ c12 (fun _ _ => rfl) ?_ ?_
      · intro piece hx1 s1 env' st' ⟨hE, hS⟩ h
        subst hE hS
        show Wp _ _ [_, _, _] [] _
        obtain ⟨c10, c11, h⟩ := h
        refine wl_set (QT _ _ _ _) (x := ((s1 ++ (m_law_named fuel piece)) : (List Tx))) ((nv_cat ((tv_var (x := s1) rfl)).v ((tv_call (as_cons (tv_var (x := piece) rfl) as_nil) (ok_law_named fuel piece c10))).v c11)).t fun found hfound => ?_
        exact qt_end ⟨rfl, rfl⟩
      · intro f1 hf1 env' st' ⟨hE, hS⟩
        subst hE hS
        show Wp _ _ [_, _, _] [] _
        exact wp_ret (((tv_var (x := f1) rfl)).v).z

theorem ok_law_spoilt_v2 {k : Nat} : ∀ (fuel : Nat) (some_ : Sn) (cell : Int) (h : s_law_spoilt_v2 fuel some_ cell), Okp (run T (k + fuel + 1)) 20 [enc some_, enc cell] (m_law_spoilt_v2 fuel some_ cell)
  | 0, _, _, h => h.elim
  | fuel + 1, some_, cell, h => by
    refine okp_of (d := d__law_spoilt) rfl rfl ?_
    show Wp _ _ [_, _, _, _, _, _] [] _
    obtain ⟨c1, c2, c3, c4, h⟩ := h
    refine wl_set QR (x := ((List.filter (fun (k_ : Int) => (Sn.isN (ix (Sn.its some_) k_))) (rng2 (1 : Int) (len (Sn.its some_)))) : (List Int))) ((nv_filter (l := (rng2 (1 : Int) (len (Sn.its some_)))) (fun (k_ : Int) => (Sn.isN (ix (Sn.its some_) k_))) (fun _ => _) (iv_range2 (tv_int).v ((tv_rlen (tv_var (x := some_) rfl) c1)).v c2) (sz_rng2 c2) (fun _ => rfl) (fun _ => rfl) (fun k_ hx1 => ((tv_risn (tv_rix (tv_var (x := some_) rfl) ((tv_var (x := k_) rfl)).v (c3 k_ hx1) (c4 k_ hx1)))).v))).t fun places hplaces => ?_
    have h := ltE h hplaces
    show Wp _ _ [_, _, _, _, _, _] [] _
    refine wp_if QR ((tv_and ((tv_gt ((tv_len ((tv_var (x := places) rfl)).v)).v (tv_int).v)).v (fun _ => ((tv_gt ((tv_mod ((tv_var (x := cell) rfl)).v (tv_int).v (by decide))).v (tv_int).v)).v))).v (fun hb3 => ?_) (fun hb3 => ?_)
    · have h := h.1 hb3
      show Wp _ _ [_, _, _, _, _, _] [] _
      obtain ⟨c5, c6, h⟩ := h
      refine wl_set QR (x := ((ix places (Int.fmod (Int.fdiv cell (3 : Int)) (len places))) : Int)) (tv_ix ((tv_var (x := places) rfl)).v ((tv_mod ((tv_fdiv ((tv_var (x := cell) rfl)).v (tv_int).v (by unfold DivOk CDivN; decide))).v ((tv_len ((tv_var (x := places) rfl)).v)).v c5)).v c6) fun at_ hat_ => ?_
      have h := ltE h hat_
      show Wp _ _ [_, _, _, _, _, _] [] _
      obtain ⟨c7, c8, c9, c10, c11, c12, c13, c14, c15, c16, c17, c18, c19, c20, c21, h⟩ := h
      exact wp_ret (((tv_rcat (tv_rcat (tv_rpart (tv_var (x := some_) rfl) c7 bv_no (bv_at ((tv_var (x := at_) rfl)).v) c8) (tv_tup (x := (Sn.n [(m_law_spoilt_v2 fuel (ix (Sn.its some_) at_) (Int.fdiv cell (9 : Int)))])) (as_cons (tv_call (as_cons (tv_rix (tv_var (x := some_) rfl) ((tv_var (x := at_) rfl)).v c9 c10) (as_cons (tv_fdiv ((tv_var (x := cell) rfl)).v (tv_int).v (by unfold DivOk CDivN; decide)) as_nil)) (ok_law_spoilt_v2 fuel (ix (Sn.its some_) at_) (Int.fdiv cell (9 : Int)) c11)) as_nil) (sn_n [(m_law_spoilt_v2 fuel (ix (Sn.its some_) at_) (Int.fdiv cell (9 : Int)))])) c12 c13 c14 c15) (tv_rpart (tv_var (x := some_) rfl) c16 (bv_at ((tv_add ((tv_var (x := at_) rfl)).v (tv_int).v)).v) bv_no c17) c18 c19 c20 c21)).v).z
    · have h := h.2 hb3
      show Wp _ _ [_, _, _, _, _, _] [] _
      refine wl_set QR (x := (([(Sn.n []), (Sn.n [(Sn.x (tx "yes")), (Sn.x (tx "yes"))]), (Sn.n [(Sn.x (tx "mark"))]), (Sn.n [(Sn.x (tx "mark")), (Sn.x (tx "g"))]), (Sn.n [(Sn.x (tx "mark")), (Sn.x (tx "ab"))]), (Sn.n [(Sn.x (tx "mark")), (Sn.n [(Sn.x (tx "yes"))])]), (Sn.n [(Sn.x (tx "not"))]), (Sn.n [(Sn.x (tx "not")), (Sn.x (tx "a"))])] : (List Sn)) : (List Sn))) ((nv_list ([(Sn.n []), (Sn.n [(Sn.x (tx "yes")), (Sn.x (tx "yes"))]), (Sn.n [(Sn.x (tx "mark"))]), (Sn.n [(Sn.x (tx "mark")), (Sn.x (tx "g"))]), (Sn.n [(Sn.x (tx "mark")), (Sn.x (tx "ab"))]), (Sn.n [(Sn.x (tx "mark")), (Sn.n [(Sn.x (tx "yes"))])]), (Sn.n [(Sn.x (tx "not"))]), (Sn.n [(Sn.x (tx "not")), (Sn.x (tx "a"))])] : (List Sn)) (as_cons (tv_tup (x := (Sn.n [])) as_nil (sn_n [])) (as_cons (tv_tup (x := (Sn.n [(Sn.x (tx "yes")), (Sn.x (tx "yes"))])) (as_cons (tv_xr tv_str) (as_cons (tv_xr tv_str) as_nil)) (sn_n [(Sn.x (tx "yes")), (Sn.x (tx "yes"))])) (as_cons (tv_tup (x := (Sn.n [(Sn.x (tx "mark"))])) (as_cons (tv_xr tv_str) as_nil) (sn_n [(Sn.x (tx "mark"))])) (as_cons (tv_tup (x := (Sn.n [(Sn.x (tx "mark")), (Sn.x (tx "g"))])) (as_cons (tv_xr tv_str) (as_cons (tv_xr tv_str) as_nil)) (sn_n [(Sn.x (tx "mark")), (Sn.x (tx "g"))])) (as_cons (tv_tup (x := (Sn.n [(Sn.x (tx "mark")), (Sn.x (tx "ab"))])) (as_cons (tv_xr tv_str) (as_cons (tv_xr tv_str) as_nil)) (sn_n [(Sn.x (tx "mark")), (Sn.x (tx "ab"))])) (as_cons (tv_tup (x := (Sn.n [(Sn.x (tx "mark")), (Sn.n [(Sn.x (tx "yes"))])])) (as_cons (tv_xr tv_str) (as_cons (tv_tup (x := (Sn.n [(Sn.x (tx "yes"))])) (as_cons (tv_xr tv_str) as_nil) (sn_n [(Sn.x (tx "yes"))])) as_nil)) (sn_n [(Sn.x (tx "mark")), (Sn.n [(Sn.x (tx "yes"))])])) (as_cons (tv_tup (x := (Sn.n [(Sn.x (tx "not"))])) (as_cons (tv_xr tv_str) as_nil) (sn_n [(Sn.x (tx "not"))])) (as_cons (tv_tup (x := (Sn.n [(Sn.x (tx "not")), (Sn.x (tx "a"))])) (as_cons (tv_xr tv_str) (as_cons (tv_xr tv_str) as_nil)) (sn_n [(Sn.x (tx "not")), (Sn.x (tx "a"))])) as_nil)))))))))).t fun odd hodd => ?_
      have h := ltE h hodd
      show Wp _ _ [_, _, _, _, _, _] [] _
      obtain ⟨c22, h⟩ := h
      refine wl_set QR (x := ((odd ++ ([(Sn.n [(Sn.x (tx "and")), some_]), (Sn.n [(Sn.x (tx "until")), some_, some_]), (Sn.n [(Sn.x (tx "some next")), some_, some_]), (Sn.n [(Sn.x (tx "Yes"))]), (Sn.n [(Sn.x (tx "mark")), (Sn.x (tx "f"))]), (Sn.n [some_])] : (List Sn))) : (List Sn))) ((nv_cat ((tv_var (x := odd) rfl)).v ((nv_list ([(Sn.n [(Sn.x (tx "and")), some_]), (Sn.n [(Sn.x (tx "until")), some_, some_]), (Sn.n [(Sn.x (tx "some next")), some_, some_]), (Sn.n [(Sn.x (tx "Yes"))]), (Sn.n [(Sn.x (tx "mark")), (Sn.x (tx "f"))]), (Sn.n [some_])] : (List Sn)) (as_cons (tv_tup (x := (Sn.n [(Sn.x (tx "and")), some_])) (as_cons (tv_xr tv_str) (as_cons (tv_var (x := some_) rfl) as_nil)) (sn_n [(Sn.x (tx "and")), some_])) (as_cons (tv_tup (x := (Sn.n [(Sn.x (tx "until")), some_, some_])) (as_cons (tv_xr tv_str) (as_cons (tv_var (x := some_) rfl) (as_cons (tv_var (x := some_) rfl) as_nil))) (sn_n [(Sn.x (tx "until")), some_, some_])) (as_cons (tv_tup (x := (Sn.n [(Sn.x (tx "some next")), some_, some_])) (as_cons (tv_xr tv_str) (as_cons (tv_var (x := some_) rfl) (as_cons (tv_var (x := some_) rfl) as_nil))) (sn_n [(Sn.x (tx "some next")), some_, some_])) (as_cons (tv_tup (x := (Sn.n [(Sn.x (tx "Yes"))])) (as_cons (tv_xr tv_str) as_nil) (sn_n [(Sn.x (tx "Yes"))])) (as_cons (tv_tup (x := (Sn.n [(Sn.x (tx "mark")), (Sn.x (tx "f"))])) (as_cons (tv_xr tv_str) (as_cons (tv_xr tv_str) as_nil)) (sn_n [(Sn.x (tx "mark")), (Sn.x (tx "f"))])) (as_cons (tv_tup (x := (Sn.n [some_])) (as_cons (tv_var (x := some_) rfl) as_nil) (sn_n [some_])) as_nil)))))))).v c22)).t fun odd hodd => ?_
      have h := ltE h hodd
      show Wp _ _ [_, _, _, _, _, _] [] _
      obtain ⟨c23, c24, c25, c26, c27, h⟩ := h
      refine wl_set QR (x := ((odd ++ ([(Sn.n [(Sn.x (tx "or")), some_, some_]), (Sn.n (Sn.its some_ ++ Sn.its (Sn.n [(Sn.n [(Sn.x (tx "yes"))])]))), (Sn.n [(Sn.x (tx "mark")), (Sn.x (tx ""))]), (Sn.n [(Sn.x (tx "not")), some_])] : (List Sn))) : (List Sn))) ((nv_cat ((tv_var (x := odd) rfl)).v ((nv_list ([(Sn.n [(Sn.x (tx "or")), some_, some_]), (Sn.n (Sn.its some_ ++ Sn.its (Sn.n [(Sn.n [(Sn.x (tx "yes"))])]))), (Sn.n [(Sn.x (tx "mark")), (Sn.x (tx ""))]), (Sn.n [(Sn.x (tx "not")), some_])] : (List Sn)) (as_cons (tv_tup (x := (Sn.n [(Sn.x (tx "or")), some_, some_])) (as_cons (tv_xr tv_str) (as_cons (tv_var (x := some_) rfl) (as_cons (tv_var (x := some_) rfl) as_nil))) (sn_n [(Sn.x (tx "or")), some_, some_])) (as_cons (tv_rcat (tv_var (x := some_) rfl) (tv_tup (x := (Sn.n [(Sn.n [(Sn.x (tx "yes"))])])) (as_cons (tv_tup (x := (Sn.n [(Sn.x (tx "yes"))])) (as_cons (tv_xr tv_str) as_nil) (sn_n [(Sn.x (tx "yes"))])) as_nil) (sn_n [(Sn.n [(Sn.x (tx "yes"))])])) c23 c24 c25 c26) (as_cons (tv_tup (x := (Sn.n [(Sn.x (tx "mark")), (Sn.x (tx ""))])) (as_cons (tv_xr tv_str) (as_cons (tv_xr tv_str) as_nil)) (sn_n [(Sn.x (tx "mark")), (Sn.x (tx ""))])) (as_cons (tv_tup (x := (Sn.n [(Sn.x (tx "not")), some_])) (as_cons (tv_xr tv_str) (as_cons (tv_var (x := some_) rfl) as_nil)) (sn_n [(Sn.x (tx "not")), some_])) as_nil)))))).v c27)).t fun odd hodd => ?_
      have h := ltE h hodd
      show Wp _ _ [_, _, _, _, _, _] [] _
      obtain ⟨c28, h⟩ := h
      exact wp_ret (((tv_ix ((tv_var (x := odd) rfl)).v ((tv_mod ((tv_fdiv ((tv_var (x := cell) rfl)).v (tv_int).v (by unfold DivOk CDivN; decide))).v (tv_int).v (by decide))).v c28)).v).z

theorem ok_law_great {k : Nat} (cell : Int) (h : s_law_great cell) : Okp (run T (k + 1)) 21 [enc cell] (m_law_great cell) := by
  refine okp_of (d := d__law_great) rfl rfl ?_
  show Wp _ _ [_, _, _, _] [] _
  refine wp_if QR ((tv_eq ((tv_mod ((tv_var (x := cell) rfl)).v (tv_int).v (by decide))).v (tv_int).v)).v (fun hb1 => ?_) (fun hb1 => ?_)
  · have h := h.1 hb1
    show Wp _ _ [_, _, _, _] [] _
    obtain ⟨c1, h⟩ := h
    refine wl_set QR (x := ((rep ([(Sn.n [(Sn.x (tx "mark")), (Sn.x (tx "f"))])] : (List Sn)) ((99 : Int) + (Int.fmod (Int.fdiv cell (2 : Int)) (3 : Int)))) : (List Sn))) ((nv_rep ((nv_list ([(Sn.n [(Sn.x (tx "mark")), (Sn.x (tx "f"))])] : (List Sn)) (as_cons (tv_tup (x := (Sn.n [(Sn.x (tx "mark")), (Sn.x (tx "f"))])) (as_cons (tv_xr tv_str) (as_cons (tv_xr tv_str) as_nil)) (sn_n [(Sn.x (tx "mark")), (Sn.x (tx "f"))])) as_nil))).v ((tv_add (tv_int).v ((tv_mod ((tv_fdiv ((tv_var (x := cell) rfl)).v (tv_int).v (by unfold DivOk CDivN; decide))).v (tv_int).v (by decide))).v)).v c1)).t fun row hrow => ?_
    have h := ltE h hrow
    show Wp _ _ [_, _, _, _] [] _
    obtain ⟨c8, h⟩ := h
    refine wl_while QR (σ := (List Sn)) (s := row) (fun (s1 : (List Sn)) env st => env = [some (enc (cell : Int)), Option.none, Option.none, some (enc (s1 : (List Sn)))] ∧ st = []) v_law_great_1 c_law_great_1 u_law_great_1 t_law_great_1 ⟨rfl, rfl⟩ c8 ?_ ?_ ?_
    · intro s1 env' st' ⟨hE, hS⟩ h
      subst hE hS
      exact ((tv_gt ((tv_len ((tv_var (x := s1) rfl)).v)).v (tv_int).v)).v
    · intro s1 env' st' ⟨hE, hS⟩ hcb h
      subst hE hS
      show Wp _ _ [_, _, _, _] [] _
      obtain ⟨c2, c3, c4, h⟩ := h
      refine wl_set (QT _ _ _ _) (x := (((cut s1 (some (2 : Int)) none) ++ ([(Sn.n [(Sn.x (tx "and")), (ix s1 (0 : Int)), (ix s1 (1 : Int))])] : (List Sn))) : (List Sn))) ((nv_cat ((nv_sl ((tv_var (x := s1) rfl)).v (bv_at (tv_int).v) bv_no)).v ((nv_list ([(Sn.n [(Sn.x (tx "and")), (ix s1 (0 : Int)), (ix s1 (1 : Int))])] : (List Sn)) (as_cons (tv_tup (x := (Sn.n [(Sn.x (tx "and")), (ix s1 (0 : Int)), (ix s1 (1 : Int))])) (as_cons (tv_xr tv_str) (as_cons (tv_ix ((tv_var (x := s1) rfl)).v (tv_int).v c2) (as_cons (tv_ix ((tv_var (x := s1) rfl)).v (tv_int).v c3) as_nil))) (sn_n [(Sn.x (tx "and")), (ix s1 (0 : Int)), (ix s1 (1 : Int))])) as_nil))).v c4)).t fun row hrow => ?_
      exact qt_end ⟨rfl, rfl⟩
    · intro f1 hf1 env' st' ⟨hE, hS⟩
      subst hE hS
      have h := ltE h hf1
      show Wp _ _ [_, _, _, _] [] _
      obtain ⟨c5, h⟩ := h
      refine wl_set QR (x := ((ix f1 (0 : Int)) : Sn)) (tv_ix ((tv_var (x := f1) rfl)).v (tv_int).v c5) fun some_ hsome_ => ?_
      have h := ltE h hsome_
      show Wp _ _ [_, _, _, _] [] _
      obtain ⟨c6, c7, h⟩ := h
      refine wl_for QR (σ := Sn) (s := some_) (fun (s2 : Sn) env st => ∃ o0, env = [some (enc (cell : Int)), some (enc (s2 : Sn)), o0, some (enc (f1 : (List Sn)))] ∧ st = []) u_law_great_2 t_law_great_2 (fun x env => _) (iw_range ((tv_mod ((tv_fdiv ((tv_var (x := cell) rfl)).v (tv_int).v (by unfold DivOk CDivN; decide))).v (tv_int).v (by decide))).v c6) ⟨_, rfl, rfl⟩ c7 (fun _ _ => rfl) ?_ ?_
      · intro k_ hx2 s2 env' st' ⟨o0, hE, hS⟩ h
        subst hE hS
        show Wp _ _ [_, _, _, _] [] _
        refine wl_set (QT _ _ _ _) (x := ((Sn.n [(Sn.x (tx "not")), s2]) : Sn)) (tv_tup (x := (Sn.n [(Sn.x (tx "not")), s2])) (as_cons (tv_xr tv_str) (as_cons (tv_var (x := s2) rfl) as_nil)) (sn_n [(Sn.x (tx "not")), s2])) fun some_ hsome_ => ?_
        exact qt_end ⟨_, rfl, rfl⟩
      · intro f2 hf2 env' st' ⟨o0, hE, hS⟩
        subst hE hS
        show Wp _ _ [_, _, _, _] [] _
        exact wp_ret (((tv_var (x := f2) rfl)).v).z
  · have h := h.2 hb1
    show Wp _ _ [_, _, _, _] [] _
    refine wl_set QR (x := ((Sn.n [(Sn.x (tx "yes"))]) : Sn)) (tv_tup (x := (Sn.n [(Sn.x (tx "yes"))])) (as_cons (tv_xr tv_str) as_nil) (sn_n [(Sn.x (tx "yes"))])) fun some_ hsome_ => ?_
    have h := ltE h hsome_
    show Wp _ _ [_, _, _, _] [] _
    obtain ⟨c9, c10, h⟩ := h
    refine wl_for QR (σ := Sn) (s := some_) (fun (s3 : Sn) env st => ∃ o0, env = [some (enc (cell : Int)), some (enc (s3 : Sn)), o0, Option.none] ∧ st = []) u_law_great_3 t_law_great_3 (fun x env => _) (iw_range ((tv_add (tv_int).v ((tv_mod ((tv_fdiv ((tv_var (x := cell) rfl)).v (tv_int).v (by unfold DivOk CDivN; decide))).v (tv_int).v (by decide))).v)).v c9) ⟨_, rfl, rfl⟩ c10 (fun _ _ => rfl) ?_ ?_
    · intro k_ hx3 s3 env' st' ⟨o0, hE, hS⟩ h
      subst hE hS
      show Wp _ _ [_, _, _, _] [] _
      refine wl_set (QT _ _ _ _) (x := ((Sn.n [(Sn.x (tx "some next")), s3]) : Sn)) (tv_tup (x := (Sn.n [(Sn.x (tx "some next")), s3])) (as_cons (tv_xr tv_str) (as_cons (tv_var (x := s3) rfl) as_nil)) (sn_n [(Sn.x (tx "some next")), s3])) fun some_ hsome_ => ?_
      exact qt_end ⟨_, rfl, rfl⟩
    · intro f3 hf3 env' st' ⟨o0, hE, hS⟩
      subst hE hS
      show Wp _ _ [_, _, _, _] [] _
      exact wp_ret (((tv_var (x := f3) rfl)).v).z

theorem ok_law_k11 {k : Nat} (script : Sc) (h : s_law_k11 script) : Okp (run T (k + 37)) 22 [enc script] (m_law_k11 script) := by
  refine okp_of (d := d_law) rfl rfl ?_
  show Wp _ _ [_, _, _, _, _, _, _] [] _
  obtain ⟨c1, c2, h⟩ := h
  refine wl_set QR (x := ((m_law_sentence script (3 : Int) ((1 : Int) + (Int.fmod (m_law_cell_at script (0 : Int)) (14 : Int)))) : Sn)) (tv_call (as_cons (tv_var (x := script) rfl) (as_cons tv_int (as_cons (tv_add (tv_int).v ((tv_mod ((tv_call (as_cons (tv_var (x := script) rfl) (as_cons tv_int as_nil)) (ok_law_cell_at script (0 : Int) c1))).v (tv_int).v (by decide))).v) as_nil))) (ok_law_sentence script (3 : Int) ((1 : Int) + (Int.fmod (m_law_cell_at script (0 : Int)) (14 : Int))) c2)) fun some_ hsome_ => ?_
  have h := ltE h hsome_
  show Wp _ _ [_, _, _, _, _, _, _] [] _
  obtain ⟨c3, h⟩ := h
  refine wl_join QR (σ := Sn) (u :=
      lt ((Sn.n [(Sn.x (tx "not")), (Sn.n [(Sn.x (tx "mark")), (Sn.x (tx "f"))])]) : Sn) fun some_ =>
      some_)
    (v :=
      some_) (fun (s : Sn) env st => env = [some (enc (script : Sc)), some (enc (s : Sn)), Option.none, Option.none, Option.none, Option.none, Option.none] ∧ st = []) ((tv_gt ((tv_call (as_cons (tv_var (x := some_) rfl) as_nil) (ok_law_count 30 some_ c3))).v (tv_int).v)).v (fun hb1 => ?_) (fun hb1 => ?_) ?_
  · have h := True.intro
    show Wp _ _ [_, _, _, _, _, _, _] [] _
    refine wl_set (QB _) (x := ((Sn.n [(Sn.x (tx "not")), (Sn.n [(Sn.x (tx "mark")), (Sn.x (tx "f"))])]) : Sn)) (tv_tup (x := (Sn.n [(Sn.x (tx "not")), (Sn.n [(Sn.x (tx "mark")), (Sn.x (tx "f"))])])) (as_cons (tv_xr tv_str) (as_cons (tv_tup (x := (Sn.n [(Sn.x (tx "mark")), (Sn.x (tx "f"))])) (as_cons (tv_xr tv_str) (as_cons (tv_xr tv_str) as_nil)) (sn_n [(Sn.x (tx "mark")), (Sn.x (tx "f"))])) as_nil)) (sn_n [(Sn.x (tx "not")), (Sn.n [(Sn.x (tx "mark")), (Sn.x (tx "f"))])])) fun some_ hsome_ => ?_
    exact qb_end ⟨rfl, rfl⟩
  · have h := True.intro
    exact qb_end ⟨rfl, rfl⟩
  · skip
    intro j1 hj1 env' st' ⟨hE, hS⟩
    subst hE hS
    have h := ltE h hj1
    show Wp _ _ [_, _, _, _, _, _, _] [] _
    obtain ⟨c4, h⟩ := h
    refine wl_join QR (σ := Sn) (u :=
        lt ((m_law_spoilt_v2 30 j1 (Int.fmod (m_law_cell_at script (2 : Int)) (1000000000000 : Int))) : Sn) fun some_ =>
        some_)
      (v :=
        j1) (fun (s : Sn) env st => env = [some (enc (script : Sc)), some (enc (s : Sn)), Option.none, Option.none, Option.none, Option.none, Option.none] ∧ st = []) ((tv_eq ((tv_mod ((tv_call (as_cons (tv_var (x := script) rfl) (as_cons tv_int as_nil)) (ok_law_cell_at script (1 : Int) c4))).v (tv_int).v (by decide))).v (tv_int).v)).v (fun hb2 => ?_) (fun hb2 => ?_) ?_
    · have h := h.1 hb2
      show Wp _ _ [_, _, _, _, _, _, _] [] _
      obtain ⟨c5, c6, c7, h⟩ := h
      refine wl_set (QB _) (x := ((m_law_spoilt_v2 30 j1 (Int.fmod (m_law_cell_at script (2 : Int)) (1000000000000 : Int))) : Sn)) (tv_call (as_cons (tv_var (x := j1) rfl) (as_cons (tv_mod ((tv_call (as_cons (tv_var (x := script) rfl) (as_cons tv_int as_nil)) (ok_law_cell_at script (2 : Int) c5))).v ((tv_powl (tv_int).v (tv_int).v (by decide) (by decide +kernel))).v c6) as_nil)) (ok_law_spoilt_v2 30 j1 (Int.fmod (m_law_cell_at script (2 : Int)) (1000000000000 : Int)) c7)) fun some_ hsome_ => ?_
      exact qb_end ⟨rfl, rfl⟩
    · have h := True.intro
      exact qb_end ⟨rfl, rfl⟩
    · have h := h.2
      intro j2 hj2 env' st' ⟨hE, hS⟩
      subst hE hS
      have h := ltE h hj2
      show Wp _ _ [_, _, _, _, _, _, _] [] _
      obtain ⟨c8, h⟩ := h
      refine wl_join QR (σ := Sn) (u :=
          lt ((m_law_great (m_law_cell_at script (2 : Int))) : Sn) fun some_ =>
          some_)
        (v :=
          j2) (fun (s : Sn) env st => env = [some (enc (script : Sc)), some (enc (s : Sn)), Option.none, Option.none, Option.none, Option.none, Option.none] ∧ st = []) ((tv_eq ((tv_mod ((tv_fdiv ((tv_call (as_cons (tv_var (x := script) rfl) (as_cons tv_int as_nil)) (ok_law_cell_at script (1 : Int) c8))).v (tv_int).v (by unfold DivOk CDivN; decide))).v (tv_int).v (by decide))).v (tv_int).v)).v (fun hb3 => ?_) (fun hb3 => ?_) ?_
      · have h := h.1 hb3
        show Wp _ _ [_, _, _, _, _, _, _] [] _
        obtain ⟨c9, c10, h⟩ := h
        refine wl_set (QB _) (x := ((m_law_great (m_law_cell_at script (2 : Int))) : Sn)) (tv_call (as_cons (tv_call (as_cons (tv_var (x := script) rfl) (as_cons tv_int as_nil)) (ok_law_cell_at script (2 : Int) c9)) as_nil) (ok_law_great (m_law_cell_at script (2 : Int)) c10)) fun some_ hsome_ => ?_
        exact qb_end ⟨rfl, rfl⟩
      · have h := True.intro
        exact qb_end ⟨rfl, rfl⟩
      · have h := h.2
        intro j3 hj3 env' st' ⟨hE, hS⟩
        subst hE hS
        have h := ltE h hj3
        show Wp _ _ [_, _, _, _, _, _, _] [] _
        obtain ⟨c11, c12, c13, h⟩ := h
        refine wl_set QR (x := (((m_law_good_v2 30 j3) && ((decide ((m_law_count 30 j3) ≤ (200 : Int))) && (decide ((m_law_deep 30 j3) ≤ (24 : Int))))) : Bool)) (tv_and ((tv_call (as_cons (tv_var (x := j3) rfl) as_nil) (ok_law_good_v2 30 j3 c11))).v (fun hx5_ => ((tv_and ((tv_le ((tv_call (as_cons (tv_var (x := j3) rfl) as_nil) (ok_law_count 30 j3 (c12 hx5_)))).v (tv_int).v)).v (fun hx4_ => ((tv_le ((tv_call (as_cons (tv_var (x := j3) rfl) as_nil) (ok_law_deep 30 j3 ((c13 hx5_) hx4_)))).v (tv_int).v)).v))).v)) fun due hdue => ?_
        have h := ltE h hdue
        show Wp _ _ [_, _, _, _, _, _, _] [] _
        obtain ⟨c14, h⟩ := h
        refine wl_set QR (x := ((m_is_sentence j3) : Bool)) (tv_call (as_cons (tv_var (x := j3) rfl) as_nil) (ok_is_sentence j3 c14)) fun found hfound => ?_
        have h := ltE h hfound
        show Wp _ _ [_, _, _, _, _, _, _] [] _
        refine wp_if QR ((tv_or ((tv_not ((tv_isinst ((tv_var (x := found) rfl)).v (fun d h => ⟨"bool", by rw [h.ns]; rfl, by decide⟩))).v)).v (fun _ => ((tv_ne ((tv_var (x := found) rfl)).v ((tv_var (x := due) rfl)).v)).v))).v (fun hb7 => ?_) (fun hb7 => ?_)
        · have h := True.intro
          exact wp_ret ((tv_bool).v).z
        · have h := h hb7
          show Wp _ _ [_, _, _, _, _, _, _] [] _
          refine wp_if QR ((tv_not ((tv_var (x := due) rfl)).v)).v (fun hb8 => ?_) (fun hb8 => ?_)
          · have h := True.intro
            exact wp_ret ((tv_bool).v).z
          · have h := h hb8
            show Wp _ _ [_, _, _, _, _, _, _] [] _
            obtain ⟨c15, c16, c17, c18, h⟩ := h
            refine wl_set QR (x := (([(okv (m_words j3)), (okv (m_depth j3))] : (List Int)) : (List Int))) ((nv_list ([(okv (m_words j3)), (okv (m_depth j3))] : (List Int)) (as_cons (tv_call (as_cons (tv_var (x := j3) rfl) as_nil) (oke_ok (ok_words j3 c15) c16)) (as_cons (tv_call (as_cons (tv_var (x := j3) rfl) as_nil) (oke_ok (ok_depth j3 c17) c18)) as_nil)))).t fun told htold => ?_
            have h := ltE h htold
            show Wp _ _ [_, _, _, _, _, _, _] [] _
            obtain ⟨c20, c21, c23, c24, c25, c26, h⟩ := h
            refine wp_if QR ((tv_or ((tv_not ((tv_call (as_cons (tv_ix ((tv_var (x := told) rfl)).v (tv_int).v c20) as_nil) (ok_law_whole (ix told (0 : Int)) c21))).v)).v (fun hx10_ => ((tv_or ((tv_not ((tv_call (as_cons (tv_ix ((tv_var (x := told) rfl)).v (tv_int).v (c23 hx10_)) as_nil) (ok_law_whole (ix told (1 : Int)) (c24 hx10_)))).v)).v (fun hx9_ => ((tv_ne ((tv_var (x := told) rfl)).v ((nv_list ([(m_law_count 30 j3), (m_law_deep 30 j3)] : (List Int)) (as_cons (tv_call (as_cons (tv_var (x := j3) rfl) as_nil) (ok_law_count 30 j3 ((c25 hx10_) hx9_))) (as_cons (tv_call (as_cons (tv_var (x := j3) rfl) as_nil) (ok_law_deep 30 j3 ((c26 hx10_) hx9_))) as_nil)))).v)).v))).v))).v (fun hb11 => ?_) (fun hb11 => ?_)
            · have h := True.intro
              exact wp_ret ((tv_bool).v).z
            · have h := h hb11
              show Wp _ _ [_, _, _, _, _, _, _] [] _
              obtain ⟨c27, c33, h⟩ := h
              refine wp_forO (σ := Unit) RV QR (s := ()) (fun (s1 : Unit) env st => env = [some (enc (script : Sc)), some (enc (j3 : Sn)), some (enc (due : Bool)), some (enc (found : Bool)), some (enc (told : (List Int))), Option.none, Option.none] ∧ st = []) (u_law_k11_1 j3) (t_law_k11_1 j3) (fun x env => _) (iw_range (tv_int).v c27) ⟨rfl, rfl⟩ c33 (fun _ _ => rfl) (fun _ _ hr => rv_s hr) (fun _ _ hr => (rv_q hr).2) ?_ ?_
              · intro turn hx1 s1 env' st' ⟨hE, hS⟩ h
                subst hE hS
                show Wp _ _ [_, _, _, _, _, _, _] [] _
                obtain ⟨c28, c29, h⟩ := h
                refine wl_callC (QOT RV _ _ _ _) (x := ((okv (m_marks_of j3)) : (List Tx))) (as_cons (tv_var (x := j3) rfl) as_nil) (okce_ok (okc_marks_of j3 c28) c29) fun letters hletters => ?_
                have h := ltE h hletters
                show Wp _ _ [_, _, _, _, _, _, _] [_] _
                obtain ⟨c30, c31, h⟩ := h
                refine wp_if (QOT RV _ _ _ _) ((tv_or ((tv_not ((tv_isinst (vv_cell (n := 0) (x := letters) rfl rfl) (fun d h => ⟨"list", ty_list d h, by decide⟩))).v)).v (fun hx12_ => ((tv_ne (vv_cell (n := 0) (x := letters) rfl rfl) ((nv_sortsetx ((tv_call (as_cons (tv_var (x := j3) rfl) as_nil) (ok_law_named 30 j3 (c30 hx12_)))).v (c31 hx12_))).v)).v))).v (fun hb13 => ?_) (fun hb13 => ?_)
                · have h := True.intro
                  exact wp_qot (wp_rv ((tv_bool).v).z)
                · have h := h hb13
                  show Wp _ _ [_, _, _, _, _, _, _] [_] _
                  obtain ⟨c32, h⟩ := h
                  refine wl_append (QOT RV _ _ _ _) (n := 0) (l := letters) (x := ((tx "z") : Tx)) rfl rfl tv_str c32 fun letters hletters => ?_
                  exact qot_trim (by simp [wipeE]) (by simp) ⟨rfl, rfl⟩
              · intro f4 env' st' hfo ⟨hE, hS⟩
                subst hE hS
                have h := True.intro
                exact wp_ret ((tv_bool).v).z

theorem law_true : ∀ ns : List Int, ns.length ≤ 63 → ∃ st, run T 66 22 [.scr ns] [] = .ok (.bool true) st := fun ns _ =>
  law_of (sc := ⟨ns⟩) (ok_law_k11 (k := 29) ⟨ns⟩ (law_k11_ok ⟨ns⟩).1) (law_k11_ok ⟨ns⟩).2
def exc : List PySem.Str := ["NoSentence"]
def clsK (K : PySem.W.Frag) : PySem.Str → Option Addr := fun c => if c = "NoSentence" then some (He.ga K "NoSentence") else Option.none
theorem p_rises : DefP T G exc d_rises (mkD "rises" 5) := ⟨rfl, rfl, rfl, C8.fnScope_by (by decide +kernel), chkB_cls (by decide +kernel), fun _ _ _ _ _ _ us hl => match us, hl with | [_], _ => rfl⟩
theorem p_are_marks : DefP T G exc d_are_marks (mkD "are_marks" 6) := ⟨rfl, rfl, rfl, C8.fnScope_by (by decide +kernel), chkB_cls (by decide +kernel), fun _ _ _ _ _ _ us hl => match us, hl with | [_], _ => rfl⟩
theorem p_parts_of : DefP T G exc d_parts_of (mkD "parts_of" 11) := ⟨rfl, rfl, rfl, C8.fnScope_by (by decide +kernel), chkB_cls (by decide +kernel), fun _ _ _ _ _ _ us hl => match us, hl with | [_], _ => rfl⟩
theorem p_well_made : DefP T G exc d_well_made (mkD "well_made" 12) := ⟨rfl, rfl, rfl, C8.fnScope_by (by decide +kernel), chkB_cls (by decide +kernel), fun _ _ _ _ _ _ us hl => match us, hl with | [_], _ => rfl⟩
theorem p_count : DefP T G exc d_count (mkD "count" 13) := ⟨rfl, rfl, rfl, C8.fnScope_by (by decide +kernel), chkB_cls (by decide +kernel), fun _ _ _ _ _ _ us hl => match us, hl with | [_], _ => rfl⟩
theorem p_deep : DefP T G exc d_deep (mkD "deep" 14) := ⟨rfl, rfl, rfl, C8.fnScope_by (by decide +kernel), chkB_cls (by decide +kernel), fun _ _ _ _ _ _ us hl => match us, hl with | [_], _ => rfl⟩
theorem p_is_sentence : DefP T G exc d_is_sentence (mkD "is_sentence" 15) := ⟨rfl, rfl, rfl, C8.fnScope_by (by decide +kernel), chkB_cls (by decide +kernel), fun _ _ _ _ _ _ us hl => match us, hl with | [_], _ => rfl⟩
theorem p_ask_sentence : DefP T G exc d_ask_sentence (mkD "ask_sentence" 16) := ⟨rfl, rfl, rfl, C8.fnScope_by (by decide +kernel), chkB_cls (by decide +kernel), fun _ _ _ _ _ _ us hl => match us, hl with | [_], _ => rfl⟩
theorem p_words : DefP T G exc d_words (mkD "words" 17) := ⟨rfl, rfl, rfl, C8.fnScope_by (by decide +kernel), chkB_cls (by decide +kernel), fun _ _ _ _ _ _ us hl => match us, hl with | [_], _ => rfl⟩
theorem p_depth : DefP T G exc d_depth (mkD "depth" 18) := ⟨rfl, rfl, rfl, C8.fnScope_by (by decide +kernel), chkB_cls (by decide +kernel), fun _ _ _ _ _ _ us hl => match us, hl with | [_], _ => rfl⟩
theorem p_named : DefP T G exc d_named (mkD "named" 19) := ⟨rfl, rfl, rfl, C8.fnScope_by (by decide +kernel), chkB_cls (by decide +kernel), fun _ _ _ _ _ _ us hl => match us, hl with | [_], _ => rfl⟩
theorem p_marks_of : DefP T G exc d_marks_of (mkD "marks_of" 20) := ⟨rfl, rfl, rfl, C8.fnScope_by (by decide +kernel), chkB_cls (by decide +kernel), fun _ _ _ _ _ _ us hl => match us, hl with | [_], _ => rfl⟩
theorem p__law_cell_at : DefP T G exc d__law_cell_at (mkD "_law_cell_at" 22) := ⟨rfl, rfl, rfl, C8.fnScope_by (by decide +kernel), chkB_cls (by decide +kernel), fun _ _ _ _ _ _ us hl => match us, hl with | [_, _], _ => rfl⟩
theorem p__law_whole : DefP T G exc d__law_whole (mkD "_law_whole" 23) := ⟨rfl, rfl, rfl, C8.fnScope_by (by decide +kernel), chkB_cls (by decide +kernel), fun _ _ _ _ _ _ us hl => match us, hl with | [_], _ => rfl⟩
theorem p__law_draw : DefP T G exc d__law_draw (mkD "_law_draw" 24) := ⟨rfl, rfl, rfl, C8.fnScope_by (by decide +kernel), chkB_cls (by decide +kernel), fun _ _ _ _ _ _ us hl => match us, hl with | [_, _, _], _ => rfl⟩
theorem p__law_sentence : DefP T G exc d__law_sentence (mkD "_law_sentence" 25) := ⟨rfl, rfl, rfl, C8.fnScope_by (by decide +kernel), chkB_cls (by decide +kernel), fun _ _ _ _ _ _ us hl => match us, hl with | [_, _, _], _ => rfl⟩
theorem p__law_count : DefP T G exc d__law_count (mkD "_law_count" 26) := ⟨rfl, rfl, rfl, C8.fnScope_by (by decide +kernel), chkB_cls (by decide +kernel), fun _ _ _ _ _ _ us hl => match us, hl with | [_], _ => rfl⟩
theorem p__law_good : DefP T G exc d__law_good (mkD "_law_good" 27) := ⟨rfl, rfl, rfl, C8.fnScope_by (by decide +kernel), chkB_cls (by decide +kernel), fun _ _ _ _ _ _ us hl => match us, hl with | [_], _ => rfl⟩
theorem p__law_deep : DefP T G exc d__law_deep (mkD "_law_deep" 28) := ⟨rfl, rfl, rfl, C8.fnScope_by (by decide +kernel), chkB_cls (by decide +kernel), fun _ _ _ _ _ _ us hl => match us, hl with | [_], _ => rfl⟩
theorem p__law_named : DefP T G exc d__law_named (mkD "_law_named" 29) := ⟨rfl, rfl, rfl, C8.fnScope_by (by decide +kernel), chkB_cls (by decide +kernel), fun _ _ _ _ _ _ us hl => match us, hl with | [_], _ => rfl⟩
theorem p__law_spoilt : DefP T G exc d__law_spoilt (mkD "_law_spoilt" 30) := ⟨rfl, rfl, rfl, C8.fnScope_by (by decide +kernel), chkB_cls (by decide +kernel), fun _ _ _ _ _ _ us hl => match us, hl with | [_, _], _ => rfl⟩
theorem p__law_great : DefP T G exc d__law_great (mkD "_law_great" 31) := ⟨rfl, rfl, rfl, C8.fnScope_by (by decide +kernel), chkB_cls (by decide +kernel), fun _ _ _ _ _ _ us hl => match us, hl with | [_], _ => rfl⟩
theorem p_law : DefP T G exc d_law (mkD "law" 32) := ⟨rfl, rfl, rfl, C8.fnScope_by (by decide +kernel), chkB_cls (by decide +kernel), fun _ _ _ _ _ _ us hl => match us, hl with | [_], _ => rfl⟩
theorem tells {w : World} {K : PySem.W.Frag} {h : Heap} {mg : PySem.Str → Option Value} (X : K.In h) (Gm : h.Ns mainGlobals mg) (cx : He.SaysX fa fn tabs [] exK w h K) : Told K w mg T G exc (clsK K) where
  defs := fun f d h => by
    have c := cx.t.d
    match f, h with
    | 0, h =>
      obtain ⟨fd, F⟩ := c.def_ 0 (d := mkD "rises" 5) rfl
      cases h
      exact ⟨_, _, fd, p_rises, F, He.glo_ok X Gm (c.fact 0 (f := .glo "rises") rfl)⟩
    | 1, h =>
      obtain ⟨fd, F⟩ := c.def_ 1 (d := mkD "are_marks" 6) rfl
      cases h
      exact ⟨_, _, fd, p_are_marks, F, He.glo_ok X Gm (c.fact 1 (f := .glo "are_marks") rfl)⟩
    | 2, h =>
      obtain ⟨fd, F⟩ := c.def_ 2 (d := mkD "parts_of" 11) rfl
      cases h
      exact ⟨_, _, fd, p_parts_of, F, He.glo_ok X Gm (c.fact 2 (f := .glo "parts_of") rfl)⟩
    | 3, h =>
      obtain ⟨fd, F⟩ := c.def_ 3 (d := mkD "well_made" 12) rfl
      cases h
      exact ⟨_, _, fd, p_well_made, F, He.glo_ok X Gm (c.fact 3 (f := .glo "well_made") rfl)⟩
    | 4, h =>
      obtain ⟨fd, F⟩ := c.def_ 4 (d := mkD "count" 13) rfl
      cases h
      exact ⟨_, _, fd, p_count, F, He.glo_ok X Gm (c.fact 4 (f := .glo "count") rfl)⟩
    | 5, h =>
      obtain ⟨fd, F⟩ := c.def_ 5 (d := mkD "deep" 14) rfl
      cases h
      exact ⟨_, _, fd, p_deep, F, He.glo_ok X Gm (c.fact 5 (f := .glo "deep") rfl)⟩
    | 6, h =>
      obtain ⟨fd, F⟩ := c.def_ 6 (d := mkD "is_sentence" 15) rfl
      cases h
      exact ⟨_, _, fd, p_is_sentence, F, He.glo_ok X Gm (c.fact 6 (f := .glo "is_sentence") rfl)⟩
    | 7, h =>
      obtain ⟨fd, F⟩ := c.def_ 7 (d := mkD "ask_sentence" 16) rfl
      cases h
      exact ⟨_, _, fd, p_ask_sentence, F, He.glo_ok X Gm (c.fact 7 (f := .glo "ask_sentence") rfl)⟩
    | 8, h =>
      obtain ⟨fd, F⟩ := c.def_ 8 (d := mkD "words" 17) rfl
      cases h
      exact ⟨_, _, fd, p_words, F, He.glo_ok X Gm (c.fact 8 (f := .glo "words") rfl)⟩
    | 9, h =>
      obtain ⟨fd, F⟩ := c.def_ 9 (d := mkD "depth" 18) rfl
      cases h
      exact ⟨_, _, fd, p_depth, F, He.glo_ok X Gm (c.fact 9 (f := .glo "depth") rfl)⟩
    | 10, h =>
      obtain ⟨fd, F⟩ := c.def_ 10 (d := mkD "named" 19) rfl
      cases h
      exact ⟨_, _, fd, p_named, F, He.glo_ok X Gm (c.fact 10 (f := .glo "named") rfl)⟩
    | 11, h =>
      obtain ⟨fd, F⟩ := c.def_ 11 (d := mkD "marks_of" 20) rfl
      cases h
      exact ⟨_, _, fd, p_marks_of, F, He.glo_ok X Gm (c.fact 11 (f := .glo "marks_of") rfl)⟩
    | 12, h =>
      obtain ⟨fd, F⟩ := c.def_ 12 (d := mkD "_law_cell_at" 22) rfl
      cases h
      exact ⟨_, _, fd, p__law_cell_at, F, He.glo_ok X Gm (c.fact 12 (f := .glo "_law_cell_at") rfl)⟩
    | 13, h =>
      obtain ⟨fd, F⟩ := c.def_ 13 (d := mkD "_law_whole" 23) rfl
      cases h
      exact ⟨_, _, fd, p__law_whole, F, He.glo_ok X Gm (c.fact 13 (f := .glo "_law_whole") rfl)⟩
    | 14, h =>
      obtain ⟨fd, F⟩ := c.def_ 14 (d := mkD "_law_draw" 24) rfl
      cases h
      exact ⟨_, _, fd, p__law_draw, F, He.glo_ok X Gm (c.fact 14 (f := .glo "_law_draw") rfl)⟩
    | 15, h =>
      obtain ⟨fd, F⟩ := c.def_ 15 (d := mkD "_law_sentence" 25) rfl
      cases h
      exact ⟨_, _, fd, p__law_sentence, F, He.glo_ok X Gm (c.fact 15 (f := .glo "_law_sentence") rfl)⟩
    | 16, h =>
      obtain ⟨fd, F⟩ := c.def_ 16 (d := mkD "_law_count" 26) rfl
      cases h
      exact ⟨_, _, fd, p__law_count, F, He.glo_ok X Gm (c.fact 16 (f := .glo "_law_count") rfl)⟩
    | 17, h =>
      obtain ⟨fd, F⟩ := c.def_ 17 (d := mkD "_law_good" 27) rfl
      cases h
      exact ⟨_, _, fd, p__law_good, F, He.glo_ok X Gm (c.fact 17 (f := .glo "_law_good") rfl)⟩
    | 18, h =>
      obtain ⟨fd, F⟩ := c.def_ 18 (d := mkD "_law_deep" 28) rfl
      cases h
      exact ⟨_, _, fd, p__law_deep, F, He.glo_ok X Gm (c.fact 18 (f := .glo "_law_deep") rfl)⟩
    | 19, h =>
      obtain ⟨fd, F⟩ := c.def_ 19 (d := mkD "_law_named" 29) rfl
      cases h
      exact ⟨_, _, fd, p__law_named, F, He.glo_ok X Gm (c.fact 19 (f := .glo "_law_named") rfl)⟩
    | 20, h =>
      obtain ⟨fd, F⟩ := c.def_ 20 (d := mkD "_law_spoilt" 30) rfl
      cases h
      exact ⟨_, _, fd, p__law_spoilt, F, He.glo_ok X Gm (c.fact 20 (f := .glo "_law_spoilt") rfl)⟩
    | 21, h =>
      obtain ⟨fd, F⟩ := c.def_ 21 (d := mkD "_law_great" 31) rfl
      cases h
      exact ⟨_, _, fd, p__law_great, F, He.glo_ok X Gm (c.fact 21 (f := .glo "_law_great") rfl)⟩
    | 22, h =>
      obtain ⟨fd, F⟩ := c.def_ 22 (d := mkD "law" 32) rfl
      cases h
      exact ⟨_, _, fd, p_law, F, He.glo_ok X Gm (c.fact 22 (f := .glo "law") rfl)⟩
    | f + 23, h => exact absurd h (by simp [T, ds])
  glo := fun x d h hdk => by
    have c := cx.t.d
    unfold G at h
    split at h
    · rename_i e
      subst e
      cases h
      obtain ⟨t, e⟩ := He.str_ok X Gm (c.fact 41 (f := .str "LETTERS" "abcdef") rfl)
      exact ⟨_, .str _, e, ⟨t, rfl⟩, fun _ _ => .str _⟩
    split at h
    · cases h
      cases hdk
    split at h
    · rename_i e
      subst e
      cases h
      obtain ⟨t, e⟩ := He.int_ok X Gm (c.fact 43 (f := .int "MOST_WORDS" 200) rfl)
      exact ⟨_, .int _, e, ⟨t, rfl⟩, fun _ _ => .int _⟩
    split at h
    · rename_i e
      subst e
      cases h
      obtain ⟨t, e⟩ := He.int_ok X Gm (c.fact 44 (f := .int "MOST_DEEP" 24) rfl)
      exact ⟨_, .int _, e, ⟨t, rfl⟩, fun _ _ => .int _⟩
    cases h
  tab := fun x ks vs h => by
    have c := cx.t.d
    unfold G at h
    split at h
    · cases h
    split at h
    · rename_i e
      subst e
      obtain ⟨rfl, rfl⟩ := dk_inj h
      obtain ⟨es, n, kd⟩ := cx.t.tab 0 (t := (fun K => He.ga K "PARTS", ["yes", "not", "and", "or", "some next", "all next", "some until", "all until", "some always", "all always"])) rfl
      have ex := cx.more
      unfold exK at ex
      try simp only [Bool.and_eq_true] at ex
      exact ⟨_, He.glo_ok X Gm (c.fact 42 (f := .glo "PARTS") rfl), tabK_of kd ex⟩
    split at h
    · cases h
    split at h
    · cases h
    cases h
  blt := fun x hx => by
    have c := cx.t.d
    simp only [bnames, List.mem_cons, List.not_mem_nil, or_false] at hx
    rcases hx with rfl | rfl | rfl | rfl | rfl | rfl | rfl | rfl | rfl | rfl | rfl | rfl | rfl | rfl | rfl | rfl | rfl | rfl
    · exact He.free_ok X Gm (c.fact 23 (f := .free "len") rfl)
    · exact He.free_ok X Gm (c.fact 24 (f := .free "range") rfl)
    · exact He.free_ok X Gm (c.fact 25 (f := .free "list") rfl)
    · exact He.free_ok X Gm (c.fact 26 (f := .free "tuple") rfl)
    · exact He.free_ok X Gm (c.fact 27 (f := .free "sorted") rfl)
    · exact He.free_ok X Gm (c.fact 28 (f := .free "sum") rfl)
    · exact He.free_ok X Gm (c.fact 29 (f := .free "any") rfl)
    · exact He.free_ok X Gm (c.fact 30 (f := .free "all") rfl)
    · exact He.free_ok X Gm (c.fact 31 (f := .free "max") rfl)
    · exact He.free_ok X Gm (c.fact 32 (f := .free "min") rfl)
    · exact He.free_ok X Gm (c.fact 33 (f := .free "int") rfl)
    · exact He.free_ok X Gm (c.fact 34 (f := .free "isinstance") rfl)
    · exact He.free_ok X Gm (c.fact 35 (f := .free "zip") rfl)
    · exact He.free_ok X Gm (c.fact 36 (f := .free "str") rfl)
    · exact He.free_ok X Gm (c.fact 37 (f := .free "bool") rfl)
    · exact He.free_ok X Gm (c.fact 38 (f := .free "repr") rfl)
    · exact He.free_ok X Gm (c.fact 39 (f := .free "dict") rfl)
    · exact He.free_ok X Gm (c.fact 40 (f := .free "set") rfl)
  exo := fun c0 a h => by
    have c := cx.t.d
    unfold clsK at h
    split at h
    · rename_i e
      subst e
      cases h
      obtain ⟨q1, q2, q3, q4⟩ := He.exc_ok (c.fact 46 (f := .exc "NoSentence") rfl)
      exact ⟨⟨_, _, _, _, PySem.F.excBase_ValueError, q1⟩, He.glo_ok X Gm (c.fact 45 (f := .glo "NoSentence") rfl), q2, q3, q4⟩
    cases h
  all := fun c h => by
    simp only [exc, List.mem_cons, List.not_mem_nil, or_false] at h
    rcases h with rfl <;> (unfold clsK; repeat (first | rfl | split))
  exw := fun h => by
    unfold G at h
    split at h
    · (rename_i e; exact absurd e (by decide))
    split at h
    · (rename_i e; exact absurd e (by decide))
    split at h
    · (rename_i e; exact absurd e (by decide))
    split at h
    · (rename_i e; exact absurd e (by decide))
    cases h
  nrp := by decide +kernel
theorem facts {P : Program} {w : World} {K : PySem.W.Frag} {h : Heap} {mg : PySem.Str → Option Value} {f : Addr} (X : K.In h) (Gm : h.Ns mainGlobals mg) (hfa : mg ("law" : PySem.Str) = some (.ref f)) (c : He.SaysX fa fn tabs [] exK w h K) :
    ∃ fd : FuncData, (∀ (s : Shared) (v : Value), BindsTo s fd ⟨[v], []⟩ [("script", v)]) ∧ ∀ base : Heap, K.In base → base.Ns mainGlobals mg → FnOk P w K mg base (CXa P) 66 f fd ["script"] (spF ⟨T, clsK K, G, 66⟩ K 66 22) := by
  obtain ⟨a, fd, h1, h2, h3, h4, h5⟩ := fns_all (w := w) (tells X Gm c) 66 22 d_law rfl
  have e := hfa.symm.trans h2
  cases e
  exact ⟨fd, fun s v => h5 s [v] rfl, fun base _ _ => FnOk_any (h1 P base)⟩
end Law
open PySem PySem.W PySem.Calls PyProof.Rows
theorem PySem.Challenge.cw_foreseehall_k11_what_is_a_sentence_holds : PySem.Challenge.rw_foreseehall_k11_what_is_a_sentence.Holds := by
  w_on; o_law
  refine HandSHeadRun.head_any (r := OpenLaw.row PySem.Challenge.rw_foreseehall_k11_what_is_a_sentence) (q := view (OpenLaw.row PySem.Challenge.rw_foreseehall_k11_what_is_a_sentence).prog [32]) (H := Law.hk) (ob := Law.ob) (M := 8000) (loose := (["HallError", "NoSentence", "LETTERS", "rises", "are_marks", "MOST_WORDS", "MOST_DEEP", "PARTS", "parts_of", "well_made", "count", "deep", "is_sentence", "ask_sentence", "words", "depth", "named", "marks_of", "_law_cell_at", "_law_whole", "_law_draw", "_law_sentence", "_law_count", "_law_good", "_law_deep", "_law_named", "_law_spoilt", "_law_great"] : List PySem.Str)) (d := HandSHeadRun.topDef (OpenLaw.row PySem.Challenge.rw_foreseehall_k11_what_is_a_sentence).prog 32) (kwd := []) Law.ob_eq
    (by kernel_rfl) (fun s => by kernel_rfl) Law.head_run (by kernel_rfl) (by kernel_rfl) (by kernel_rfl) (by rfl) (by first | assumption | decide +kernel) (by decide +kernel) ⟨rfl, rfl, rfl, rfl, rfl, by decide +kernel⟩ ?hw ?hc
  case hw => w_witness2
  case hc =>
    refine L2.walk_ofE (l := PySem.Challenge.rw_foreseehall_k11_what_is_a_sentence) (n := 63) (k := 66) (x := "script") (CX := MP.CXa (PySem.Challenge.rw_foreseehall_k11_what_is_a_sentence).prog) rfl (by decide) (by kernel_rfl) ⟨rfl, by decide, by decide⟩ ?F (fun _ _ _ _ z => MP.cxa_no z)
    intro w mg fa h Y G hmg0
    obtain ⟨K, KX, c⟩ := Y
    have hmg : mg ("law" : PySem.Str) = some (.ref fa) := by
      have e : (HandSHeadRun.topDef (OpenLaw.row PySem.Challenge.rw_foreseehall_k11_what_is_a_sentence).prog 32).name = ("law" : PySem.Str) := by kernel_rfl
      rw [← e]
      exact hmg0
    obtain ⟨fd, hb, hF⟩ := Law.facts (P := (PySem.Challenge.rw_foreseehall_k11_what_is_a_sentence).prog) (w := w) KX G hmg c
    exact ⟨K, fd, _, KX, hb, fun H a ns hl _ hS => MP.law_sp (n := 63) Law.law_true H a ns hl hS, hF⟩
