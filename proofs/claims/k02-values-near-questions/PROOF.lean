import PyProof.Rows.All
import Wide.All
import OpenK.AllK
import Wide.FinOn
import HandS.ForMost
import HandS.Exc
import HandS.ExcOwn
import HandS.TupAny
import HandS.TupMul
import HandS.Conv
import HandS.Zip
import HandS.Wide
import HandS.IsInst
import HandS.TupLe
import HandS.Defaults
import HandS.RaiseMore
import HandS.TryOnly
import KE.KDictCopyH
import KE.KDictSum
import KE.SortCalls
import HandS.SetKeys
import HandS.Strs
import HandS.Small
import HandS.DictComp
import KE.KeyNested
import HandS.Style
import HandS.ExcSuper
import HandS.Lambda
import KE.DataCmp
import KE.DataFind
import KE.DataIsa
import KE.DataMinMax
import KE.KDictKeyed
import KE.KDictWalk
import HandS.Head0
import HandS.Head1
import HandS.Head2
import HandS.HeadEnd
import HandS.HeadHook1
import HandS.HeadHook2
import PySem.Challenge.RW_askedofall_k02_whole_values_near_questio
set_option Elab.async false
set_option linter.all false
set_option maxRecDepth 100000
set_option maxHeartbeats 0
/-! EvP: set(xs) of ints and texts; its length. -/
namespace Ev
open PySem PySem.Spec PyProof.Rows L2 PySem.W

instance decMemK (k : Key) (l : List Key) : Decidable (k ∈ l) := decidable_of_iff (l.any (fun j => decide (j = k)) = true) (by simp)
theorem setOf_cg {P : Program} {w : World} {h : Heap} {a : Addr} {S S' : Key → Bool} {n n' : Nat} (o : h.SetOf (mixKind P w) a S n) (e : ∀ k, S k = S' k) (en : n = n') : h.SetOf (mixKind P w) a S' n' := by
  have e : S = S' := funext e
  subst e en
  exact o
/-- the different keys of a list, by their first places -/
def nubK (ks : List Key) : List Key := ks.foldl (fun acc k => if k ∈ acc then acc else acc ++ [k]) []
theorem nubK_snoc (ks : List Key) (k : Key) : nubK (ks ++ [k]) = if k ∈ nubK ks then nubK ks else nubK ks ++ [k] := by
  unfold nubK; rw [List.foldl_append]; rfl
theorem mem_nubK (j : Key) (ks : List Key) : j ∈ nubK ks ↔ j ∈ ks := by
  suffices h : ∀ (ks acc : List Key), j ∈ ks.foldl (fun acc k => if k ∈ acc then acc else acc ++ [k]) acc ↔ j ∈ acc ∨ j ∈ ks by
    have := h ks []
    simpa [nubK] using this
  intro ks
  induction ks with
  | nil => intro acc; simp
  | cons k r ih =>
    intro acc
    rw [List.foldl_cons, ih]
    by_cases hk : k ∈ acc
    · rw [if_pos hk]
      constructor
      · rintro (h | h)
        · exact .inl h
        · exact .inr (List.mem_cons_of_mem _ h)
      · rintro (h | h)
        · exact .inl h
        · rcases List.mem_cons.mp h with rfl | h
          · exact .inl hk
          · exact .inr h
    · rw [if_neg hk]
      simp only [List.mem_append, List.mem_cons, List.not_mem_nil, or_false]
      exact or_assoc
theorem nubK_le (ks : List Key) : (nubK ks).length ≤ ks.length := by
  suffices h : ∀ (ks acc : List Key), (ks.foldl (fun acc k => if k ∈ acc then acc else acc ++ [k]) acc).length ≤ acc.length + ks.length by
    have := h ks []
    simpa [nubK] using this
  intro ks
  induction ks with
  | nil => intro acc; simp
  | cons k r ih =>
    intro acc
    rw [List.foldl_cons]
    refine Nat.le_trans (ih _) ?_
    by_cases hk : k ∈ acc
    · rw [if_pos hk, List.length_cons]; omega
    · rw [if_neg hk, List.length_append, List.length_cons]; simp; omega
/-- the set as the keys so far make it -/
def SetSo (P : Program) (w : World) (h : Heap) (S : Addr) (ks : List Key) : Prop := h.SetOf (mixKind P w) S (fun k => decide (k ∈ ks)) (nubK ks).length
section
variable {prog : Program} {w : World} {A : Around} {R : Result → Shared → Prop} {I : Addr} {fp wr : List Addr} {G : Array GenState → Array GenState → Prop} {n : Nat} {P : Nat → Value → Prop} {St : Nat → Shared → Prop}
/-- the loop that fills a set from a walk -/
theorem set_fill (Wk : WalksS prog w A.in1 I fp wr G n P St) (S : Addr) (off : S ∉ fp) (ks : List Key) (hn : ks.length = n) (key : ∀ i v, P i v → ∃ k, ks[i]? = some k ∧ (mixKind prog w).is k v = true ∧ v.scannable = true) (small : n + 1 < scanBound)
    (fin : ∀ s0 s', Moved (S :: wr) G s0 s' → SetSo prog w s'.heap S ks → St 0 s0 → R (.ok (.ret .none)) s' ∨ True) :
    ∀ (rest pre : List Key) (s : Shared), ks = pre ++ rest → St pre.length s → SetSo prog w s.heap S pre → (∀ s', Moved (S :: wr) G s s' → SetSo prog w s'.heap S ks → R (.ok (.ret .none)) s') →
      codeAny (model prog w) A (.builtin "set.update.loop" ⟨[.ref S, .ref I], []⟩) R s
  | [], pre, s, e, st, so, q => by
    have en : pre.length = n := by rw [← hn, e]; simp
    have ep : ks = pre := by rw [e]; simp
    have nw : S ∉ wr := fun z => off (Wk.sub _ z)
    refine codeAny_builtin PyProof.Rows.F.entry_set_update_loop ?_
    rw [Around.under_plainId PyProof.Rows.F.plain_set_update_loop _]
    rw [en] at st
    show wpAny _ A.in1 (pyNext (.ref I) >>= _) _ _ s
    refine wpAny_bind (Wk.done s _ _ st fun s' mv => ?_)
    show wpAny _ A.in1 (ret Value.none) _ _ s'
    obtain ⟨o, es, ep', t, ho, more⟩ := so
    exact wpAny_pure (q s' ⟨fun b o hb e => mv.heap b o (fun z => hb (List.mem_cons_of_mem _ z)) e, mv.gens, mv.drawn, mv.os, mv.toks⟩ (by rw [ep]; exact ⟨o, es, ep', t, mv.heap S _ nw ho, more⟩))
  | k :: rest, pre, s, e, st, so, q => by
    have lt : pre.length < n := by rw [← hn, e]; simp
    have nw : S ∉ wr := fun z => off (Wk.sub _ z)
    refine codeAny_builtin PyProof.Rows.F.entry_set_update_loop ?_
    rw [Around.under_plainId PyProof.Rows.F.plain_set_update_loop _]
    show wpAny _ A.in1 (pyNext (.ref I) >>= _) _ _ s
    refine wpAny_bind (Wk.item pre.length s _ _ lt st fun v s' hP st' mv => ?_)
    obtain ⟨k', ek, is, sc⟩ := key _ v hP
    have : k' = k := by
      rw [e, List.getElem?_append_right (Nat.le_refl _)] at ek
      simpa using ek.symm
    subst this
    have so' : s'.heap.SetOf (mixKind prog w) S (fun j => decide (j ∈ pre)) (nubK pre).length := by
      obtain ⟨o, es, ep', t, ho, more⟩ := so
      exact ⟨o, es, ep', t, mv.heap S _ nw ho, more⟩
    show wpAny _ A.in1 (holding [v] (setAdd S v) >>= _) _ _ s'
    refine wpAny_bind (wpAny_holding ?_)
    unfold setAdd
    refine wpAny_holding (wpAny_bind ((mixKind prog w).pyHash is ?_))
    have room : (nubK pre).length + 1 < scanBound := by have := nubK_le pre; omega
    refine wpAny_setAddHashed_of (knd := mixKind prog w) (s := { s' with toks := s'.toks + 1 }) is sc so' room fun h' sb made => ?_
    have so2 : SetSo prog w h' S (pre ++ [k']) := by
      refine setOf_cg made (fun j => ?_) ?_
      · rw [Bool.eq_iff_iff]; simp
      · rw [nubK_snoc]
        by_cases hk : k' ∈ pre
        · rw [if_pos ((mem_nubK k' pre).mpr hk), if_pos (by simpa using hk)]
        · rw [if_neg (fun z => hk ((mem_nubK k' pre).mp z)), if_neg (by simpa using hk), List.length_append]; rfl
    refine wpAny_pure ⟨plainId_quiet PyProof.Rows.F.plain_set_update_loop _, set_fill Wk S off ks hn key small fin rest (pre ++ [k']) _ (by rw [e]; simp) ?_ so2 fun s2 mv2 so3 => ?_⟩
    · rw [List.length_append]
      exact Wk.frame _ s' h' _ st' (Nat.le_succ _) fun b hb o eb => by rw [sb.2 b (fun z : b = S => off (by rw [← z]; exact hb))]; exact eb
    · refine q s2 ⟨fun b o hb eb => ?_, Wk.gtrans _ _ _ mv.gens mv2.gens, mv2.drawn.trans mv.drawn, mv2.os.trans mv.os, Nat.le_trans mv.toks (Nat.le_trans (Nat.le_succ _) mv2.toks)⟩ so3
      refine mv2.heap b o hb ?_
      show h'.get? b = some o
      rw [sb.2 b (fun z : b = S => hb (by rw [z]; exact List.mem_cons_self))]
      exact mv.heap b o (fun z => hb (List.mem_cons_of_mem _ z)) eb
end
/-- a set just made -/
abbrev newSet (led : Bool) : Obj := { cls := .type "set", dict := none, data := .set #[] 0 (.fresh 0 0 led) }
/-- the values are the keys ks -/
def KeysAre (P : Program) (w : World) (vs : List Value) (ks : List Key) : Prop := ks.length = vs.length ∧ ∀ (i : Nat) (v : Value), vs[i]? = some v → ∃ k, ks[i]? = some k ∧ (mixKind P w).is k v = true ∧ v.scannable = true
section
variable {prog : Program} {w : World} {A : Around} {E : Value → Shared → Prop} {s : Shared}
set_option maxHeartbeats 3200000 in
theorem call_set_list {l : Addr} {xs : Array Value} {ks : List Key} {Q : Value → Shared → Prop} (hh : A.handled = none) (seq : s.heap.IsList l xs) (are : KeysAre prog w xs.toList ks) (small : xs.size + 1 < scanBound)
    (h : ∀ (h' : Heap) (tk : Nat), SetSo prog w h' s.heap.objs.size ks → (∀ b o, b < s.heap.objs.size → s.heap.get? b = some o → h'.get? b = some o) → Q (.ref s.heap.objs.size) { s with heap := h', toks := tk }) :
    wpAny (model prog w) A (call (.type "set") [.ref l]) Q E s := by
  obtain ⟨mc, mt, mro⟩ := PySem.F.called_set.mro
  have f1 := PySem.F.called_set.made
  have f2 := PySem.F.called_set.sub
  have f3 := PySem.F.called_set.notType
  have f4 := PySem.F.called_set.canCreate
  have f5 := PySem.F.typeCall_set_1 (.ref l)
  refine wpAny_call (codeAny_of_tree ?_)
  show wpAny _ _ (callAny (.type "set") _) _ _ _
  refine wpAny_pure ⟨Code.quiet_builtin _ (by decide +kernel), codeAny_builtin PySem.F.entry_type_call ?_⟩
  rw [Around.under_plain (weight_type_call_type "set" [.ref l] []) rfl]
  repeat (any_goals (first | assumption | wp_step))
  refine codeAny_mono (code_set_new_1 (.ref l) (E := E) (Q₁ := fun v s1 => ∃ led, v = .ref s.heap.objs.size ∧ s1 = { s with heap := s.heap.push (newSet led) }) fun led => ⟨led, rfl, rfl⟩) fun r s1 hr => ?_
  match r, hr with
  | .error _, hr => exact hr
  | .ok .next, hr => exact hr.elim
  | .ok .brk, hr => exact hr.elim
  | .ok .cont, hr => exact hr.elim
  | .ok (.ret v), ⟨led, e1, e2⟩ =>
    subst e1 e2
    have hS : (s.heap.push (newSet led)).get? s.heap.objs.size = some (newSet led) := Heap.get?_push_size _ rfl
    have hT : Shared.TypeIs { s with heap := s.heap.push (newSet led) } (.ref s.heap.objs.size) "set" := ⟨_, hS, rfl⟩
    have g1 := PySem.F.called_set.init.lookup
    have g2 := PySem.F.called_set.init.bind (.ref s.heap.objs.size)
    repeat (any_goals (first | assumption | wp_step))
    refine codeAny_mono (codeAny_call_builtin (R := wants (fun v s2 => v = .none ∧ ∃ h' tk, s2 = { s with heap := h', toks := tk } ∧ SetSo prog w h' s.heap.objs.size ks ∧ ∀ b o, b < s.heap.objs.size → s.heap.get? b = some o → h'.get? b = some o) E)
      PySem.F.called_set.init.plain PySem.F.entry_set_init (check_set_init_1 hT ?_)) fun r2 s2 hr2 => ?_
    · obtain ⟨⟨oc, od, odt, osl⟩, hol, hc, nl, hd⟩ := seq
      simp only at hc hd
      subst hc hd
      have ltl : l < s.heap.objs.size := Heap.lt_size hol
      have hol2 : (s.heap.push (newSet led)).get? l = some { cls := .type "list", dict := od, data := .seq xs nl, slots := osl } := Heap.get?_push_of_some _ hol
      have k1 := PySem.F.sub_list_set
      have k2 := PySem.F.sub_list_frozenset
      have k3 : (Value.type "list" == Value.type "dict") = false := by decide
      have seq2 : (s.heap.push (newSet led)).IsList l xs := ⟨_, hol2, rfl, nl, rfl⟩
      have sz : (s.heap.push (newSet led)).objs.size = s.heap.objs.size + 1 := Heap.size_push _ _
      unfold Builtin.«set.__init__» noKeywords Builtin.Frozenset.updateFrom
      generalize hit : pyIter = it
      wp_walk
      subst hit
      refine wpAny_pyIter_list seq2 (wpAny_bind (wpAny_runValue ?_))
      have ne : l ≠ (s.heap.push (newSet led)).objs.size := by rw [sz]; exact Nat.ne_of_lt (Nat.lt_succ_of_lt ltl)
      have off : s.heap.objs.size ∉ [(s.heap.push (newSet led)).objs.size, l] := by
        rw [sz]
        simp only [List.mem_cons, List.not_mem_nil, or_false, not_or]
        exact ⟨Nat.ne_of_lt (Nat.lt_succ_self _), Nat.ne_of_gt ltl⟩
      refine set_fill ((Walks.list (by simp [hh]) _ l ne xs).toS) s.heap.objs.size off ks (by rw [are.1]; simp) (fun i v hv => are.2 i v (by rw [Array.getElem?_toList]; exact hv)) small (fun _ _ _ _ _ => .inr trivial) ks [] _ rfl
        ⟨⟨_, Heap.get?_push_size _ rfl, rfl, rfl⟩, (seq2.push _)⟩ ?first ?last
      case first =>
        exact ⟨_, #[], 0, _, Heap.get?_push_of_some _ hS, ⟨rfl, rfl, rfl⟩, rfl, (fun e he => by simp at he), (fun k => by simp), (by decide), (by rfl), rfl⟩
      case last =>
        rintro ⟨h', g', d', tk', os'⟩ mv so
        obtain rfl : g' = s.gens := mv.gens
        obtain rfl : d' = s.drawn := mv.drawn
        obtain rfl : os' = s.os := mv.os
        show wpAny _ _ _ _ _ _
        refine wpAny_pure ?_
        show wpAny _ _ (ret Value.none) _ _ _
        refine wpAny_pure ⟨rfl, h', tk', rfl, so, fun b o hb e => mv.heap b o ?_ (Heap.get?_push_of_some _ (Heap.get?_push_of_some _ e))⟩
        rw [sz]
        simp only [List.mem_cons, List.not_mem_nil, or_false, not_or]
        exact ⟨Nat.ne_of_lt hb, Nat.ne_of_lt (Nat.lt_succ_of_lt hb)⟩
    · match r2, hr2 with
      | .error _, hr2 => exact hr2
      | .ok .next, hr2 => exact hr2.elim
      | .ok .brk, hr2 => exact hr2.elim
      | .ok .cont, hr2 => exact hr2.elim
      | .ok (.ret v), ⟨e3, h', tk, e4, so, kp⟩ =>
        subst e3 e4
        repeat (any_goals (first | assumption | wp_step))
        exact h _ _ so kp
set_option maxHeartbeats 3200000 in
theorem call_set_tuple {l : Addr} {xs : Array Value} {ks : List Key} {Q : Value → Shared → Prop} (hh : A.handled = none) (seq : s.heap.IsTuple l xs) (are : KeysAre prog w xs.toList ks) (small : xs.size + 1 < scanBound)
    (h : ∀ (h' : Heap) (tk : Nat), SetSo prog w h' s.heap.objs.size ks → (∀ b o, b < s.heap.objs.size → s.heap.get? b = some o → h'.get? b = some o) → Q (.ref s.heap.objs.size) { s with heap := h', toks := tk }) :
    wpAny (model prog w) A (call (.type "set") [.ref l]) Q E s := by
  obtain ⟨mc, mt, mro⟩ := PySem.F.called_set.mro
  have f1 := PySem.F.called_set.made
  have f2 := PySem.F.called_set.sub
  have f3 := PySem.F.called_set.notType
  have f4 := PySem.F.called_set.canCreate
  have f5 := PySem.F.typeCall_set_1 (.ref l)
  refine wpAny_call (codeAny_of_tree ?_)
  show wpAny _ _ (callAny (.type "set") _) _ _ _
  refine wpAny_pure ⟨Code.quiet_builtin _ (by decide +kernel), codeAny_builtin PySem.F.entry_type_call ?_⟩
  rw [Around.under_plain (weight_type_call_type "set" [.ref l] []) rfl]
  repeat (any_goals (first | assumption | wp_step))
  refine codeAny_mono (code_set_new_1 (.ref l) (E := E) (Q₁ := fun v s1 => ∃ led, v = .ref s.heap.objs.size ∧ s1 = { s with heap := s.heap.push (newSet led) }) fun led => ⟨led, rfl, rfl⟩) fun r s1 hr => ?_
  match r, hr with
  | .error _, hr => exact hr
  | .ok .next, hr => exact hr.elim
  | .ok .brk, hr => exact hr.elim
  | .ok .cont, hr => exact hr.elim
  | .ok (.ret v), ⟨led, e1, e2⟩ =>
    subst e1 e2
    have hS : (s.heap.push (newSet led)).get? s.heap.objs.size = some (newSet led) := Heap.get?_push_size _ rfl
    have hT : Shared.TypeIs { s with heap := s.heap.push (newSet led) } (.ref s.heap.objs.size) "set" := ⟨_, hS, rfl⟩
    have g1 := PySem.F.called_set.init.lookup
    have g2 := PySem.F.called_set.init.bind (.ref s.heap.objs.size)
    repeat (any_goals (first | assumption | wp_step))
    refine codeAny_mono (codeAny_call_builtin (R := wants (fun v s2 => v = .none ∧ ∃ h' tk, s2 = { s with heap := h', toks := tk } ∧ SetSo prog w h' s.heap.objs.size ks ∧ ∀ b o, b < s.heap.objs.size → s.heap.get? b = some o → h'.get? b = some o) E)
      PySem.F.called_set.init.plain PySem.F.entry_set_init (check_set_init_1 hT ?_)) fun r2 s2 hr2 => ?_
    · obtain ⟨⟨oc, od, odt, osl⟩, hol, hc, nl, hd⟩ := seq
      simp only at hc hd
      subst hc hd
      have ltl : l < s.heap.objs.size := Heap.lt_size hol
      have hol2 : (s.heap.push (newSet led)).get? l = some { cls := .type "tuple", dict := od, data := .seq xs nl, slots := osl } := Heap.get?_push_of_some _ hol
      have k1 := PySem.F.sub_tuple_set
      have k2 := PySem.F.sub_tuple_frozenset
      have k3 : (Value.type "tuple" == Value.type "dict") = false := by decide
      have seq2 : (s.heap.push (newSet led)).IsTuple l xs := ⟨_, hol2, rfl, nl, rfl⟩
      have sz : (s.heap.push (newSet led)).objs.size = s.heap.objs.size + 1 := Heap.size_push _ _
      unfold Builtin.«set.__init__» noKeywords Builtin.Frozenset.updateFrom
      generalize hit : pyIter = it
      wp_walk
      subst hit
      refine wpAny_pyIter_tuple seq2 (wpAny_bind (wpAny_runValue ?_))
      have ne : l ≠ (s.heap.push (newSet led)).objs.size := by rw [sz]; exact Nat.ne_of_lt (Nat.lt_succ_of_lt ltl)
      have off : s.heap.objs.size ∉ [(s.heap.push (newSet led)).objs.size, l] := by
        rw [sz]
        simp only [List.mem_cons, List.not_mem_nil, or_false, not_or]
        exact ⟨Nat.ne_of_lt (Nat.lt_succ_self _), Nat.ne_of_gt ltl⟩
      refine set_fill ((Walks.tuple (by simp [hh]) _ l ne xs).toS) s.heap.objs.size off ks (by rw [are.1]; simp) (fun i v hv => are.2 i v (by rw [Array.getElem?_toList]; exact hv)) small (fun _ _ _ _ _ => .inr trivial) ks [] _ rfl
        ⟨⟨_, Heap.get?_push_size _ rfl, rfl, rfl⟩, (seq2.push _)⟩ ?first ?last
      case first =>
        exact ⟨_, #[], 0, _, Heap.get?_push_of_some _ hS, ⟨rfl, rfl, rfl⟩, rfl, (fun e he => by simp at he), (fun k => by simp), (by decide), (by rfl), rfl⟩
      case last =>
        rintro ⟨h', g', d', tk', os'⟩ mv so
        obtain rfl : g' = s.gens := mv.gens
        obtain rfl : d' = s.drawn := mv.drawn
        obtain rfl : os' = s.os := mv.os
        show wpAny _ _ _ _ _ _
        refine wpAny_pure ?_
        show wpAny _ _ (ret Value.none) _ _ _
        refine wpAny_pure ⟨rfl, h', tk', rfl, so, fun b o hb e => mv.heap b o ?_ (Heap.get?_push_of_some _ (Heap.get?_push_of_some _ e))⟩
        rw [sz]
        simp only [List.mem_cons, List.not_mem_nil, or_false, not_or]
        exact ⟨Nat.ne_of_lt hb, Nat.ne_of_lt (Nat.lt_succ_of_lt hb)⟩
    · match r2, hr2 with
      | .error _, hr2 => exact hr2
      | .ok .next, hr2 => exact hr2.elim
      | .ok .brk, hr2 => exact hr2.elim
      | .ok .cont, hr2 => exact hr2.elim
      | .ok (.ret v), ⟨e3, h', tk, e4, so, kp⟩ =>
        subst e3 e4
        repeat (any_goals (first | assumption | wp_step))
        exact h _ _ so kp
end
end Ev

/-! EvA: the plain part: data D, the own syntax (Ex, St ..), the evaluator. No heap in sight. -/
namespace Ev
open PySem

/-! ### data -/
inductive D where
  | non | bl (b : Bool) | int (i : Int) | str (s : Str) | tup (xs : List D) | lst (xs : List D)
  deriving Inhabited

mutual
def D.toP : D → PyData
  | .non => .none
  | .bl b => .bool b
  | .int i => .int i
  | .str s => .str s
  | .tup xs => .tuple (D.toPs xs)
  | .lst xs => .list (D.toPs xs)
def D.toPs : List D → List PyData
  | [] => []
  | x :: xs => x.toP :: D.toPs xs
end
mutual
def D.depth : D → Nat
  | .tup xs => D.depths xs + 1
  | .lst xs => D.depths xs + 1
  | _ => 0
def D.depths : List D → Nat
  | [] => 0
  | x :: xs => max x.depth (D.depths xs)
end
mutual
def eqD : D → D → Bool
  | .non, .non => true
  | .bl a, .bl b => a == b
  | .bl a, .int j => (if a then 1 else 0) == j
  | .int i, .bl b => i == (if b then 1 else 0)
  | .int i, .int j => i == j
  | .str x, .str y => x == y
  | .tup xs, .tup ys => eqDs xs ys
  | .lst xs, .lst ys => eqDs xs ys
  | _, _ => false
def eqDs : List D → List D → Bool
  | [], [] => true
  | x :: xs, y :: ys => eqD x y && eqDs xs ys
  | _, _ => false
end
mutual
def ltD : D → D → Bool
  | .bl a, .bl b => !a && b
  | .int i, .int j => decide (i < j)
  | .str x, .str y => decide (x.cps.toList < y.cps.toList)
  | .tup xs, .tup ys => ltDs xs ys
  | .lst xs, .lst ys => ltDs xs ys
  | _, _ => false
def ltDs : List D → List D → Bool
  | [], [] => false
  | [], _ :: _ => true
  | _ :: _, [] => false
  | x :: xs, y :: ys => if eqD x y then ltDs xs ys else ltD x y
end
-- of one make at each place: the order is told
mutual
def alikeD : D → D → Bool
  | .non, .non => true
  | .bl _, .bl _ => true
  | .int _, .int _ => true
  | .str _, .str _ => true
  | .tup xs, .tup ys => alikeDs xs ys
  | .lst xs, .lst ys => alikeDs xs ys
  | _, _ => false
def alikeDs : List D → List D → Bool
  | x :: xs, y :: ys => alikeD x y && alikeDs xs ys
  | [], _ => true
  | _ :: _, [] => true
end
def D.isNon : D → Bool
  | .non => true
  | _ => false
mutual
def sameD : D → D → Bool
  | .non, .non => true
  | .bl a, .bl b => a == b
  | .int i, .int j => i == j
  | .str x, .str y => x == y
  | .tup xs, .tup ys => sameDs xs ys
  | .lst xs, .lst ys => sameDs xs ys
  | _, _ => false
def sameDs : List D → List D → Bool
  | [], [] => true
  | x :: xs, y :: ys => sameD x y && sameDs xs ys
  | _, _ => false
end

/-! ### the own syntax -/
inductive Bi where
  | len | all | any | abs | int | str | bool | list | tuple | sum | min | max | sorted | dict | lenset | sortset
  deriving DecidableEq, Inhabited
inductive Mt where
  | append | pop | get | index | count | upper | join | update
  deriving DecidableEq, Inhabited
inductive Pt where
  | n (i : Nat)
  | t (ps : List Nat)
  deriving Inhabited

mutual
inductive Ex where
  | v (i : Nat)
  | c (d : D)
  | g (x : Str) (d : D)
  | gd (x : Str) (kvs : List (D × D))
  | tup (es : Exs)
  | lst (es : Exs)
  | dic (ps : Kvs)
  | nl (e : Ex)
  | ndt
  | bin (op : Operator) (a b : Ex)
  | neg (a : Ex)
  | nt (a : Ex)
  | and (a b : Ex)
  | or (a b : Ex)
  | cmp (op : CmpOp) (a b : Ex)
  | cmp2 (op op' : CmpOp) (a b c : Ex)
  | ite (c a b : Ex)
  | ix (a i : Ex)
  | sl (a : Ex) (lo hi : Ox)
  | rv (a : Ex)
  | call (f : Nat) (es : Exs)
  | bi (b : Bi) (es : Exs)
  | lens (e : Ex)
  | lrg (a b : Ex)
  | lrg0 (b : Ex)
  | isi (e : Ex) (T : String)
  | mt (m : Mt) (o : Ex) (es : Exs)
  | lc (e : Ex) (p : Pt) (it : Wk) (c : Ox) (own : List Nat)
  | dc (k v : Ex) (p : Pt) (it : Wk) (c : Ox) (own : List Nat)
inductive Exs where
  | nil
  | cons (e : Ex) (es : Exs)
inductive Kvs where
  | nil
  | cons (k v : Ex) (r : Kvs)
inductive Ox where
  | no
  | so (e : Ex)
inductive Wk where
  | sq (e : Ex)
  | r1 (a : Ex)
  | r2 (a b : Ex)
  | r3 (a b c : Ex)
  | zp (a b : Ex)
  | en (a : Ex)
  | itm (a : Ex)
end
instance : Inhabited Ex := ⟨.c .non⟩

mutual
inductive St where
  | asg (p : Pt) (e : Ex)
  | aug (op : Operator) (i : Nat) (e : Ex)
  | sst (o i e : Ex)
  | saug (op : Operator) (o i e : Ex)
  | ex (e : Ex)
  | ife (c : Ex) (a b : Ss)
  | for (p : Pt) (it : Wk) (b : Ss)
  | wh (c : Ex) (b : Ss)
  | ret (e : Ex)
  | retn
  | brk
  | cnt
  | pas
inductive Ss where
  | nil
  | cons (s : St) (r : Ss)
end
instance : Inhabited St := ⟨.pas⟩

/-! ### values, cells, results -/
inductive W where
  | dat (d : D)
  | fdi (t : Bool) (kvs : List (D × D))
  | ref (n : Nat)
  | tup (ws : List W)
  | scr (ns : List Int)
  deriving Inhabited
inductive Cell where
  | lst (ds : List D)
  | dic (t : Bool) (kvs : List (D × D))
  deriving Inhabited
abbrev Store := List Cell
abbrev Env := List (Option W)
structure Exn where
  cls : Nat
  args : List D
inductive Res (α : Type) where
  | ok (a : α) (st : Store)
  | exn (x : Exn) (st : Store)
  | stuck
abbrev M (α : Type) := Store → Res α
@[inline] def M.bind {α β : Type} (m : M α) (f : α → M β) : M β := fun st => match m st with
  | .ok a st' => f a st'
  | .exn x st' => .exn x st'
  | .stuck => .stuck
instance : Monad M where
  pure a := fun st => .ok a st
  bind := M.bind
def stk {α : Type} : M α := fun _ => .stuck
def lift {α : Type} (o : Option α) : M α := fun st => match o with
  | some a => .ok a st
  | none => .stuck

@[simp] theorem bind_ok {α β : Type} {m : M α} {f : α → M β} {st st' : Store} {a : α} (h : m st = .ok a st') : (m >>= f) st = f a st' := by
  show M.bind m f st = _; simp [M.bind, h]
theorem bind_eq {α β : Type} (m : M α) (f : α → M β) (st : Store) : (m >>= f) st = match m st with
  | .ok a st' => f a st'
  | .exn x st' => .exn x st'
  | .stuck => .stuck := rfl
@[simp] theorem pure_eq {α : Type} (a : α) (st : Store) : (pure a : M α) st = .ok a st := rfl
@[simp] theorem stk_eq {α : Type} (st : Store) : (stk : M α) st = .stuck := rfl
@[simp] theorem lift_some {α : Type} (a : α) (st : Store) : lift (some a) st = .ok a st := rfl
@[simp] theorem lift_none {α : Type} (st : Store) : lift (none : Option α) st = .stuck := rfl

inductive Fl where
  | nx (ρ : Env)
  | ret (w : W)
  | brk (ρ : Env)
  | ct (ρ : Env)

/-- a mutable thing read as data -/
def vw (w : W) (st : Store) : W := match w with
  | .ref n => (match st[n]? with
    | some (.lst ds) => .dat (.lst ds)
    | some (.dic t kvs) => .fdi t kvs
    | none => .ref n)
  | w => w
def vwM (w : W) : M W := fun st => .ok (vw w st) st
/-- as data that stay: a mutable thing is none -/
def dat? : W → Option D
  | .dat d => some d
  | _ => none
def dats? : List W → Option (List D)
  | [] => some []
  | w :: ws => (match w with
    | .dat d => (dats? ws).map (d :: ·)
    | _ => none)
def mkTup (ws : List W) : W := match dats? ws with
  | some ds => .dat (.tup ds)
  | none => .tup ws

/-! ### operators -/
abbrev bigLine : Nat := 16777216
def okMul (i j : Int) : Bool := (decide (-(2 ^ 64) < i) && decide (i < 2 ^ 64)) || (decide (-(2 ^ 64) < j) && decide (j < 2 ^ 64))
def binD : Operator → D → D → Option D
  | .Add, .int i, .int j => some (.int (i + j))
  | .Add, .str x, .str y => if x.length + y.length ≤ bigLine then some (.str (x ++ y)) else none
  | .Add, .lst xs, .lst ys => if xs.length + ys.length ≤ bigLine then some (.lst (xs ++ ys)) else none
  | .Add, .tup xs, .tup ys => if xs.length + ys.length ≤ bigLine then some (.tup (xs ++ ys)) else none
  | .Sub, .int i, .int j => some (.int (i - j))
  | .Mult, .int i, .int j => if okMul i j then some (.int (i * j)) else none
  | .Mult, .tup xs, .int k => if 2 ≤ k ∧ k ≤ 1000 ∧ xs.length ≤ 1000 ∧ xs ≠ [] then some (.tup (List.replicate k.toNat xs).flatten) else none
  | .Mult, .lst xs, .int k => if -(2 ^ 63) ≤ k ∧ k < 2 ^ 63 ∧ xs.length * k.toNat ≤ bigLine then some (.lst (List.replicate k.toNat xs).flatten) else none
  | .FloorDiv, .int i, .int j => if 0 < j ∧ j < 1073741824 then some (.int (i / j)) else none
  | .Mod, .int i, .int j => if 0 < j then some (.int (i % j)) else none
  | .Pow, .int i, .int j => if 0 ≤ j ∧ j ≤ 1000000 ∧ i.natAbs < 2 ^ 64 then some (.int (i ^ j.toNat)) else none
  | _, _, _ => none
/-- x op= y, where x does not change in place -/
def augD : Operator → D → D → Option D
  | .Add, .int i, .int j => some (.int (i + j))
  | .Add, .str x, .str y => binD .Add (.str x) (.str y)
  | .Sub, .int i, .int j => some (.int (i - j))
  | _, _, _ => none
def okDepth (a b : D) : Bool := Nat.ble (min a.depth b.depth) 60
/-- x in y, texts -/
def inStr (x y : Str) : Bool := !(Builtin.Str.occurrences y x 0 y.length 1).isEmpty
def anyEq (x : D) : List D → Bool
  | [] => false
  | y :: ys => eqD y x || anyEq x ys
def hasKey (kvs : List (D × D)) (k : D) : Bool := kvs.any fun p => eqD p.1 k
def getKey (kvs : List (D × D)) (k : D) : Option D := (kvs.find? fun p => eqD p.1 k).map (·.2)
def putKey (kvs : List (D × D)) (k v : D) : List (D × D) := if hasKey kvs k then kvs.map fun p => if eqD p.1 k then (p.1, v) else p else kvs ++ [(k, v)]
-- what may be a key: scalars, or tuples of such, nested
mutual
def isKey : D → Bool
  | .int _ => true
  | .str _ => true
  | .tup xs => areKeys xs
  | _ => false
def areKeys : List D → Bool
  | [] => true
  | x :: xs => isKey x && areKeys xs
end
/-- a key by value; a key that is a tuple, not too deep -/
def isLeaf : D → Bool
  | .int _ => true
  | .str _ => true
  | _ => false
def isTupK : D → Bool
  | .tup xs => areKeys xs && Nat.ble (D.depths xs) 7
  | _ => false
def isKeyT (t : Bool) (k : D) : Bool := if t then isTupK k else isLeaf k
def isD (a : D) (b : D) : Option Bool := match b with
  | .non => some a.isNon
  | .bl b => (match a with
    | .bl a => some (a == b)
    | _ => some false)
  | _ => none
def inD (x : D) (y : W) : Option Bool := match y with
  | .dat (.str y) => (match x with
    | .str x => some (inStr x y)
    | _ => none)
  | .dat (.tup ys) => if Nat.ble (min (D.depths ys) x.depth) 60 then some (anyEq x ys) else none
  | .dat (.lst ys) => if Nat.ble (min (D.depths ys) x.depth) 60 then some (anyEq x ys) else none
  | .fdi t kvs => if isKeyT t x then some (hasKey kvs x) else none
  | _ => none
def cmpW (op : CmpOp) (a b : W) : Option Bool := match op with
  | .In => (dat? a).bind fun x => inD x b
  | .NotIn => (dat? a).bind fun x => (inD x b).map (!·)
  | op => (dat? a).bind fun x => (dat? b).bind fun y => match op with
    | .Eq => if okDepth x y then some (eqD x y) else none
    | .NotEq => if okDepth x y then some (!eqD x y) else none
    | .Lt => if okDepth x y && alikeD x y && !x.isNon then some (ltD x y) else none
    | .Gt => if okDepth x y && alikeD x y && !x.isNon then some (ltD y x) else none
    | .LtE => if okDepth x y && alikeD x y && !x.isNon then some (!ltD y x) else none
    | .GtE => if okDepth x y && alikeD x y && !x.isNon then some (!ltD x y) else none
    | .Is => isD x y
    | .IsNot => (isD x y).map (!·)
    | _ => none
/-- a place from the left, or from behind -/
def atN (n : Nat) (i : Int) : Option Nat := if 0 ≤ i then (if i < n then some i.toNat else none) else if -(n : Int) ≤ i then some (i + n).toNat else none
def ixW (a i : W) : Option W := match a, i with
  | .dat (.tup xs), .dat (.int i) => (atN xs.length i).bind fun j => xs[j]?.map .dat
  | .dat (.lst xs), .dat (.int i) => (atN xs.length i).bind fun j => xs[j]?.map .dat
  | .dat (.str z), .dat (.int i) => if z.length ≤ bigLine then (atN z.length i).bind fun j => z.cps[j]?.map fun c => .dat (.str ⟨#[c]⟩) else none
  | .fdi t kvs, .dat k => if isKeyT t k then (getKey kvs k).map .dat else none
  | .tup ws, .dat (.int i) => (atN ws.length i).bind fun j => ws[j]?
  | _, _ => none
/-- a slice's bound, cut to 0 .. n -/
def slB (n d : Nat) : Option Int → Nat
  | none => d
  | some i => if i < 0 then (i + n).toNat else min i.toNat n
def cutD {α : Type} (xs : List α) (lo hi : Option Int) : List α := (xs.drop (slB xs.length 0 lo)).take (slB xs.length xs.length hi - slB xs.length 0 lo)
def slW (a : W) (lo hi : Option Int) : Option W := match a with
  | .dat (.tup xs) => some (.dat (.tup (cutD xs lo hi)))
  | .dat (.lst xs) => some (.dat (.lst (cutD xs lo hi)))
  | .dat (.str z) => if z.length ≤ bigLine then some (.dat (.str ⟨(cutD z.cps.toList lo hi).toArray⟩)) else none
  | _ => none
def rvW (a : W) : Option W := match a with
  | .dat (.tup xs) => some (.dat (.tup xs.reverse))
  | .dat (.lst xs) => some (.dat (.lst xs.reverse))
  | _ => none
def isiD (d : D) (T : String) : Option Bool := match T with
  | "str" => some (match d with | .str _ => true | _ => false)
  | "int" => some (match d with | .int _ => true | .bl _ => true | _ => false)
  | "bool" => some (match d with | .bl _ => true | _ => false)
  | "tuple" => some (match d with | .tup _ => true | _ => false)
  | "list" => some (match d with | .lst _ => true | _ => false)
  | _ => none
def bools? : List D → Option (List Bool)
  | [] => some []
  | .bl b :: r => (bools? r).map (b :: ·)
  | _ => none
def ints? : List D → Option (List Int)
  | [] => some []
  | .int b :: r => (ints? r).map (b :: ·)
  | _ => none
def seq? : W → Option (List D)
  | .dat (.tup xs) => some xs
  | .dat (.lst xs) => some xs
  | .scr ns => some (ns.map .int)
  | _ => none
/-- all pairs of one make -/
def alikeAllD (xs : List D) : Bool := xs.all fun x => !x.isNon && xs.all fun y => alikeD x y
/-- all are tuples, or none is a tuple -/
def sortOk (xs : List D) : Bool := (xs.all fun x => match x with
    | .tup _ => true
    | _ => false) || xs.all fun x => match x with
    | .tup _ => false
    | _ => true
def sortD (xs : List D) : List D := xs.mergeSort fun a b => !ltD b a
def nubD (xs : List D) : List D := xs.foldl (fun acc x => if anyEq x acc then acc else acc ++ [x]) []
def biW (b : Bi) (ws : List W) : Option W := match b, ws with
  | .len, [.dat (.str z)] => if z.length ≤ bigLine then some (.dat (.int z.length)) else none
  | .len, [.dat (.tup xs)] => some (.dat (.int xs.length))
  | .len, [.dat (.lst xs)] => some (.dat (.int xs.length))
  | .all, [.dat (.lst xs)] => (bools? xs).map fun bs => .dat (.bl (bs.all id))
  | .any, [.dat (.lst xs)] => (bools? xs).map fun bs => .dat (.bl (bs.any id))
  | .abs, [.dat (.int i)] => some (.dat (.int (if i < 0 then -i else i)))
  | .int, [.dat (.int i)] => some (.dat (.int i))
  | .int, [.dat (.bl b)] => some (.dat (.int (if b then 1 else 0)))
  | .str, [.dat (.int i)] => if i.natAbs < 10 ^ 100 then some (.dat (.str (Str.ofString (toString i)))) else none
  | .str, [.dat (.str z)] => some (.dat (.str z))
  | .bool, [.dat (.bl b)] => some (.dat (.bl b))
  | .list, [.dat (.tup xs)] => some (.dat (.lst xs))
  | .list, [.dat (.lst xs)] => some (.dat (.lst xs))
  | .list, [.scr ns] => some (.dat (.lst (ns.map .int)))
  | .tuple, [.dat (.tup xs)] => some (.dat (.tup xs))
  | .tuple, [.dat (.lst xs)] => some (.dat (.tup xs))
  | .sum, [.dat (.lst xs)] => (ints? xs).map fun ns => .dat (.int ns.sum)
  | .min, [.dat (.int i), .dat (.int j)] => some (.dat (.int (if j < i then j else i)))
  | .max, [.dat (.int i), .dat (.int j)] => some (.dat (.int (if j > i then j else i)))
  | .sorted, [.dat (.lst xs)] => if alikeAllD xs && sortOk xs && Nat.ble (D.depths xs) 50 then some (.dat (.lst (sortD xs))) else none
  | .sorted, [.fdi _ kvs] => if alikeAllD (kvs.map (·.1)) && sortOk (kvs.map (·.1)) && Nat.ble (D.depths (kvs.map (·.1))) 50 then some (.dat (.lst (sortD (kvs.map (·.1))))) else none
  | .lenset, [.dat (.tup xs)] => if xs.all isLeaf && Nat.ble xs.length 4000 then some (.dat (.int (nubD xs).length)) else none
  | .lenset, [.dat (.lst xs)] => if xs.all isLeaf && Nat.ble xs.length 4000 then some (.dat (.int (nubD xs).length)) else none
  | .dict, [.fdi t kvs] => some (.fdi t kvs)
  | .dict, [.dat (.lst xs)] => (pairs? xs).map fun ps => .fdi true (ps.foldl (fun acc p => putKey acc p.1 p.2) [])
  | _, _ => none
where pairs? : List D → Option (List (D × D))
  | [] => some []
  | .tup [k, v] :: r => if isKey k then (pairs? r).map ((k, v) :: ·) else none
  | _ => none
/-- the first place -/
def place (x : D) : List D → Option Nat
  | [] => none
  | y :: ys => if eqD y x then some 0 else (place x ys).map (· + 1)
/-- methods that change nothing -/
def mtW (m : Mt) (o : W) (ws : List W) : Option W := match m, o, ws with
  | .get, .fdi t kvs, [.dat k] => if isKeyT t k then some (.dat ((getKey kvs k).getD .non)) else none
  | .get, .fdi t kvs, [.dat k, .dat d] => if isKeyT t k then some (.dat ((getKey kvs k).getD d)) else none
  | .index, .dat (.tup xs), [.dat x] => if Nat.ble (min (D.depths xs) x.depth) 50 then (place x xs).map fun j => .dat (.int j) else none
  | .index, .dat (.lst xs), [.dat x] => if Nat.ble (min (D.depths xs) x.depth) 50 then (place x xs).map fun j => .dat (.int j) else none
  | .count, .dat (.tup xs), [.dat x] => if Nat.ble (min (D.depths xs) x.depth) 50 then some (.dat (.int (xs.countP fun y => eqD y x))) else none
  | .count, .dat (.lst xs), [.dat x] => if Nat.ble (min (D.depths xs) x.depth) 50 then some (.dat (.int (xs.countP fun y => eqD y x))) else none
  | .upper, .dat (.str z), [] => if z.length ≤ 5592405 then some (.dat (.str (Txt.upper z))) else none
  | _, _, _ => none
/-- methods that change a mutable thing: what comes back, the cell behind it -/
def mtC (m : Mt) (c : Cell) (ws : List W) : Option (W × Cell) := match m, c, ws with
  | .append, .lst ds, [.dat d] => if ds.length < bigLine then some (.dat .non, .lst (ds ++ [d])) else none
  | .pop, .lst ds, [] => ds.getLast?.map fun d => (.dat d, .lst ds.dropLast)
  | .pop, .lst ds, [.dat (.int i)] => (atN ds.length i).bind fun j => ds[j]?.map fun d => (.dat d, .lst (ds.eraseIdx j))
  | _, _, _ => none
def Mt.muts : Mt → Bool
  | .append => true
  | .pop => true
  | .update => true
  | _ => false
/-- may the method be asked of such a thing? -/
def Mt.fits (m : Mt) (w : W) : Bool := match m, w with
  | .get, .fdi _ _ => true
  | .upper, .dat (.str _) => true
  | .index, .dat (.tup _) => true
  | .index, .dat (.lst _) => true
  | .count, .dat (.tup _) => true
  | .count, .dat (.lst _) => true
  | _, _ => false
/-- does the method want a list (or a dict)? -/
def Mt.wants : Mt → Bool
  | .update => false
  | _ => true
def isLst : Cell → Bool
  | .lst _ => true
  | _ => false
def cellOf (n : Nat) (l : Bool) : M Unit := fun st => match st[n]? with
  | some c => if isLst c == l then .ok () st else .stuck
  | none => .stuck
def toCell : W → Option Cell
  | .dat (.lst ds) => some (.lst ds)
  | .fdi t kvs => some (.dic t kvs)
  | _ => none
def setC (c : Cell) (i v : D) : Option Cell := match c with
  | .lst ds => (match i with
    | .int i => (atN ds.length i).map fun j => .lst (ds.set j v)
    | _ => none)
  | .dic t kvs => if isKeyT t i && kvs.length < bigLine then some (.dic t (putKey kvs i v)) else none

def truth : W → Option Bool
  | .dat (.bl b) => some b
  | _ => none
def rangeL (lo : Int) (n : Nat) : List W := (List.range n).map fun (i : Nat) => W.dat (.int (lo + i))
def rangeC (lo c : Int) (n : Nat) : List W := (List.range n).map fun (i : Nat) => W.dat (.int (lo + i * c))
def okR (i : Int) : Bool := decide (-(2 ^ 62) ≤ i) && decide (i < 2 ^ 62)
/-- list(range(a, b)) -/
def rgW : W → W → Option W
  | .dat (.int i), .dat (.int j) => if okR i && okR j && Nat.ble (j - i).toNat 16777216 then some (.dat (.lst ((List.range (j - i).toNat).map fun (k : Nat) => D.int (i + k)))) else none
  | _, _ => none
/-- the items that a walk gives -/
def items (w : W) : Option (List W) := match w with
  | .dat (.tup xs) => some (xs.map .dat)
  | .dat (.lst xs) => some (xs.map .dat)
  | .dat (.str z) => some (z.cps.toList.map fun c => .dat (.str ⟨#[c]⟩))
  | _ => none
def zipW : List W → List W → List W
  | a :: as, b :: bs => W.tup [a, b] :: zipW as bs
  | _, _ => []
def enumW (n : Nat) : List W → List W
  | [] => []
  | a :: as => W.tup [.dat (.int n), a] :: enumW (n + 1) as
/-- the cell that a walk goes over -/
def sameCell : Option Cell → Option Cell → Bool
  | some (.lst a), some (.lst b) => sameDs a b
  | _, _ => false
/-- what a walk leans on: nothing, or a cell that must stay -/
def stays (n : Option Nat) (st st' : Store) : Bool := match n with
  | none => true
  | some n => sameCell st[n]? st'[n]?
def refOf : W → Option Nat
  | .ref n => some n
  | _ => none

def bindP (p : Pt) (w : W) (ρ : Env) : Option Env := match p with
  | .n i => some (ρ.set i (some w))
  | .t ps => (match w with
    | .dat (.tup ds) => if ds.length = ps.length then some (go ps (ds.map .dat) ρ) else none
    | .dat (.lst ds) => if ds.length = ps.length then some (go ps (ds.map .dat) ρ) else none
    | .tup ws => if ws.length = ps.length then some (go ps ws ρ) else none
    | _ => none)
where go : List Nat → List W → Env → Env
  | i :: is, w :: ws, ρ => go is ws (ρ.set i (some w))
  | _, _, ρ => ρ
def wipeE (ρ : Env) : List Nat → Env
  | [] => ρ
  | v :: vs => (wipeE ρ vs).set v none

/-! ### the evaluator -/
/-- a list comprehension's turns -/
def lcGo (n : Option Nat) (st₀ : Store) (f : W → M (Option D)) : List W → List D → M (List D)
  | [], acc => pure acc
  | w :: ws, acc => fun st => match f w st with
    | .ok r st' => if stays n st₀ st' then (match r with
        | some d => lcGo n st₀ f ws (acc ++ [d]) st'
        | none => lcGo n st₀ f ws acc st') else .stuck
    | .exn _ _ => .stuck
    | .stuck => .stuck
def dcGo (n : Option Nat) (st₀ : Store) (f : W → M (Option (D × D))) : List W → List (D × D) → M (List (D × D))
  | [], acc => pure acc
  | w :: ws, acc => fun st => match f w st with
    | .ok r st' => if stays n st₀ st' then (match r with
        | some d => dcGo n st₀ f ws (putKey acc d.1 d.2) st'
        | none => dcGo n st₀ f ws acc st') else .stuck
    | .exn _ _ => .stuck
    | .stuck => .stuck
/-- a for's turns -/
def forGo (n : Option Nat) (st₀ : Store) (f : W → Env → M Fl) : List W → Env → M Fl
  | [], ρ => pure (.nx ρ)
  | w :: ws, ρ => fun st => match f w ρ st with
    | .ok (.nx ρ') st' => if stays n st₀ st' then forGo n st₀ f ws ρ' st' else .stuck
    | .ok (.ct ρ') st' => if stays n st₀ st' then forGo n st₀ f ws ρ' st' else .stuck
    | .ok (.brk ρ') st' => .ok (.nx ρ') st'
    | .ok (.ret w) st' => .ok (.ret w) st'
    | .exn x st' => .exn x st'
    | .stuck => .stuck
/-- a while's turns -/
def whGo (c : Env → M W) (f : Env → M Fl) : Nat → Env → M Fl
  | 0, _ => stk
  | k + 1, ρ => do
    match ← lift ∘ truth =<< c ρ with
    | false => pure (.nx ρ)
    | true => do
      match ← f ρ with
      | .nx ρ' => whGo c f k ρ'
      | .ct ρ' => whGo c f k ρ'
      | .brk ρ' => pure (.nx ρ')
      | .ret w => pure (.ret w)

section
variable (C : Nat → List W → M W) (F : Nat)
mutual
def evX : Ex → Env → M W
  | .v i, ρ => lift (ρ[i]?.join)
  | .c d, _ => pure (.dat d)
  | .g _ d, _ => pure (.dat d)
  | .gd _ kvs, _ => pure (.fdi false kvs)
  | .tup es, ρ => do pure (mkTup (← evXs es ρ))
  | .lst es, ρ => do
    let ws ← evXs es ρ
    let ds ← lift (dats? ws)
    pure (.dat (.lst ds))
  | .dic ps, ρ => do
    let kvs ← evDi ps ρ
    pure (.fdi false (kvs.foldl (fun acc p => putKey acc p.1 p.2) []))
  | .nl e, ρ => do
    let c ← lift ∘ toCell =<< evX e ρ
    fun st => .ok (.ref st.length) (st ++ [c])
  | .ndt, _ => fun st => .ok (.ref st.length) (st ++ [.dic true []])
  | .bin op a b, ρ => do
    let x ← evX a ρ
    let y ← evX b ρ
    let x ← vwM x
    let y ← vwM y
    let dx ← lift (dat? x)
    let dy ← lift (dat? y)
    let d ← lift (binD op dx dy)
    pure (.dat d)
  | .neg a, ρ => do
    match ← evX a ρ with
    | .dat (.int i) => pure (.dat (.int (-i)))
    | _ => stk
  | .nt a, ρ => do
    let b ← lift ∘ truth =<< evX a ρ
    pure (.dat (.bl (!b)))
  | .and a b, ρ => do
    match ← lift ∘ truth =<< evX a ρ with
    | true => evX b ρ
    | false => pure (.dat (.bl false))
  | .or a b, ρ => do
    match ← lift ∘ truth =<< evX a ρ with
    | true => pure (.dat (.bl true))
    | false => evX b ρ
  | .cmp op a b, ρ => do
    let x ← evX a ρ
    let y ← evX b ρ
    let x ← vwM x
    let y ← vwM y
    let r ← lift (cmpW op x y)
    pure (.dat (.bl r))
  | .cmp2 op op' a b c, ρ => do
    let x ← evX a ρ
    let y ← evX b ρ
    let x' ← vwM x
    let y' ← vwM y
    match ← lift (cmpW op x' y') with
    | false => pure (.dat (.bl false))
    | true => do
      let z ← evX c ρ
      let y' ← vwM y
      let z' ← vwM z
      let r ← lift (cmpW op' y' z')
      pure (.dat (.bl r))
  | .ite c a b, ρ => do
    match ← lift ∘ truth =<< evX c ρ with
    | true => evX a ρ
    | false => evX b ρ
  | .ix a i, ρ => do
    let x ← evX a ρ
    let y ← evX i ρ
    let x ← vwM x
    lift (ixW x y)
  | .sl a lo hi, ρ => do
    let x ← evX a ρ
    let l ← evO lo ρ
    let h ← evO hi ρ
    let x ← vwM x
    lift (slW x l h)
  | .rv a, ρ => do
    let x ← evX a ρ
    let x ← vwM x
    lift (rvW x)
  | .call f es, ρ => do
    let ws ← evXs es ρ
    C f ws
  | .bi b es, ρ => do
    let ws ← evXs es ρ
    fun st => match biW b (ws.map (vw · st)) with
      | some w => .ok w st
      | none => .stuck
  | .lens e, ρ => do
    let w ← evX e ρ
    fun st => match biW .lenset [vw w st] with
      | some w => .ok w st
      | none => .stuck
  | .lrg a b, ρ => do
    let x ← evX a ρ
    let y ← evX b ρ
    lift (rgW x y)
  | .lrg0 b, ρ => do
    let y ← evX b ρ
    lift (rgW (.dat (.int 0)) y)
  | .isi e T, ρ => do
    let x ← evX e ρ
    let x ← vwM x
    let d ← lift (dat? x)
    let r ← lift (isiD d T)
    pure (.dat (.bl r))
  | .mt m o es, ρ => if m.muts then do
      let x ← evX o ρ
      let n ← lift (refOf x)
      cellOf n m.wants
      let ws ← evXs es ρ
      fun st => match st[n]?.bind fun c => mtC m c ws with
        | some (w, c) => .ok w (st.set n c)
        | none => .stuck
    else do
      let x ← evX o ρ
      fun st => if m.fits (vw x st) then (do
        let ws ← evXs es ρ
        let x ← vwM x
        lift (mtW m x ws) : M W) st else .stuck
  | .lc e p it c own, ρ => do
    let (ws, n) ← evIt it ρ
    fun st => if ws.length ≤ bigLine then (do
      let ds ← lcGo n st (fun w => do
        let ρ' ← lift (bindP p w (wipeE ρ own))
        match ← evC c ρ' with
        | true => do
          let d ← lift ∘ dat? =<< evX e ρ'
          pure (some d)
        | false => pure none) ws []
      pure (W.dat (.lst ds)) : M W) st else .stuck
  | .dc k v p it c own, ρ => do
    let (ws, n) ← evIt it ρ
    fun st => if ws.length ≤ bigLine then (do
      let kvs ← dcGo n st (fun w => do
        let ρ' ← lift (bindP p w (wipeE ρ own))
        match ← evC c ρ' with
        | true => do
          let a ← lift ∘ dat? =<< evX k ρ'
          let b ← lift ∘ dat? =<< evX v ρ'
          if isLeaf a then pure (some (a, b)) else stk
        | false => pure none) ws []
      pure (W.fdi false kvs) : M W) st else .stuck
def evXs : Exs → Env → M (List W)
  | .nil, _ => pure []
  | .cons e es, ρ => do
    let w ← evX e ρ
    let ws ← evXs es ρ
    pure (w :: ws)
def evDi : Kvs → Env → M (List (D × D))
  | .cons k v r, ρ => do
    let a ← lift ∘ dat? =<< evX k ρ
    let b ← lift ∘ dat? =<< evX v ρ
    let r ← evDi r ρ
    if isLeaf a then pure ((a, b) :: r) else stk
  | .nil, _ => pure []
/-- a test that may lack -/
def evC : Ox → Env → M Bool
  | .no, _ => pure true
  | .so e, ρ => do lift ∘ truth =<< evX e ρ
/-- a bound of a slice that may lack -/
def evO : Ox → Env → M (Option Int)
  | .no, _ => pure none
  | .so e, ρ => do
    match ← evX e ρ with
    | .dat (.int i) => pure (some i)
    | _ => stk
/-- the items of a walk, and the cell that it leans on -/
def evIt : Wk → Env → M (List W × Option Nat)
  | .sq e, ρ => do
    let w ← evX e ρ
    let x ← vwM w
    let ws ← lift (items x)
    pure (ws, refOf w)
  | .r1 a, ρ => do
    match ← evX a ρ with
    | .dat (.int j) => if okR j then pure (rangeL 0 j.toNat, none) else stk
    | _ => stk
  | .r2 a b, ρ => do
    match ← evX a ρ with
    | .dat (.int i) => do
      match ← evX b ρ with
      | .dat (.int j) => if okR i && okR j then pure (rangeL i (j - i).toNat, none) else stk
      | _ => stk
    | _ => stk
  | .r3 a b c, ρ => do
    match ← evX a ρ with
    | .dat (.int i) => do
      match ← evX b ρ with
      | .dat (.int j) => do
        match ← evX c ρ with
        | .dat (.int c) => if okR i && okR j && c == -1 then pure (rangeC i (-1) (i - j).toNat, none) else stk
        | _ => stk
      | _ => stk
    | _ => stk
  | .zp a b, ρ => do
    let x ← evX a ρ
    let y ← evX b ρ
    match x, y with
    | .dat (.tup xs), .dat (.tup ys) => pure (zipW (xs.map .dat) (ys.map .dat), none)
    | .dat (.lst xs), .dat (.lst ys) => pure (zipW (xs.map .dat) (ys.map .dat), none)
    | _, _ => stk
  | .en a, ρ => do
    let w ← evX a ρ
    let x ← vwM w
    match x with
    | .dat (.lst xs) => pure (enumW 0 (xs.map .dat), refOf w)
    | _ => stk
  | .itm a, ρ => do
    match ← evX a ρ with
    | .fdi _ kvs => pure (kvs.map fun p => .tup [.dat p.1, .dat p.2], none)
    | _ => stk
end
/-- x op= y: what the name holds behind it -/
def augM (op : Operator) (x y : W) : M W := match x with
  | .ref n => fun st => match op, y, st[n]? with
    | .Add, .dat (.lst ys), some (.lst xs) => if xs.length + ys.length ≤ bigLine then .ok (.ref n) (st.set n (.lst (xs ++ ys))) else .stuck
    | _, _, _ => .stuck
  | .dat dx => lift ((dat? y).bind fun dy => (augD op dx dy).map .dat)
  | _ => stk
/-- o[i] = w -/
def evPut (o i w : W) : M Unit := do
  let n ← lift (refOf o)
  let di ← lift (dat? i)
  let dw ← lift (dat? w)
  fun st => match st[n]?.bind fun c => setC c di dw with
    | some c => .ok () (st.set n c)
    | none => .stuck
mutual
def evS : St → Env → M Fl
  | .asg p e, ρ => do
    let w ← evX C e ρ
    let ρ' ← lift (bindP p w ρ)
    pure (.nx ρ')
  | .aug op i e, ρ => do
    let x ← lift (ρ[i]?.join)
    let y ← evX C e ρ
    let y ← vwM y
    let w ← augM op x y
    pure (.nx (ρ.set i (some w)))
  | .sst o i e, ρ => do
    let w ← evX C e ρ
    let x ← evX C o ρ
    let y ← evX C i ρ
    evPut x y w
    pure (.nx ρ)
  | .saug op o i e, ρ => do
    let x ← evX C o ρ
    let y ← evX C i ρ
    let xv ← vwM x
    let a ← lift (ixW xv y)
    let w ← evX C e ρ
    let da ← lift (dat? a)
    let dw ← lift (dat? w)
    let d ← lift (augD op da dw)
    evPut x y (.dat d)
    pure (.nx ρ)
  | .ex e, ρ => do
    let _ ← evX C e ρ
    pure (.nx ρ)
  | .ife c a b, ρ => do
    match ← lift ∘ truth =<< evX C c ρ with
    | true => evSs a ρ
    | false => evSs b ρ
  | .for p it b, ρ => do
    let (ws, n) ← evIt C it ρ
    fun st => forGo n st (fun w ρ => do
      let ρ' ← lift (bindP p w ρ)
      evSs b ρ') ws ρ st
  | .wh c b, ρ => whGo (evX C c) (evSs b) F ρ
  | .ret e, ρ => do
    let w ← evX C e ρ
    pure (.ret w)
  | .retn, _ => pure (.ret (.dat .non))
  | .brk, ρ => pure (.brk ρ)
  | .cnt, ρ => pure (.ct ρ)
  | .pas, ρ => pure (.nx ρ)
def evSs : Ss → Env → M Fl
  | .nil, ρ => pure (.nx ρ)
  | .cons s r, ρ => do
    match ← evS s ρ with
    | .nx ρ' => evSs r ρ'
    | f => pure f
end
end

/-- a def: how many parameters, how many names; does it hand back a new list that may change?; its body -/
structure FD where
  np : Nat
  ns : Nat
  mkr : Bool
  body : Ss
/-- what a def hands back: made within it: as data from now on -/
def fin1 (n : Nat) (st : Store) : W → Option W
  | .dat d => some (.dat d)
  | .fdi t kvs => some (.fdi t kvs)
  | .ref m => if m < n then some (.ref m) else (match st[m]? with
    | some (.lst ds) => some (.dat (.lst ds))
    | some (.dic t kvs) => some (.fdi t kvs)
    | none => none)
  | _ => none
def finL (n : Nat) (st : Store) : List W → Option (List W)
  | [] => some []
  | w :: ws => (fin1 n st w).bind fun w' => (finL n st ws).map (w' :: ·)
def fin (n : Nat) (st : Store) : W → Option W
  | .tup ws => (finL n st ws).map .tup
  | w => fin1 n st w
def outW (mk : Bool) (n : Nat) (st : Store) (w : W) : Option (W × Store) := if mk then (match w with
    | .ref m => if n ≤ m then st[m]?.map fun c => (.ref n, st.take n ++ [c]) else none
    | _ => none)
  else (fin n st w).map fun w' => (w', st.take n)
def startE (ns : Nat) (ws : List W) : Env := ws.map some ++ List.replicate (ns - ws.length) none
/-- behind a body -/
def leave (mk : Bool) (n : Nat) : Res Fl → Res W
  | .ok (.ret w) st' => (match outW mk n st' w with
    | some (w', st'') => .ok w' st''
    | none => .stuck)
  | .ok (.nx _) st' => .ok (.dat .non) (st'.take n)
  | .ok _ _ => .stuck
  | .exn x st' => .exn x (st'.take n)
  | .stuck => .stuck
def callF (T : Nat → Option FD) (F : Nat) : Nat → Nat → List W → M W
  | 0, _, _ => stk
  | k + 1, f, ws => fun st => match T f with
    | none => .stuck
    | some fd => if ws.length = fd.np then leave fd.mkr st.length (evSs (callF T F k) F fd.body (startE fd.ns ws) st) else .stuck
end Ev

/-! EvB: how data stand on the heap (Rp), the store (StR), values (RW); steps (Stp); what comes of a run (Aft). -/
namespace Ev
open PySem PySem.Spec PyProof.Rows L2

/-- the frozen part of the heap, the world -/
structure KW where
  K : PySem.W.Frag
  w : World
instance : Coe KW PySem.W.Frag := ⟨KW.K⟩
abbrev kw (X : Cx) : KW := ⟨X.K, X.w⟩

/-! ### data on the heap, for good -/
/-- a tuple of ours: its object is known to have no dict -/
def TpL (K : KW) (H : Hp) (a : Addr) (xs : List V) : Prop :=
  (∃ o, H a = some (.frz o (.tup xs)) ∧ o.dict = none) ∨
    ∃ (o : Obj) (its : Array Value) (n : Nat), K.K.lookup a = some o ∧ o.cls = .type "tuple" ∧ o.dict = none ∧ o.data = .seq its n ∧ its.size ≤ sizeLine ∧ Vals xs its.toList
/-- a list that stays, or one of the module's -/
def LsL (K : KW) (H : Hp) (a : Addr) (xs : List V) : Prop :=
  (∃ o, H a = some (.frz o (.lst xs))) ∨
    ∃ (o : Obj) (its : Array Value) (n : Nat), K.K.lookup a = some o ∧ o.cls = .type "list" ∧ o.dict = none ∧ o.data = .seq its n ∧ its.size ≤ sizeLine ∧ Vals xs its.toList
theorem LsL.sq {K : KW} {H : Hp} {a : Addr} {xs : List V} (h : LsL K H a xs) : SqL K H a xs := by
  rcases h with ⟨o, h⟩ | h
  · exact .inl (.inr ⟨o, h⟩)
  · exact .inr h
theorem TpL.sq {K : KW} {H : Hp} {a : Addr} {xs : List V} (h : TpL K H a xs) : SqT K H a xs := by
  rcases h with ⟨o, h, _⟩ | ⟨o, its, n, h1, h2, _, h3, h4, h5⟩
  · exact .inl (.inr ⟨o, h⟩)
  · exact .inr ⟨o, its, n, h1, h2, h3, h4, h5⟩
section
variable (K : KW)
mutual
/-- v is the data d, and stays so -/
def Rp (H : Hp) : D → V → Prop
  | .non, v => v = .non
  | .bl b, v => v = .bl b
  | .int i, v => v = .int i
  | .str s, v => v = .str s
  | .tup ds, v => ∃ a xs, v = .ref a ∧ TpL K H a xs ∧ Rps H ds xs
  | .lst ds, v => ∃ a o xs, v = .ref a ∧ H a = some (.frz o (.lst xs)) ∧ Rps H ds xs
def Rps (H : Hp) : List D → List V → Prop
  | [], xs => xs = []
  | d :: ds, xs => ∃ x r, xs = x :: r ∧ Rp H d x ∧ Rps H ds r
end
end
/-- may change (where it is a cell of the store) -/
def isCell : HO → Prop
  | .lst _ => True
  | .ext _ => True
  | .dK _ => True
  | _ => False
/-- all that is tracked stays, but for the cells at μ -/
def Ext (μ : List Addr) (H H' : Hp) : Prop := ∀ b o, H b = some o → (b ∉ μ ∨ ¬ isCell o) → H' b = some o
theorem Ext.refl {μ : List Addr} {H : Hp} : Ext μ H H := fun _ _ h _ => h
/-- all stays -/
def Keep (H H' : Hp) : Prop := ∀ b o, H b = some o → H' b = some o
theorem Keep.ext {μ : List Addr} {H H' : Hp} (k : Keep H H') : Ext μ H H' := fun b o h _ => k b o h
theorem Keep.refl {H : Hp} : Keep H H := fun _ _ h => h
theorem Keep.trans {H H1 H2 : Hp} (a : Keep H H1) (b : Keep H1 H2) : Keep H H2 := fun c o h => b c o (a c o h)
theorem Keep.upd {H : Hp} {p : Addr} {o : HO} (n : H p = none) : Keep H (upd H p o) := fun b u h => by rw [upd_ne (ne_of_none h n)]; exact h

section
variable {K : KW} {H H' : Hp} {μ : List Addr}
theorem SqT.ext (e : Ext μ H H') {a : Addr} {xs : List V} (h : SqT K H a xs) : SqT K H' a xs := by
  rcases h with (h | ⟨o, h⟩) | h
  · exact .inl (.inl (e _ _ h (.inr (fun z => z))))
  · exact .inl (.inr ⟨o, e _ _ h (.inr (fun z => z))⟩)
  · exact .inr h
theorem LsL.ext (e : Ext μ H H') {a : Addr} {xs : List V} (h : LsL K H a xs) : LsL K H' a xs := by
  rcases h with ⟨o, h⟩ | h
  · exact .inl ⟨o, e _ _ h (.inr (fun z => z))⟩
  · exact .inr h
theorem TpL.ext (e : Ext μ H H') {a : Addr} {xs : List V} (h : TpL K H a xs) : TpL K H' a xs := by
  rcases h with ⟨o, h, d⟩ | h
  · exact .inl ⟨o, e _ _ h (.inr (fun z => z)), d⟩
  · exact .inr h
mutual
theorem Rp.ext (e : Ext μ H H') : ∀ (d : D) (v : V), Rp K H d v → Rp K H' d v
  | .non, _, h => h
  | .bl _, _, h => h
  | .int _, _, h => h
  | .str _, _, h => h
  | .tup ds, v, h => by
    obtain ⟨a, xs, hv, ht, hr⟩ := h
    exact ⟨a, xs, hv, TpL.ext e ht, Rps.ext e ds xs hr⟩
  | .lst ds, v, h => by
    obtain ⟨a, o, xs, hv, ht, hr⟩ := h
    exact ⟨a, o, xs, hv, e _ _ ht (.inr (fun z => z)), Rps.ext e ds xs hr⟩
theorem Rps.ext (e : Ext μ H H') : ∀ (ds : List D) (xs : List V), Rps K H ds xs → Rps K H' ds xs
  | [], _, h => h
  | d :: ds, _, h => by
    obtain ⟨x, r, rfl, h1, h2⟩ := h
    exact ⟨x, r, rfl, Rp.ext e d x h1, Rps.ext e ds r h2⟩
end
theorem Rps.length : ∀ {ds : List D} {xs : List V}, Rps K H ds xs → xs.length = ds.length
  | [], _, h => by cases h; rfl
  | d :: ds, _, h => by
    obtain ⟨x, r, rfl, _, h2⟩ := h
    simp [Rps.length h2]
theorem Rps.get : ∀ {ds : List D} {xs : List V} {i : Nat} {x : V}, Rps K H ds xs → xs[i]? = some x → ∃ d, ds[i]? = some d ∧ Rp K H d x
  | [], _, _, _, h, e => by cases h; simp at e
  | d :: ds, _, 0, _, h, e => by
    obtain ⟨x, r, rfl, h1, _⟩ := h
    simp at e; subst e
    exact ⟨d, rfl, h1⟩
  | d :: ds, _, i + 1, _, h, e => by
    obtain ⟨x, r, rfl, _, h2⟩ := h
    obtain ⟨d', e1, e2⟩ := Rps.get (i := i) h2 (by simpa using e)
    exact ⟨d', by simpa using e1, e2⟩
theorem Rps.get' : ∀ {ds : List D} {xs : List V} {i : Nat} {d : D}, Rps K H ds xs → ds[i]? = some d → ∃ x, xs[i]? = some x ∧ Rp K H d x
  | [], _, _, _, h, e => by simp at e
  | d :: ds, _, 0, _, h, e => by
    obtain ⟨x, r, rfl, h1, _⟩ := h
    simp at e; subst e
    exact ⟨x, rfl, h1⟩
  | d :: ds, _, i + 1, _, h, e => by
    obtain ⟨x, r, rfl, _, h2⟩ := h
    obtain ⟨x', e1, e2⟩ := Rps.get' (i := i) h2 (by simpa using e)
    exact ⟨x', by simpa using e1, e2⟩
theorem Rps.append : ∀ {ds es : List D} {xs ys : List V}, Rps K H ds xs → Rps K H es ys → Rps K H (ds ++ es) (xs ++ ys)
  | [], _, _, _, h, h' => by cases h; exact h'
  | d :: ds, es, _, ys, h, h' => by
    obtain ⟨x, r, rfl, h1, h2⟩ := h
    exact ⟨x, r ++ ys, rfl, h1, Rps.append h2 h'⟩
theorem Rps.take : ∀ {ds : List D} {xs : List V} (n : Nat), Rps K H ds xs → Rps K H (ds.take n) (xs.take n)
  | _, _, 0, _ => rfl
  | [], _, n + 1, h => by cases h; rfl
  | d :: ds, _, n + 1, h => by
    obtain ⟨x, r, rfl, h1, h2⟩ := h
    exact ⟨x, r.take n, rfl, h1, Rps.take n h2⟩
theorem Rps.drop : ∀ {ds : List D} {xs : List V} (n : Nat), Rps K H ds xs → Rps K H (ds.drop n) (xs.drop n)
  | _, _, 0, h => h
  | [], _, n + 1, h => by cases h; rfl
  | d :: ds, _, n + 1, h => by
    obtain ⟨x, r, rfl, h1, h2⟩ := h
    exact Rps.drop n h2
theorem Rps.set : ∀ {ds : List D} {xs : List V} {d : D} {x : V} (n : Nat), Rps K H ds xs → Rp K H d x → Rps K H (ds.set n d) (xs.set n x)
  | [], _, _, _, _, h, _ => by cases h; rfl
  | _ :: ds, _, _, _, 0, h, h' => by
    obtain ⟨x, r, rfl, h1, h2⟩ := h
    exact ⟨_, r, rfl, h', h2⟩
  | _ :: ds, _, _, _, n + 1, h, h' => by
    obtain ⟨x, r, rfl, h1, h2⟩ := h
    exact ⟨x, _, rfl, h1, Rps.set n h2 h'⟩
theorem Rps.one {d : D} {x : V} (h : Rp K H d x) : Rps K H [d] [x] := ⟨x, [], rfl, h, rfl⟩
theorem Rps.reverse : ∀ {ds : List D} {xs : List V}, Rps K H ds xs → Rps K H ds.reverse xs.reverse
  | [], _, h => by cases h; rfl
  | d :: ds, _, h => by
    obtain ⟨x, r, rfl, h1, h2⟩ := h
    rw [List.reverse_cons, List.reverse_cons]
    exact Rps.append (Rps.reverse h2) (Rps.one h1)
theorem Rps.eraseIdx : ∀ {ds : List D} {xs : List V} (n : Nat), Rps K H ds xs → Rps K H (ds.eraseIdx n) (xs.eraseIdx n)
  | [], _, _, h => by cases h; rfl
  | d :: ds, _, 0, h => by
    obtain ⟨x, r, rfl, h1, h2⟩ := h
    exact h2
  | d :: ds, _, n + 1, h => by
    obtain ⟨x, r, rfl, h1, h2⟩ := h
    exact ⟨x, _, rfl, h1, Rps.eraseIdx n h2⟩
theorem Rps.flat {ds : List D} {xs : List V} (h : Rps K H ds xs) : ∀ n : Nat, Rps K H (List.replicate n ds).flatten (List.replicate n xs).flatten
  | 0 => rfl
  | n + 1 => by
    rw [List.replicate_succ, List.replicate_succ, List.flatten_cons, List.flatten_cons]
    exact Rps.append h (Rps.flat h n)
theorem Rps.dropLast {ds : List D} {xs : List V} (h : Rps K H ds xs) : Rps K H ds.dropLast xs.dropLast := by
  rw [List.dropLast_eq_take, List.dropLast_eq_take, h.length]
  exact h.take _

/-! ### readable: a list that may change, too -/
def Rv (K : KW) (H : Hp) (d : D) (v : V) : Prop := match d with
  | .lst ds => ∃ a xs, v = .ref a ∧ Rd H a (.lst xs) ∧ Rps K H ds xs
  | d => Rp K H d v
theorem Rp.rv {d : D} {v : V} (h : Rp K H d v) : Rv K H d v := by
  cases d with
  | lst ds =>
    obtain ⟨a, o, xs, hv, ht, hr⟩ := h
    exact ⟨a, xs, hv, .inr ⟨o, ht⟩, hr⟩
  | _ => exact h
mutual
theorem Rp.dp : ∀ (d : D) (v : V), Rp K H d v → Dp K H v d.toP
  | .non, _, h => by cases h; exact .non
  | .bl _, _, h => by cases h; exact .bl _
  | .int _, _, h => by cases h; exact .int _
  | .str _, _, h => by cases h; exact .str _
  | .tup ds, _, h => by
    obtain ⟨a, xs, rfl, ht, hr⟩ := h
    exact .tup ht.sq (Rps.dp ds xs hr)
  | .lst ds, _, h => by
    obtain ⟨a, o, xs, rfl, ht, hr⟩ := h
    exact .lst (.inl (.inr ⟨o, ht⟩)) (Rps.dp ds xs hr)
theorem Rps.dp : ∀ (ds : List D) (xs : List V), Rps K H ds xs → DpAll K H xs (D.toPs ds)
  | [], _, h => by cases h; exact .nil
  | d :: ds, _, h => by
    obtain ⟨x, r, rfl, h1, h2⟩ := h
    exact .cons (Rp.dp d x h1) (Rps.dp ds r h2)
end
theorem Rv.dp {d : D} {v : V} (h : Rv K H d v) : Dp K H v d.toP := by
  cases d with
  | lst ds =>
    obtain ⟨a, xs, rfl, ht, hr⟩ := h
    exact .lst (.inl ht) (Rps.dp ds xs hr)
  | _ => exact Rp.dp _ _ h
end

/-! ### dicts -/
def keyD : Key → D
  | .inl i => .int i
  | .inr s => .str s
mutual
def nkD : D → NestedKey
  | .non => .none
  | .bl b => .num (if b then 1 else 0)
  | .int i => .num i
  | .str s => .text s
  | .tup xs => .tup (nkDs xs)
  | .lst _ => .none
def nkDs : List D → List NestedKey
  | [] => []
  | x :: xs => nkD x :: nkDs xs
end
section
variable (K : KW)
/-- keys by value -/
def KvR (H : Hp) : List (D × D) → List (Key × V) → Prop
  | [], ks => ks = []
  | p :: r, ks => ∃ k v r', ks = (k, v) :: r' ∧ p.1 = keyD k ∧ Rp K H p.2 v ∧ KvR H r r'
/-- keys that are tuples -/
def NdR (H : Hp) : List (D × D) → List (NestedKey × Addr × Value) → Prop
  | [], xs => xs = []
  | p :: r, xs => ∃ b u v r', xs = (nkD p.1, b, u) :: r' ∧ isTupK p.1 = true ∧ Rp K H p.1 (.ref b) ∧ RelV v u ∧ Rp K H p.2 v ∧ NdR H r r'
/-- a dict with such keys, by its one object -/
def ndO (w : World) (a : Addr) (xs : List (NestedKey × Addr × Value)) : HO := .ext fun h => ∃ o es ep, h.get? a = some o ∧ o.ExactDict ∧ o.data = .dict es ep ∧ es.toList = xs.map (fun x => ⟨x.1.hash w, .ref x.2.1, x.2.2⟩)
def ScC (H : Hp) (kvs : List (D × D)) (a : Addr) : Prop := ∃ ks, H a = some (.dK ks) ∧ KvR K H kvs ks
def NdC (H : Hp) (kvs : List (D × D)) (a : Addr) : Prop := ∃ xs, H a = some (ndO K.w a xs) ∧ (a == sysModules) = false ∧ xs.length ≤ sizeLine ∧ (xs.map (·.1)).Nodup ∧ NdR K H kvs xs
def DcR (H : Hp) (t : Bool) (kvs : List (D × D)) (a : Addr) : Prop := if t = true then NdC K H kvs a else ScC K H kvs a
end
section
variable {K : KW} {H H' : Hp} {μ : List Addr}
theorem KvR.ext (e : Ext μ H H') : ∀ {kvs : List (D × D)} {ks : List (Key × V)}, KvR K H kvs ks → KvR K H' kvs ks
  | [], _, h => h
  | p :: r, _, h => by
    obtain ⟨k, v, r', rfl, h1, h2, h3⟩ := h
    exact ⟨k, v, r', rfl, h1, Rp.ext e _ _ h2, KvR.ext e h3⟩
theorem NdR.ext (e : Ext μ H H') : ∀ {kvs : List (D × D)} {xs : List (NestedKey × Addr × Value)}, NdR K H kvs xs → NdR K H' kvs xs
  | [], _, h => h
  | p :: r, _, h => by
    obtain ⟨b, u, v, r', rfl, h0, h1, h2, h3, h4⟩ := h
    exact ⟨b, u, v, r', rfl, h0, Rp.ext e _ _ h1, h2, Rp.ext e _ _ h3, NdR.ext e h4⟩
theorem ScC.of (e : Ext μ H H') {kvs : List (D × D)} {a : Addr} (ha : ∀ o, H a = some o → H' a = some o) (h : ScC K H kvs a) : ScC K H' kvs a := by
  obtain ⟨ks, h1, h2⟩ := h
  exact ⟨ks, ha _ h1, h2.ext e⟩
theorem NdC.of (e : Ext μ H H') {kvs : List (D × D)} {a : Addr} (ha : ∀ o, H a = some o → H' a = some o) (h : NdC K H kvs a) : NdC K H' kvs a := by
  obtain ⟨xs, h1, h2, h3, h4, h5⟩ := h
  exact ⟨xs, ha _ h1, h2, h3, h4, h5.ext e⟩
theorem DcR.of (e : Ext μ H H') {t : Bool} {kvs : List (D × D)} {a : Addr} (ha : ∀ o, H a = some o → H' a = some o) (h : DcR K H t kvs a) : DcR K H' t kvs a := by
  cases t with
  | true => exact NdC.of e ha h
  | false => exact ScC.of e ha h
theorem DcR.some {t : Bool} {kvs : List (D × D)} {a : Addr} (h : DcR K H t kvs a) : ∃ o, H a = some o ∧ isCell o := by
  cases t with
  | true => obtain ⟨_, h, _⟩ := (show NdC K H kvs a from h); exact ⟨_, h, trivial⟩
  | false => obtain ⟨_, h, _⟩ := (show ScC K H kvs a from h); exact ⟨_, h, trivial⟩
end

/-! ### values, the store, names -/
section
variable (K : KW)
mutual
def RW (H : Hp) (μ : List Addr) : W → V → Prop
  | .dat d, v => Rp K H d v
  | .fdi t kvs, v => ∃ a, v = .ref a ∧ a ∉ μ ∧ DcR K H t kvs a
  | .ref n, v => ∃ a, μ[n]? = some a ∧ v = .ref a
  | .tup ws, v => ∃ a xs, v = .ref a ∧ SqT K H a xs ∧ RWs H μ ws xs
  | .scr ns, v => ∃ a, v = .ref a ∧ LsL K H a (ns.map V.int)
def RWs (H : Hp) (μ : List Addr) : List W → List V → Prop
  | [], xs => xs = []
  | w :: ws, xs => ∃ x r, xs = x :: r ∧ RW H μ w x ∧ RWs H μ ws r
end
def CellR (H : Hp) (c : Cell) (a : Addr) : Prop := match c with
  | .lst ds => ∃ xs, H a = some (.lst xs) ∧ Rps K H ds xs
  | .dic t kvs => DcR K H t kvs a
structure StR (H : Hp) (st : Store) (μ : List Addr) : Prop where
  len : μ.length = st.length
  nd : μ.Nodup
  at_ : ∀ (n : Nat) (c : Cell), st[n]? = some c → ∃ a : Addr, μ[n]? = some a ∧ CellR K H c a
structure EnvR (H : Hp) (μ : List Addr) (ρ : Env) (σ : L2.St) : Prop where
  len : ρ.length = σ.length
  at_ : ∀ (i : Nat) (w : W), ρ[i]? = some (some w) → ∃ v, σ[i]? = some (some v) ∧ RW K H μ w v
end
structure Stp (H : Hp) (μ : List Addr) (H' : Hp) (μ' : List Addr) : Prop where
  ext : Ext μ H H'
  more : ∃ ν, μ' = μ ++ ν ∧ ∀ b ∈ ν, H b = none
  there : ∀ b, H' b = none → H b = none
theorem Stp.refl {H : Hp} {μ : List Addr} : Stp H μ H μ := ⟨Ext.refl, ⟨[], by simp, by simp⟩, fun _ h => h⟩
theorem Keep.there {H H' : Hp} (k : Keep H H') : ∀ b, H' b = none → H b = none := fun b h => by
  cases q : H b with
  | none => rfl
  | some o => rw [k b o q] at h; cases h
theorem Stp.keep {H H' : Hp} {μ : List Addr} (k : Keep H H') : Stp H μ H' μ := ⟨k.ext, ⟨[], by simp, by simp⟩, k.there⟩
theorem Stp.trans {H H1 H2 : Hp} {μ μ1 μ2 : List Addr} (a : Stp H μ H1 μ1) (b : Stp H1 μ1 H2 μ2) : Stp H μ H2 μ2 := by
  obtain ⟨ν, rfl, hν⟩ := a.more
  obtain ⟨ξ, rfl, hξ⟩ := b.more
  refine ⟨fun b' o h hc => b.ext b' o (a.ext b' o h hc) ?_, ⟨ν ++ ξ, by simp, fun c hc => ?_⟩, fun c h => a.there c (b.there c h)⟩
  · rcases hc with hc | hc
    · exact .inl fun z => (List.mem_append.mp z).elim hc fun z => by rw [hν b' z] at h; cases h
    · exact .inr hc
  · rcases List.mem_append.mp hc with hc | hc
    · exact hν c hc
    · exact a.there c (hξ c hc)
theorem Stp.notin {H1 H : Hp} {μ1 μ : List Addr} {D : Addr} {o : HO} (s : Stp H1 μ1 H μ) (h : H1 D = some o) (hn : D ∉ μ1) : D ∉ μ := by
  obtain ⟨ν, rfl, hν⟩ := s.more
  exact fun z => (List.mem_append.mp z).elim hn fun z => by rw [hν D z] at h; cases h
section
variable {K : KW} {H H' : Hp} {μ μ' : List Addr}
theorem CellR.of {μ' : List Addr} (e : Ext μ' H H') {c : Cell} {a : Addr} (ha : ∀ o, H a = some o → H' a = some o) (h : CellR K H c a) : CellR K H' c a := by
  cases c with
  | lst ds => obtain ⟨xs, h1, h2⟩ := h; exact ⟨xs, ha _ h1, Rps.ext e _ _ h2⟩
  | dic t kvs => exact DcR.of e ha h
theorem CellR.some {c : Cell} {a : Addr} (h : CellR K H c a) : ∃ o, H a = some o ∧ isCell o := by
  cases c with
  | lst ds => obtain ⟨xs, h1, _⟩ := h; exact ⟨_, h1, trivial⟩
  | dic t kvs => exact DcR.some h
mutual
theorem RW.stp (s : Stp H μ H' μ') : ∀ (w : W) (v : V), RW K H μ w v → RW K H' μ' w v
  | .dat d, v, h => Rp.ext s.ext d v h
  | .fdi t kvs, v, h => by
    obtain ⟨a, hv, na, hd⟩ := h
    obtain ⟨o, ho, _⟩ := hd.some
    exact ⟨a, hv, s.notin ho na, hd.of s.ext fun o e => s.ext a o e (.inl na)⟩
  | .ref n, v, h => by
    obtain ⟨a, e, hv⟩ := h
    obtain ⟨ν, rfl, _⟩ := s.more
    exact ⟨a, by rw [List.getElem?_append_left (List.getElem?_eq_some_iff.mp e).1]; exact e, hv⟩
  | .tup ws, v, h => by
    obtain ⟨a, xs, hv, ht, hr⟩ := h
    exact ⟨a, xs, hv, SqT.ext s.ext ht, RWs.stp s ws xs hr⟩
  | .scr ns, v, h => by
    obtain ⟨a, hv, ht⟩ := h
    exact ⟨a, hv, LsL.ext s.ext ht⟩
theorem RWs.stp (s : Stp H μ H' μ') : ∀ (ws : List W) (xs : List V), RWs K H μ ws xs → RWs K H' μ' ws xs
  | [], _, h => h
  | w :: ws, _, h => by
    obtain ⟨x, r, rfl, h1, h2⟩ := h
    exact ⟨x, r, rfl, RW.stp s w x h1, RWs.stp s ws r h2⟩
end
theorem EnvR.stp {ρ : Env} {σ : L2.St} (s : Stp H μ H' μ') (e : EnvR K H μ ρ σ) : EnvR K H' μ' ρ σ :=
  ⟨e.len, fun i w h => let ⟨v, h1, h2⟩ := e.at_ i w h; ⟨v, h1, RW.stp s w v h2⟩⟩
theorem EnvR.set {ρ : Env} {σ : L2.St} {i : Nat} {w : W} {v : V} (e : EnvR K H μ ρ σ) (h : RW K H μ w v) : EnvR K H μ (ρ.set i (some w)) (σ.set i (some v)) := by
  refine ⟨by rw [List.length_set, List.length_set]; exact e.len, fun j u hj => ?_⟩
  by_cases hij : i = j
  · subst hij
    have hl : i < ρ.length := by
      have := (List.getElem?_eq_some_iff.mp hj).1
      rwa [List.length_set] at this
    rw [List.getElem?_set_self hl] at hj
    cases hj
    exact ⟨v, List.getElem?_set_self (by rw [← e.len]; exact hl), h⟩
  · rw [List.getElem?_set_ne hij] at hj
    obtain ⟨x, h1, h2⟩ := e.at_ j u hj
    exact ⟨x, by rw [List.getElem?_set_ne hij]; exact h1, h2⟩
theorem EnvR.unset {ρ : Env} {σ : L2.St} {i : Nat} (e : EnvR K H μ ρ σ) : EnvR K H μ (ρ.set i none) (σ.set i none) := by
  refine ⟨by rw [List.length_set, List.length_set]; exact e.len, fun j u hj => ?_⟩
  by_cases hij : i = j
  · subst hij
    have hl : i < ρ.length := by
      have := (List.getElem?_eq_some_iff.mp hj).1
      rwa [List.length_set] at this
    rw [List.getElem?_set_self hl] at hj
    cases hj
  · rw [List.getElem?_set_ne hij] at hj
    obtain ⟨x, h1, h2⟩ := e.at_ j u hj
    exact ⟨x, by rw [List.getElem?_set_ne hij]; exact h1, h2⟩
theorem EnvR.wipe {ρ : Env} {σ : L2.St} (e : EnvR K H μ ρ σ) : ∀ vs : List Nat, EnvR K H μ (wipeE ρ vs) (L2.wipe σ vs)
  | [] => e
  | _ :: vs => EnvR.unset (EnvR.wipe e vs)
theorem RWs.length : ∀ {ws : List W} {xs : List V}, RWs K H μ ws xs → xs.length = ws.length
  | [], _, h => by cases h; rfl
  | w :: ws, _, h => by
    obtain ⟨x, r, rfl, _, h2⟩ := h
    simp [RWs.length h2]
theorem RWs.get' : ∀ {ws : List W} {xs : List V} {i : Nat} {w : W}, RWs K H μ ws xs → ws[i]? = some w → ∃ x, xs[i]? = some x ∧ RW K H μ w x
  | [], _, _, _, h, e => by simp at e
  | w :: ws, _, 0, _, h, e => by
    obtain ⟨x, r, rfl, h1, _⟩ := h
    simp at e; subst e
    exact ⟨x, rfl, h1⟩
  | w :: ws, _, i + 1, _, h, e => by
    obtain ⟨x, r, rfl, _, h2⟩ := h
    obtain ⟨x', e1, e2⟩ := RWs.get' (i := i) h2 (by simpa using e)
    exact ⟨x', by simpa using e1, e2⟩
theorem RWs.dats : ∀ {ws : List W} {xs : List V} {ds : List D}, RWs K H μ ws xs → dats? ws = some ds → Rps K H ds xs
  | [], _, _, h, e => by cases h; cases e; rfl
  | w :: ws, _, _, h, e => by
    obtain ⟨x, r, rfl, h1, h2⟩ := h
    cases w with
    | dat d =>
      simp only [dats?] at e
      cases q : dats? ws with
      | none => rw [q] at e; cases e
      | some ds' =>
        rw [q] at e; cases e
        exact ⟨x, r, rfl, h1, RWs.dats h2 q⟩
    | _ => cases e
theorem Rps.rws : ∀ {ds : List D} {xs : List V}, Rps K H ds xs → RWs K H μ (ds.map .dat) xs
  | [], _, h => h
  | d :: ds, _, h => by
    obtain ⟨x, r, rfl, h1, h2⟩ := h
    exact ⟨x, r, rfl, h1, Rps.rws h2⟩
theorem RW.mkTup {ws : List W} {a : Addr} {xs : List V} (ht : TpL K H a xs) (h : RWs K H μ ws xs) : RW K H μ (mkTup ws) (.ref a) := by
  unfold Ev.mkTup
  cases q : dats? ws with
  | none => exact ⟨a, xs, rfl, ht.sq, h⟩
  | some ds => exact ⟨a, xs, rfl, ht, RWs.dats h q⟩

/-! ### the store -/
theorem StR.keep {st : Store} (k : Keep H H') (s : StR K H st μ) : StR K H' st μ :=
  ⟨s.len, s.nd, fun n c h => by
    obtain ⟨a, e, q⟩ := s.at_ n c h
    exact ⟨a, e, q.of (μ' := []) k.ext fun o h => k _ _ h⟩⟩
theorem StR.cell {st : Store} (s : StR K H st μ) {n : Nat} {a : Addr} (e : μ[n]? = some a) : ∃ c, st[n]? = some c ∧ CellR K H c a := by
  have hl : n < st.length := by rw [← s.len]; exact (List.getElem?_eq_some_iff.mp e).1
  obtain ⟨a', e', q⟩ := s.at_ n st[n] (List.getElem?_eq_getElem hl)
  rw [e] at e'; cases e'
  exact ⟨_, List.getElem?_eq_getElem hl, q⟩
theorem StR.isCell {st : Store} (s : StR K H st μ) {a : Addr} (h : a ∈ μ) : ∃ o, H a = some o ∧ isCell o := by
  obtain ⟨n, e⟩ := List.mem_iff_getElem?.mp h
  obtain ⟨c, _, q⟩ := s.cell e
  exact q.some
/-- a cell is written -/
theorem Stp.write {st : Store} (s : StR K H st μ) {a : Addr} {o : HO} (h : a ∈ μ) : Stp H μ (upd H a o) μ := by
  refine ⟨fun b u hb hc => ?_, ⟨[], by simp, by simp⟩, fun b hb => ?_⟩
  · have : b ≠ a := fun z => by
      subst z
      obtain ⟨o', e', ic⟩ := s.isCell h
      rw [hb] at e'; cases e'
      rcases hc with hc | hc
      · exact hc h
      · exact hc ic
    rw [upd_ne this]; exact hb
  · by_cases z : b = a
    · subst z; rw [upd_same] at hb; cases hb
    · rw [upd_ne z] at hb; exact hb
theorem StR.put {st : Store} (s : StR K H st μ) {n : Nat} {a : Addr} {o : HO} {c : Cell} (e : μ[n]? = some a) (hc : CellR K (upd H a o) c a) : StR K (upd H a o) (st.set n c) μ := by
  refine ⟨by rw [List.length_set]; exact s.len, s.nd, fun m c' hm => ?_⟩
  by_cases hnm : n = m
  · subst hnm
    have hl : n < st.length := by rw [← s.len]; exact (List.getElem?_eq_some_iff.mp e).1
    rw [List.getElem?_set_self hl] at hm
    cases hm
    exact ⟨a, e, hc⟩
  · rw [List.getElem?_set_ne hnm] at hm
    obtain ⟨b, e', q⟩ := s.at_ m c' hm
    refine ⟨b, e', ?_⟩
    have nb : b ≠ a := fun z => hnm (by
      subst z
      obtain ⟨h1, e1⟩ := List.getElem?_eq_some_iff.mp e
      obtain ⟨h2, e2⟩ := List.getElem?_eq_some_iff.mp e'
      exact (List.getElem_inj s.nd).mp (e1.trans e2.symm))
    have st' := Stp.write (o := o) s (List.mem_of_getElem? e)
    exact q.of st'.ext fun o h => by rw [upd_ne nb]; exact h
/-- a new cell -/
theorem StR.push {st : Store} (s : StR K H st μ) {a : Addr} {o : HO} {c : Cell} (hn : H a = none) (hc : CellR K (upd H a o) c a) : StR K (upd H a o) (st ++ [c]) (μ ++ [a]) := by
  have na : a ∉ μ := fun z => by
    obtain ⟨o', e', _⟩ := s.isCell z
    rw [hn] at e'; cases e'
  have s' : StR K (upd H a o) st μ := s.keep (Keep.upd hn)
  refine ⟨by simp [s.len], List.nodup_append.mpr ⟨s.nd, by simp, fun x hx y hy z => by simp at hy; subst hy; subst z; exact na hx⟩, fun m c' hm => ?_⟩
  by_cases hl : m < st.length
  · rw [List.getElem?_append_left hl] at hm
    obtain ⟨b, e', q⟩ := s'.at_ m c' hm
    exact ⟨b, by rw [List.getElem?_append_left (by rw [s.len]; exact hl)]; exact e', q⟩
  · rw [List.getElem?_append_right (by omega)] at hm
    have e : m = st.length := by
      have := (List.getElem?_eq_some_iff.mp hm).1
      simp at this; omega
    subst e
    simp at hm; subst hm
    exact ⟨a, by rw [List.getElem?_append_right (by rw [s.len]; exact Nat.le_refl _)]; simp [s.len], hc⟩
theorem Stp.push {a : Addr} {o : HO} (hn : H a = none) : Stp H μ (upd H a o) (μ ++ [a]) :=
  ⟨(Keep.upd hn).ext, ⟨[a], rfl, fun b hb => by simp at hb; subst hb; exact hn⟩, (Keep.upd hn).there⟩
theorem StR.take {st : Store} {ν : List Addr} (s : StR K H st (μ ++ ν)) : StR K H (st.take μ.length) μ := by
  have hl := s.len
  rw [List.length_append] at hl
  refine ⟨by rw [List.length_take]; omega, (List.nodup_append.mp s.nd).1, fun n c h => ?_⟩
  have hn : n < μ.length := by
    have := (List.getElem?_eq_some_iff.mp h).1
    rw [List.length_take] at this; omega
  rw [List.getElem?_take_of_lt hn] at h
  obtain ⟨a, e, q⟩ := s.at_ n c h
  exact ⟨a, by rw [List.getElem?_append_left hn] at e; exact e, q⟩
/-- a thing read as data -/
def RV (K : KW) (H : Hp) (μ : List Addr) (w : W) (v : V) : Prop := match w with
  | .dat d => Rv K H d v
  | .fdi t kvs => ∃ a, v = .ref a ∧ DcR K H t kvs a
  | w => RW K H μ w v
theorem RW.vw {st : Store} {w : W} {v : V} (s : StR K H st μ) (h : RW K H μ w v) : RV K H μ (vw w st) v := by
  cases w with
  | dat d => exact Rp.rv h
  | fdi t kvs => obtain ⟨a, hv, _, hd⟩ := h; exact ⟨a, hv, hd⟩
  | tup ws => exact h
  | scr ns => exact h
  | ref n =>
    obtain ⟨a, e, rfl⟩ := h
    obtain ⟨c, e2, q⟩ := s.cell e
    unfold Ev.vw
    simp only [e2]
    cases c with
    | lst ds =>
      obtain ⟨xs, h1, h2⟩ := q
      exact ⟨a, xs, rfl, .inl h1, h2⟩
    | dic t kvs => exact ⟨a, rfl, q⟩
end

/-! ### what comes of a run -/
/-- an exception's class and own dict -/
def RX (K : KW) (cA : Nat → Addr) (H : Hp) (x : Exn) (c : Value) (d : Option Addr) : Prop := c = .ref (cA x.cls) ∧ (x.args = [] ∧ d = none)
/-- what is wanted behind: P of the value, the store, the heap; W of an exception -/
def Aft (K : KW) (cA : Nat → Addr) (Wx : Value → Option Addr → Hp → Prop) {α : Type} (H : Hp) (μ : List Addr) (r : Res α) (P : α → Store → Hp → List Addr → Prop) : Prop := match r with
  | .ok a st' => ∀ H' μ', Stp H μ H' μ' → StR K H' st' μ' → P a st' H' μ'
  | .exn x st' => ∀ c d H' μ', Stp H μ H' μ' → StR K H' st' μ' → RX K cA H' x c d → Wx c d H'
  | .stuck => False
section
variable {K : KW} {cA : Nat → Addr} {Wx : Value → Option Addr → Hp → Prop} {α β : Type} {H : Hp} {μ : List Addr} {P P' : α → Store → Hp → List Addr → Prop}
theorem Aft.imp {r : Res α} (h : Aft K cA Wx H μ r P) (i : ∀ a st' H' μ', Stp H μ H' μ' → StR K H' st' μ' → P a st' H' μ' → P' a st' H' μ') : Aft K cA Wx H μ r P' := by
  cases r with
  | ok a st' => exact fun H' μ' s r => i a st' H' μ' s r (h H' μ' s r)
  | exn x st' => exact h
  | stuck => exact h
theorem Aft.bind {m : M α} {f : α → M β} {st : Store} {P : β → Store → Hp → List Addr → Prop} (h : Aft K cA Wx H μ ((m >>= f) st) P) : Aft K cA Wx H μ (m st) (fun a st1 H1 μ1 => Aft K cA Wx H1 μ1 (f a st1) P) := by
  rw [bind_eq] at h
  cases e : m st with
  | ok a st1 =>
    rw [e] at h
    intro H1 μ1 s1 r1
    have h : Aft K cA Wx H μ (f a st1) P := h
    show Aft K cA Wx H1 μ1 (f a st1) P
    cases e2 : f a st1 with
    | ok b st2 => rw [e2] at h; exact fun H' μ' s r => h H' μ' (s1.trans s) r
    | exn x st2 => rw [e2] at h; exact fun c d H' μ' s r => h c d H' μ' (s1.trans s) r
    | stuck => rw [e2] at h; exact h
  | exn x st1 => rw [e] at h; exact h
  | stuck => rw [e] at h; exact h
theorem Aft.ok {a : α} {st : Store} (h : Aft K cA Wx H μ (.ok a st) P) (r : StR K H st μ) : P a st H μ := h H μ .refl r
theorem Aft.lift {o : Option α} {st : Store} (h : Aft K cA Wx H μ (Ev.lift o st) P) (r : StR K H st μ) : ∃ a, o = some a ∧ P a st H μ := by
  cases o with
  | none => exact h.elim
  | some a => exact ⟨a, rfl, h.ok r⟩
theorem Aft.liftB {o : Option α} {f : α → M β} {st : Store} {P : β → Store → Hp → List Addr → Prop} (h : Aft K cA Wx H μ ((Ev.lift o >>= f) st) P) : ∃ a, o = some a ∧ Aft K cA Wx H μ (f a st) P := by
  cases o with
  | none => exact h.elim
  | some a => exact ⟨a, rfl, h⟩
end
end Ev

/-! EvBa: dicts: what is read, what is written. -/
namespace Ev
open PySem PySem.Spec PyProof.Rows L2 PySem.W

/-! ### keys, plain -/
theorem eqD_keyD (j k : Key) : eqD (keyD j) (keyD k) = decide (j = k) := by
  cases j <;> cases k <;> simp [keyD, eqD, Sum.inl.injEq, Sum.inr.injEq]
  · rename_i a b
    rw [Bool.eq_iff_iff]; simp
  · rename_i a b
    rw [Bool.eq_iff_iff]; simp
theorem leaf_key {d : D} (h : isLeaf d = true) : ∃ k, d = keyD k := by
  cases d with
  | int i => exact ⟨.inl i, rfl⟩
  | str s => exact ⟨.inr s, rfl⟩
  | _ => cases h
theorem leaf_rv {K : KW} {H : Hp} {k : Key} {y : V} (r : Rv K H (keyD k) y) : y = kV k := by
  cases k <;> exact r
mutual
theorem eqD_nk : ∀ a b : D, isKey a = true → isKey b = true → eqD a b = decide (nkD a = nkD b)
  | .int i, b, _, hb => by
    cases b with
    | int j => simp only [eqD, nkD]; rw [Bool.eq_iff_iff]; simp
    | str s => simp [eqD, nkD]
    | tup ys => simp [eqD, nkD]
    | _ => cases hb
  | .str i, b, _, hb => by
    cases b with
    | int j => simp [eqD, nkD]
    | str s => simp only [eqD, nkD]; rw [Bool.eq_iff_iff]; simp
    | tup ys => simp [eqD, nkD]
    | _ => cases hb
  | .tup xs, b, ha, hb => by
    cases b with
    | int j => simp [eqD, nkD]
    | str s => simp [eqD, nkD]
    | tup ys =>
      simp only [eqD, nkD]
      rw [eqDs_nk xs ys ha hb]
      rw [Bool.eq_iff_iff]; simp
    | _ => cases hb
  | .non, _, ha, _ => by cases ha
  | .bl _, _, ha, _ => by cases ha
  | .lst _, _, ha, _ => by cases ha
theorem eqDs_nk : ∀ a b : List D, areKeys a = true → areKeys b = true → eqDs a b = decide (nkDs a = nkDs b)
  | [], b, _, _ => by cases b <;> simp [eqDs, nkDs]
  | x :: xs, b, ha, hb => by
    cases b with
    | nil => simp [eqDs, nkDs]
    | cons y ys =>
      simp only [areKeys, Bool.and_eq_true] at ha hb
      simp only [eqDs, nkDs]
      rw [eqD_nk x y ha.1 hb.1, eqDs_nk xs ys ha.2 hb.2]
      rw [Bool.eq_iff_iff]; simp
end
mutual
theorem nk_depth : ∀ d : D, (nkD d).depth ≤ d.depth
  | .non => Nat.le_refl _
  | .bl _ => Nat.le_refl _
  | .int _ => Nat.le_refl _
  | .str _ => Nat.le_refl _
  | .lst _ => by simp [nkD, NestedKey.depth]
  | .tup xs => by
    simp only [nkD, NestedKey.depth, D.depth]
    have := nks_depth xs
    omega
theorem nks_depth : ∀ xs : List D, NestedKey.depthAll (nkDs xs) ≤ D.depths xs
  | [] => Nat.le_refl _
  | x :: xs => by
    simp only [nkDs, NestedKey.depthAll, D.depths]
    have := nk_depth x
    have := nks_depth xs
    omega
end
theorem tupK_isKey {d : D} (h : isTupK d = true) : isKey d = true ∧ (nkD d).depth ≤ 8 := by
  cases d with
  | tup xs =>
    simp only [isTupK, Bool.and_eq_true] at h
    refine ⟨h.1, ?_⟩
    have h1 := nk_depth (.tup xs)
    have h2 := Nat.le_of_ble_eq_true h.2
    simp only [D.depth] at h1
    omega
  | _ => cases h
theorem hasKey_get (k : D) : ∀ kvs : List (D × D), hasKey kvs k = (getKey kvs k).isSome
  | [] => rfl
  | p :: r => by
    have ih := hasKey_get k r
    unfold hasKey getKey at ih ⊢
    rw [List.any_cons, List.find?_cons, ih]
    cases eqD p.1 k <;> simp
section
variable {K : KW} {H : Hp}
theorem KvR.length : ∀ {kvs : List (D × D)} {ks : List (Key × V)}, KvR K H kvs ks → ks.length = kvs.length
  | [], _, h => by cases h; rfl
  | p :: r, _, h => by
    obtain ⟨k, v, r', rfl, _, _, h3⟩ := h
    simp [KvR.length h3]
theorem NdR.length : ∀ {kvs : List (D × D)} {xs : List (NestedKey × Addr × Value)}, NdR K H kvs xs → xs.length = kvs.length
  | [], _, h => by cases h; rfl
  | p :: r, _, h => by
    obtain ⟨b, u, v, r', rfl, _, _, _, _, h4⟩ := h
    simp [NdR.length h4]
/-! ### what is read -/
theorem kv_get (k : Key) : ∀ {kvs : List (D × D)} {ks : List (Key × V)}, KvR K H kvs ks → (valV ks k = none ∧ getKey kvs (keyD k) = none) ∨ ∃ v d, valV ks k = some v ∧ getKey kvs (keyD k) = some d ∧ Rp K H d v
  | [], _, h => by cases h; exact .inl ⟨rfl, rfl⟩
  | p :: r, _, h => by
    obtain ⟨j, v, r', rfl, h1, h2, h3⟩ := h
    have e : eqD p.1 (keyD k) = decide (j = k) := by rw [h1]; exact eqD_keyD j k
    by_cases hj : j = k
    · refine .inr ⟨v, p.2, valV_pos hj, ?_, h2⟩
      unfold getKey
      rw [List.find?_cons, e, decide_eq_true hj]; rfl
    · have e2 : getKey (p :: r) (keyD k) = getKey r (keyD k) := by
        unfold getKey
        rw [List.find?_cons, e, decide_eq_false hj]
      rw [valV_neg hj, e2]
      exact kv_get k h3
theorem nd_get {k : D} (hk : isTupK k = true) : ∀ {kvs : List (D × D)} {xs : List (NestedKey × Addr × Value)}, NdR K H kvs xs → (atKey xs (nkD k) = none ∧ getKey kvs k = none) ∨ ∃ p d v, atKey xs (nkD k) = some p ∧ getKey kvs k = some d ∧ RelV v p.2 ∧ Rp K H d v
  | [], _, h => by cases h; exact .inl ⟨rfl, rfl⟩
  | p :: r, _, h => by
    obtain ⟨b, u, v, r', rfl, h0, h1, h2, h3, h4⟩ := h
    have e : eqD p.1 k = decide (nkD p.1 = nkD k) := eqD_nk _ _ (tupK_isKey h0).1 (tupK_isKey hk).1
    by_cases hj : nkD p.1 = nkD k
    · refine .inr ⟨(b, u), p.2, v, ?_, ?_, h2, h3⟩
      · unfold atKey; rw [List.find?_cons, decide_eq_true hj]; rfl
      · unfold getKey; rw [List.find?_cons, e, decide_eq_true hj]; rfl
    · have e1 : atKey ((nkD p.1, b, u) :: r') (nkD k) = atKey r' (nkD k) := by
        unfold atKey; rw [List.find?_cons, decide_eq_false hj]
      have e2 : getKey (p :: r) k = getKey r k := by
        unfold getKey; rw [List.find?_cons, e, decide_eq_false hj]
      rw [e1, e2]
      exact nd_get hk h4
/-! ### what is written -/
theorem KvR.append : ∀ {kvs : List (D × D)} {ks : List (Key × V)} {k : Key} {d : D} {v : V}, KvR K H kvs ks → Rp K H d v → KvR K H (kvs ++ [(keyD k, d)]) (ks ++ [(k, v)])
  | [], _, k, d, v, h, hd => by cases h; exact ⟨k, v, [], rfl, rfl, hd, rfl⟩
  | p :: r, _, k, d, v, h, hd => by
    obtain ⟨j, w, r', rfl, h1, h2, h3⟩ := h
    exact ⟨j, w, r' ++ [(k, v)], rfl, h1, h2, KvR.append h3 hd⟩
theorem KvR.repl (k : Key) {d : D} {v : V} (hd : Rp K H d v) : ∀ {kvs : List (D × D)} {ks : List (Key × V)}, KvR K H kvs ks → KvR K H (kvs.map fun p => if eqD p.1 (keyD k) then (p.1, d) else p) (ks.map fun kv => if kv.1 = k then (kv.1, v) else kv)
  | [], _, h => by cases h; exact rfl
  | p :: r, _, h => by
    obtain ⟨j, w, r', rfl, h1, h2, h3⟩ := h
    have e : eqD p.1 (keyD k) = decide (j = k) := by rw [h1]; exact eqD_keyD j k
    have ih := KvR.repl k hd h3
    rw [List.map_cons, List.map_cons, e]
    by_cases hj : j = k
    · rw [decide_eq_true hj, if_pos hj]
      exact ⟨j, v, _, rfl, h1, hd, ih⟩
    · rw [decide_eq_false hj, if_neg hj]
      exact ⟨j, w, _, rfl, h1, h2, ih⟩
theorem KvR.put {kvs : List (D × D)} {ks : List (Key × V)} (h : KvR K H kvs ks) (k : Key) {d : D} {v : V} (hd : Rp K H d v) : KvR K H (putKey kvs (keyD k) d) (putK ks k v) := by
  unfold putKey putK
  rw [hasKey_get, valV_any]
  rcases kv_get k h with ⟨e1, e2⟩ | ⟨w, d', e1, e2, _⟩
  · rw [e1, e2]
    exact KvR.append h hd
  · rw [e1, e2]
    exact KvR.repl k hd h
theorem NdR.append : ∀ {kvs : List (D × D)} {xs : List (NestedKey × Addr × Value)} {k d : D} {b : Addr} {v : V} {u : Value}, NdR K H kvs xs → isTupK k = true → Rp K H k (.ref b) → RelV v u → Rp K H d v → NdR K H (kvs ++ [(k, d)]) (xs ++ [(nkD k, b, u)])
  | [], _, k, d, b, v, u, h, hk, hb, ru, hd => by cases h; exact ⟨b, u, v, [], rfl, hk, hb, ru, hd, rfl⟩
  | p :: r, _, k, d, b, v, u, h, hk, hb, ru, hd => by
    obtain ⟨b', u', v', r', rfl, h0, h1, h2, h3, h4⟩ := h
    exact ⟨b', u', v', r' ++ [(nkD k, b, u)], rfl, h0, h1, h2, h3, NdR.append h4 hk hb ru hd⟩
theorem NdR.repl {k : D} (hk : isTupK k = true) {d : D} {v : V} {u : Value} (ru : RelV v u) (hd : Rp K H d v) : ∀ {kvs : List (D × D)} {xs : List (NestedKey × Addr × Value)}, NdR K H kvs xs → NdR K H (kvs.map fun p => if eqD p.1 k then (p.1, d) else p) (xs.map (putAt (nkD k) u))
  | [], _, h => by cases h; exact rfl
  | p :: r, _, h => by
    obtain ⟨b', u', v', r', rfl, h0, h1, h2, h3, h4⟩ := h
    have e : eqD p.1 k = decide (nkD p.1 = nkD k) := eqD_nk _ _ (tupK_isKey h0).1 (tupK_isKey hk).1
    have ih := NdR.repl hk ru hd h4
    rw [List.map_cons, List.map_cons, e]
    unfold putAt
    by_cases hj : nkD p.1 = nkD k
    · rw [decide_eq_true hj, if_pos hj]
      exact ⟨b', u, v, _, rfl, h0, h1, ru, hd, ih⟩
    · rw [decide_eq_false hj, if_neg hj]
      exact ⟨b', u', v', _, rfl, h0, h1, h2, h3, ih⟩
theorem NdR.put {kvs : List (D × D)} {xs : List (NestedKey × Addr × Value)} (h : NdR K H kvs xs) {k : D} (hk : isTupK k = true) {b : Addr} {d : D} {v : V} {u : Value} (hb : Rp K H k (.ref b)) (ru : RelV v u) (hd : Rp K H d v) : NdR K H (putKey kvs k d) (storedH xs (nkD k) b u) := by
  unfold putKey storedH
  rw [hasKey_get]
  rcases nd_get hk h with ⟨e1, e2⟩ | ⟨p, d', w, e1, e2, _⟩
  · rw [e1, e2]
    exact NdR.append h hk hb ru hd
  · rw [e1, e2]
    exact NdR.repl hk ru hd h
end
/-! ### at the heap -/
section
variable {X : Cx} {pins : List (Addr × Obj)} {σ : L2.St} {H : Hp} {s : Shared} {A : Around} {E : Value → Shared → Prop}
mutual
theorem nd_is (I : Inv X pins σ H s) : ∀ (d : D) (v : V) (u : Value), Rp (kw X) H d v → RelV v u → isKey d = true → NestedIs s.heap (nkD d) u
  | .int i, v, u, h, r, _ => by
    cases h
    obtain ⟨t, rfl⟩ := r
    exact .int i t
  | .str i, v, u, h, r, _ => by
    cases h
    obtain ⟨t, rfl⟩ := r
    exact .text i t
  | .tup xs, v, u, h, r, hk => by
    obtain ⟨a, ys, rfl, ht, hr⟩ := h
    cases r
    obtain ⟨its, rv, ⟨o, e1, e2, n, e3⟩, _⟩ := I.tuple ht.sq
    exact .tup e1 e2 e3 (by simpa using nds_is I xs ys its hr rv hk)
  | .non, _, _, _, _, hk => by cases hk
  | .bl _, _, _, _, _, hk => by cases hk
  | .lst _, _, _, _, _, hk => by cases hk
theorem nds_is (I : Inv X pins σ H s) : ∀ (xs : List D) (vs : List V) (us : List Value), Rps (kw X) H xs vs → Vals vs us → areKeys xs = true → NestedAll s.heap (nkDs xs) us
  | [], _, _, h, r, _ => by cases h; cases r; exact .nil
  | x :: xs, _, _, h, r, hk => by
    obtain ⟨v, vs, rfl, h1, h2⟩ := h
    simp only [areKeys, Bool.and_eq_true] at hk
    cases r with
    | cons r1 r2 => exact .cons (nd_is I x _ _ h1 r1 hk.1) (nds_is I xs _ _ h2 r2 hk.2)
end
theorem tk_is (I : Inv X pins σ H s) {k : D} (hk : isTupK k = true) {y : V} {u : Value} (h : Rv (kw X) H k y) (r : RelV y u) : ∃ b, y = .ref b ∧ u = .ref b ∧ Rp (kw X) H k (.ref b) ∧ (nestedKind X.prog X.w).is s.heap (nkD k) b := by
  cases k with
  | tup xs =>
    obtain ⟨b, ys, rfl, ht, hr⟩ := h
    cases r
    have hp : Rp (kw X) H (.tup xs) (.ref b) := ⟨b, ys, rfl, ht, hr⟩
    exact ⟨b, rfl, rfl, hp, nd_is I _ _ _ hp rfl (tupK_isKey hk).1, (tupK_isKey hk).2⟩
  | _ => cases hk
theorem nd_dict (I : Inv X pins σ H s) {kvs : List (D × D)} {a : Addr} (h : NdC (kw X) H kvs a) : ∃ xs, H a = some (ndO X.w a xs) ∧ s.heap.DictOfH (nestedKind X.prog X.w) a xs ∧ (a == sysModules) = false ∧ xs.length ≤ sizeLine ∧ NdR (kw X) H kvs xs := by
  obtain ⟨xs, h1, h2, h3, h4, h5⟩ := h
  obtain ⟨⟨o, es, ep, e1, e2, e3, e4⟩, _, _⟩ := I.hok a _ h1
  refine ⟨xs, h1, ⟨o, es, ep, e1, e2, e3, e4, ?_, h4⟩, h2, h3, h5⟩
  have go : ∀ {kvs : List (D × D)} {xs : List (NestedKey × Addr × Value)}, NdR (kw X) H kvs xs → ∀ x ∈ xs, (nestedKind X.prog X.w).is s.heap x.1 x.2.1 := by
    intro kvs
    induction kvs with
    | nil => intro xs h x hx; cases h; cases hx
    | cons p r ih =>
      intro xs h x hx
      obtain ⟨b, u, v, r', rfl, k0, k1, k2, k3, k4⟩ := h
      rcases List.mem_cons.mp hx with rfl | hx
      · exact ⟨nd_is I _ _ _ k1 rfl (tupK_isKey k0).1, (tupK_isKey k0).2⟩
      · exact ih k4 x hx
  exact go h5
theorem sc_dict (I : Inv X pins σ H s) {kvs : List (D × D)} {a : Addr} (h : ScC (kw X) H kvs a) : ∃ ks, H a = some (.dK ks) ∧ KvR (kw X) H kvs ks := h
/-- d[k] -/
theorem dc_item {t : Bool} {kvs : List (D × D)} {a : Addr} {k e : D} {y : V} {u : Value} (hu : A.units + 10 < cLine) (I : Inv X pins σ H s) (h : DcR (kw X) H t kvs a) (hk : isKeyT t k = true) (hy : Rv (kw X) H k y) (ry : RelV y u) (he : getKey kvs k = some e) :
    ∃ v w' s', Inv X pins σ H s' ∧ Rp (kw X) H e v ∧ RelV v w' ∧ ∀ Q : Value → Shared → Prop, Q w' s' → wpAny (model X.prog X.w) A (getItem (.ref a) u) Q E s := by
  cases t with
  | false =>
    obtain ⟨ks, h1, h2⟩ := (show ScC (kw X) H kvs a from h)
    obtain ⟨j, rfl⟩ := leaf_key hk
    have hy' := leaf_rv hy
    subst hy'
    rcases kv_get j h2 with ⟨_, e2⟩ | ⟨v, d, e1, e2, hd⟩
    · rw [e2] at he; cases he
    · rw [e2] at he; cases he
      obtain ⟨_, _, vs, rel, dd⟩ := dk_of I.hok h1
      obtain ⟨w', hw, rw'⟩ := RelO.some_of (v := v) (o := valueAt vs j) (by rw [← e1]; exact rel.val j)
      exact ⟨v, w', _, I.tok _, hd, rw', fun Q q => wpAny_getItem_of (kV_is ry) dd.mapOf hw q⟩
  | true =>
    obtain ⟨xs, h1, hm, hd, hz, hr⟩ := nd_dict I h
    obtain ⟨b, rfl, rfl, hb, hkey⟩ := tk_is I hk hy ry
    rcases nd_get hk hr with ⟨_, e2⟩ | ⟨p, d, v, e1, e2, rv, hd'⟩
    · rw [e2] at he; cases he
    · rw [e2] at he; cases he
      exact ⟨v, p.2, _, I.tok _, hd', rv, fun Q q => wpAny_getItem_heap (show A.in1.units + 8 < cLine from by show A.units + 1 + 8 < cLine; omega) hkey hm e1 q⟩
/-- k in d, k not in d -/
theorem dc_in {t : Bool} {kvs : List (D × D)} {a : Addr} {k : D} {y : V} {u : Value} {Q : Value → Shared → Prop} (hu : A.units + 10 < cLine) (I : Inv X pins σ H s) (h : DcR (kw X) H t kvs a) (hk : isKeyT t k = true) (hy : Rv (kw X) H k y) (ry : RelV y u)
    (hQ : ∀ s', Inv X pins σ H s' → Q (.bool (hasKey kvs k)) s') : wpAny (model X.prog X.w) A (compareOp .In u (.ref a)) Q E s := by
  rw [hasKey_get] at hQ
  cases t with
  | false =>
    obtain ⟨ks, h1, h2⟩ := (show ScC (kw X) H kvs a from h)
    obtain ⟨j, rfl⟩ := leaf_key hk
    refine d_in (o := valV ks j) (by omega) I (.inl ⟨ks, j, .inl h1, leaf_rv hy, rfl⟩) ry fun s' I' => ?_
    rcases kv_get j h2 with ⟨e1, e2⟩ | ⟨v, d, e1, e2, hd⟩
    · rw [e1]; rw [e2] at hQ; exact hQ s' I'
    · rw [e1]; rw [e2] at hQ; exact hQ s' I'
  | true =>
    obtain ⟨xs, h1, hm, hd, hz, hr⟩ := nd_dict I h
    obtain ⟨b, rfl, rfl, hb, hkey⟩ := tk_is I hk hy ry
    refine wpAny_in_heap (show A.in1.units + 8 < cLine from by show A.units + 1 + 8 < cLine; omega) hkey hd hm ?_
    rcases nd_get hk hr with ⟨e1, e2⟩ | ⟨p, d, v, e1, e2, rv, hd'⟩
    · rw [e1]; rw [e2] at hQ; exact hQ _ (I.tok _)
    · rw [e1]; rw [e2] at hQ; exact hQ _ (I.tok _)
theorem dc_notIn {t : Bool} {kvs : List (D × D)} {a : Addr} {k : D} {y : V} {u : Value} {Q : Value → Shared → Prop} (hu : A.units + 10 < cLine) (I : Inv X pins σ H s) (h : DcR (kw X) H t kvs a) (hk : isKeyT t k = true) (hy : Rv (kw X) H k y) (ry : RelV y u)
    (hQ : ∀ s', Inv X pins σ H s' → Q (.bool (!hasKey kvs k)) s') : wpAny (model X.prog X.w) A (compareOp .NotIn u (.ref a)) Q E s := by
  rw [hasKey_get] at hQ
  cases t with
  | false =>
    obtain ⟨ks, h1, h2⟩ := (show ScC (kw X) H kvs a from h)
    obtain ⟨j, rfl⟩ := leaf_key hk
    refine d_notIn (o := valV ks j) (by omega) I (.inl ⟨ks, j, .inl h1, leaf_rv hy, rfl⟩) ry fun s' I' => ?_
    rcases kv_get j h2 with ⟨e1, e2⟩ | ⟨v, d, e1, e2, hd⟩
    · rw [e1]; rw [e2] at hQ; exact hQ s' I'
    · rw [e1]; rw [e2] at hQ; exact hQ s' I'
  | true =>
    obtain ⟨xs, h1, hm, hd, hz, hr⟩ := nd_dict I h
    obtain ⟨b, rfl, rfl, hb, hkey⟩ := tk_is I hk hy ry
    refine wpAny_notIn_heap (show A.in1.units + 8 < cLine from by show A.units + 1 + 8 < cLine; omega) hkey hd hm ?_
    rcases nd_get hk hr with ⟨e1, e2⟩ | ⟨p, d, v, e1, e2, rv, hd'⟩
    · rw [e1]; rw [e2] at hQ; exact hQ _ (I.tok _)
    · rw [e1]; rw [e2] at hQ; exact hQ _ (I.tok _)
theorem ndO_ok {P : Program} {w : World} {H : Hp} {h : Heap} {a : Addr} {xs : List (NestedKey × Addr × Value)} {o : Obj} {es : Array DictEntry} {ep : Nat} (e1 : h.get? a = some o) (e2 : o.ExactDict) (e3 : o.data = .dict es ep) (e4 : es.toList = xs.map (fun x => ⟨x.1.hash w, .ref x.2.1, x.2.2⟩)) : ObjOk P w H h a (ndO w a xs) :=
  ⟨⟨o, es, ep, e1, e2, e3, e4⟩, ⟨o, e1⟩, fun h1 h2 ⟨o, es, ep, e1, r⟩ k => ⟨o, es, ep, k o e1, r⟩⟩
/-- d[k] = v -/
theorem dc_setItem {t : Bool} {kvs : List (D × D)} {a : Addr} {k d : D} {y v : V} {u r : Value} {Q : Unit → Shared → Prop} (hu : A.units + 10 < cLine) (I : Inv X pins σ H s) (h : DcR (kw X) H t kvs a) (hk : isKeyT t k = true) (hz : kvs.length < bigLine) (hy : Rp (kw X) H k y) (ry : RelV y u) (hv : Rp (kw X) H d v) (rv : RelV v r)
    (hQ : ∀ o s', isCell o → Inv X pins σ (upd H a o) s' → ((∀ b u, H b = some u → b ≠ a → upd H a o b = some u) → DcR (kw X) (upd H a o) t (putKey kvs k d) a) → Q () s') : wpAny (model X.prog X.w) A (setItem (.ref a) u r) Q E s := by
  cases t with
  | false =>
    obtain ⟨ks, h1, h2⟩ := (show ScC (kw X) H kvs a from h)
    obtain ⟨j, rfl⟩ := leaf_key hk
    have hl : ks.length < sizeLine := by rw [h2.length, sizeLine_eq]; exact hz
    refine d_setItem (v := v) (H' := upd H a (.dK (putK ks j v))) (by omega) I (.inl ⟨ks, j, h1, leaf_rv (Rp.rv hy), hl, rfl⟩) ry rv fun s' I' => hQ (.dK (putK ks j v)) s' trivial I' fun _ => ?_
    have ex : Ext [a] H (upd H a (.dK (putK ks j v))) := fun b u hb hc => by
      by_cases e : b = a
      · subst e
        rcases hc with hc | hc
        · exact absurd List.mem_cons_self hc
        · rw [h1] at hb; cases hb; exact absurd trivial hc
      · rw [upd_ne e]; exact hb
    exact ⟨_, upd_same, (h2.ext ex).put j (Rp.ext ex _ _ hv)⟩
  | true =>
    obtain ⟨xs, h1, hm, hd, hzx, hr⟩ := nd_dict I h
    obtain ⟨b, rfl, rfl, hb, hkey⟩ := tk_is I hk (Rp.rv hy) ry
    have hlen := hr.length
    refine wpAny_setItem_heap (hsz := hzx) (show A.in1.units + 8 < cLine from by show A.units + 1 + 8 < cLine; omega) hkey hm fun h' hm' hs => ?_
    obtain ⟨o, es, ep, e1, e2, e3, e4, e5, e6⟩ := hm'
    have hl' : (storedH xs (nkD k) b r).length ≤ sizeLine := by
      have : (storedH xs (nkD k) b r).length ≤ xs.length + 1 := by
        unfold storedH
        split
        · rw [List.length_map]; omega
        · rw [List.length_append]; simp
      have hb' : bigLine = 16777216 := rfl
      rw [sizeLine_eq]
      omega
    refine hQ (ndO X.w a (storedH xs (nkD k) b r)) _ trivial (d_write I (by rw [h1]; exact True.intro) hs ⟨o, e1⟩ (ndO_ok e1 e2 e3 e4)) fun _ => ?_
    have ex : Ext [a] H (upd H a (ndO X.w a (storedH xs (nkD k) b r))) := fun b u hb hc => by
      by_cases e : b = a
      · subst e
        rcases hc with hc | hc
        · exact absurd List.mem_cons_self hc
        · rw [h1] at hb; cases hb; exact absurd trivial hc
      · rw [upd_ne e]; exact hb
    exact ⟨_, upd_same, hd, hl', e6, (hr.ext ex).put hk (Rp.ext ex _ _ hy) rv (Rp.ext ex _ _ hv)⟩
theorem dc_typeIs {t : Bool} {kvs : List (D × D)} {a : Addr} (I : Inv X pins σ H s) (h : DcR (kw X) H t kvs a) : s.TypeIs (.ref a) "dict" := by
  cases t with
  | false =>
    obtain ⟨ks, h1, h2⟩ := (show ScC (kw X) H kvs a from h)
    obtain ⟨_, _, vs, _, dd⟩ := dk_of I.hok h1
    exact dd.typeIs
  | true =>
    obtain ⟨xs, h1, hm, _⟩ := nd_dict I h
    exact hm.typeIs
theorem dc_noDict {t : Bool} {kvs : List (D × D)} {a : Addr} (I : Inv X pins σ H s) (h : DcR (kw X) H t kvs a) : ∀ b, Value.ref a = .ref b → ∃ ob, s.heap.get? b = some ob ∧ ob.dict = none := fun b q => by
  cases q
  cases t with
  | false =>
    obtain ⟨ks, h1, h2⟩ := (show ScC (kw X) H kvs a from h)
    obtain ⟨_, _, vs, _, ob, _, _, e1, e2, _⟩ := dk_of I.hok h1
    exact ⟨ob, e1, e2.2.1⟩
  | true =>
    obtain ⟨xs, h1, ⟨ob, _, _, e1, e2, _⟩, _⟩ := nd_dict I h
    exact ⟨ob, e1, e2.2.1⟩
/-- d.get(k), d.get(k, x) -/
theorem dc_get1 {t : Bool} {kvs : List (D × D)} {a : Addr} {k : D} {y : V} {u : Value} {Q : Value → Shared → Prop} (hu : A.units + 10 < cLine) (I : Inv X pins σ H s) (h : DcR (kw X) H t kvs a) (hk : isKeyT t k = true) (hy : Rv (kw X) H k y) (ry : RelV y u)
    (hQ : ∀ v w' s', Inv X pins σ H s' → Rp (kw X) H ((getKey kvs k).getD .non) v → RelV v w' → Q w' s') : wpAny (model X.prog X.w) A (call (.builtin "dict.get") [.ref a, u]) Q E s := by
  cases t with
  | false =>
    obtain ⟨ks, h1, h2⟩ := (show ScC (kw X) H kvs a from h)
    obtain ⟨j, rfl⟩ := leaf_key hk
    refine d_get1 (o := valV ks j) (by omega) I (.inl ⟨ks, j, .inl h1, leaf_rv hy, rfl⟩) ry fun w' s' I' rw' => ?_
    rcases kv_get j h2 with ⟨e1, e2⟩ | ⟨v, d, e1, e2, hd⟩
    · rw [e1] at rw'; exact hQ .non w' s' I' (by rw [e2]; rfl) rw'
    · rw [e1] at rw'; exact hQ v w' s' I' (by rw [e2]; exact hd) rw'
  | true =>
    obtain ⟨xs, h1, hm, hd, hz, hr⟩ := nd_dict I h
    obtain ⟨b, rfl, rfl, hb, hkey⟩ := tk_is I hk hy ry
    refine get_keyed (knd := nestedKind X.prog X.w) (show A.in1.units + 8 < cLine from by show A.units + 1 + 8 < cLine; omega) hkey hd ⟨xs, hm, rfl⟩ ?_
    rw [valueAt_pairsH]
    rcases nd_get hk hr with ⟨e1, e2⟩ | ⟨p, d, v, e1, e2, rv, hd'⟩
    · rw [e1]; exact hQ .non _ _ (I.tok _) (by rw [e2]; rfl) rfl
    · rw [e1]; exact hQ v _ _ (I.tok _) (by rw [e2]; exact hd') rv
theorem dc_get2 {t : Bool} {kvs : List (D × D)} {a : Addr} {k df : D} {y z : V} {u r : Value} {Q : Value → Shared → Prop} (hu : A.units + 10 < cLine) (I : Inv X pins σ H s) (h : DcR (kw X) H t kvs a) (hk : isKeyT t k = true) (hy : Rv (kw X) H k y) (ry : RelV y u) (hz : Rp (kw X) H df z) (rz : RelV z r)
    (hQ : ∀ v w' s', Inv X pins σ H s' → Rp (kw X) H ((getKey kvs k).getD df) v → RelV v w' → Q w' s') : wpAny (model X.prog X.w) A (call (.builtin "dict.get") [.ref a, u, r]) Q E s := by
  cases t with
  | false =>
    obtain ⟨ks, h1, h2⟩ := (show ScC (kw X) H kvs a from h)
    obtain ⟨j, rfl⟩ := leaf_key hk
    refine d_get2 (o := valV ks j) (by omega) I (.inl ⟨ks, j, .inl h1, leaf_rv hy, rfl⟩) ry rz fun w' s' I' rw' => ?_
    rcases kv_get j h2 with ⟨e1, e2⟩ | ⟨v, d, e1, e2, hd⟩
    · rw [e1] at rw'; exact hQ z w' s' I' (by rw [e2]; exact hz) rw'
    · rw [e1] at rw'; exact hQ v w' s' I' (by rw [e2]; exact hd) rw'
  | true =>
    obtain ⟨xs, h1, hm, hd, hzx, hr⟩ := nd_dict I h
    obtain ⟨b, rfl, rfl, hb, hkey⟩ := tk_is I hk hy ry
    refine getOr_keyed (knd := nestedKind X.prog X.w) (show A.in1.units + 8 < cLine from by show A.units + 1 + 8 < cLine; omega) hkey hd ⟨xs, hm, rfl⟩ ?_
    rw [valueAt_pairsH]
    rcases nd_get hk hr with ⟨e1, e2⟩ | ⟨p, d, v, e1, e2, rv, hd'⟩
    · rw [e1]; exact hQ z _ _ (I.tok _) (by rw [e2]; exact hz) rz
    · rw [e1]; exact hQ v _ _ (I.tok _) (by rw [e2]; exact hd') rv
end
end Ev

/-! EvC: the operators by values: what the machine does is what binD, cmpW, ixW .. say. -/
namespace Ev
open PySem PySem.Spec PyProof.Rows L2 PySem.W

/-! ### D and PyData -/
mutual
theorem eqD_toP : ∀ a b : D, PyData.eqv a.toP b.toP = eqD a b
  | .non, b => by cases b <;> simp [D.toP, PyData.eqv, eqD]
  | .bl a, b => by cases b <;> simp [D.toP, PyData.eqv, eqD]
  | .int a, b => by cases b <;> simp [D.toP, PyData.eqv, eqD]
  | .str a, b => by cases b <;> simp [D.toP, PyData.eqv, eqD]
  | .tup xs, b => by
    cases b with
    | tup ys => simp only [D.toP, PyData.eqv, eqD]; exact eqDs_toP xs ys
    | _ => simp [D.toP, PyData.eqv, eqD]
  | .lst xs, b => by
    cases b with
    | lst ys => simp only [D.toP, PyData.eqv, eqD]; exact eqDs_toP xs ys
    | _ => simp [D.toP, PyData.eqv, eqD]
theorem eqDs_toP : ∀ a b : List D, PyData.eqvAll (D.toPs a) (D.toPs b) = eqDs a b
  | [], b => by cases b <;> simp [D.toPs, PyData.eqvAll, eqDs]
  | x :: xs, b => by
    cases b with
    | nil => simp [D.toPs, PyData.eqvAll, eqDs]
    | cons y ys => simp only [D.toPs, PyData.eqvAll, eqDs]; rw [eqD_toP x y, eqDs_toP xs ys]
end
mutual
theorem depth_toP : ∀ a : D, a.toP.depth = a.depth
  | .non => rfl
  | .bl _ => rfl
  | .int _ => rfl
  | .str _ => rfl
  | .tup xs => by simp only [D.toP, PyData.depth, D.depth]; rw [depths_toP xs]
  | .lst xs => by simp only [D.toP, PyData.depth, D.depth]; rw [depths_toP xs]
theorem depths_toP : ∀ a : List D, PyData.depthAll (D.toPs a) = D.depths a
  | [] => rfl
  | x :: xs => by simp only [D.toPs, PyData.depthAll, D.depths]; rw [depth_toP x, depths_toP xs]
end
mutual
theorem plain_toP : ∀ a : D, a.toP.plain = true
  | .non => rfl
  | .bl _ => rfl
  | .int _ => rfl
  | .str _ => rfl
  | .tup xs => by simp only [D.toP, PyData.plain]; exact plains_toP xs
  | .lst xs => by simp only [D.toP, PyData.plain]; exact plains_toP xs
theorem plains_toP : ∀ a : List D, PyData.plainAll (D.toPs a) = true
  | [] => rfl
  | x :: xs => by simp only [D.toPs, PyData.plainAll]; rw [plain_toP x, plains_toP xs]; rfl
end
mutual
theorem alike_toP : ∀ a b : D, PySem.W.alike a.toP b.toP = alikeD a b
  | .non, b => by cases b <;> simp [D.toP, PySem.W.alike, alikeD]
  | .bl a, b => by cases b <;> simp [D.toP, PySem.W.alike, alikeD]
  | .int a, b => by cases b <;> simp [D.toP, PySem.W.alike, alikeD]
  | .str a, b => by cases b <;> simp [D.toP, PySem.W.alike, alikeD]
  | .tup xs, b => by
    cases b with
    | tup ys => simp only [D.toP, PySem.W.alike, alikeD]; exact alikes_toP xs ys
    | _ => simp [D.toP, PySem.W.alike, alikeD]
  | .lst xs, b => by
    cases b with
    | lst ys => simp only [D.toP, PySem.W.alike, alikeD]; exact alikes_toP xs ys
    | _ => simp [D.toP, PySem.W.alike, alikeD]
theorem alikes_toP : ∀ a b : List D, PySem.W.alikeAll (D.toPs a) (D.toPs b) = alikeDs a b
  | [], b => by cases b <;> simp [D.toPs, PySem.W.alikeAll, alikeDs]
  | x :: xs, b => by
    cases b with
    | nil => simp [D.toPs, PySem.W.alikeAll, alikeDs]
    | cons y ys => simp only [D.toPs, PySem.W.alikeAll, alikeDs]; rw [alike_toP x y, alikes_toP xs ys]
end
theorem toP_none {a : D} (h : a.isNon = false) : a.toP ≠ .none := by cases a <;> simp_all [D.toP, D.isNon]
mutual
theorem lt_toP : ∀ a b : D, alikeD a b = true → dataLt a.toP b.toP = ltD a b
  | .non, b, h => by
    cases b <;> simp [alikeD] at h
    show dataLt .none .none = false
    exact lex_irrefl _
  | .bl a, b, h => by
    cases b <;> simp [alikeD] at h
    rename_i b
    refine (dataLt_bool a b).trans ?_
    cases a <;> cases b <;> rfl
  | .int a, b, h => by
    cases b <;> simp [alikeD] at h
    exact dataLt_int _ _
  | .str a, b, h => by
    cases b <;> simp [alikeD] at h
    exact dataLt_str _ _
  | .tup xs, b, h => by
    cases b <;> simp [alikeD] at h
    rename_i ys
    refine (dataLt_tuple _ _).trans ?_
    rw [ltD]
    exact lts_toP xs ys h
  | .lst xs, b, h => by
    cases b <;> simp [alikeD] at h
    rename_i ys
    refine (dataLt_list _ _).trans ?_
    rw [ltD]
    exact lts_toP xs ys h
theorem lts_toP : ∀ a b : List D, alikeDs a b = true → PyProof.Rows.lexLt itemOrd (keyToksAll (D.toPs a)) (keyToksAll (D.toPs b)) = ltDs a b
  | [], [], _ => by simp only [D.toPs, ltDs]; exact lex_irrefl _
  | [], y :: ys, _ => by simp only [D.toPs, ltDs, keyToksAll]; exact (lex_diff (O := itemOrd) (by simp)).trans (by decide)
  | x :: xs, [], _ => by simp only [D.toPs, ltDs, keyToksAll]; exact (lex_diff (O := itemOrd) (by simp)).trans (by decide)
  | x :: xs, y :: ys, h => by
    simp only [alikeDs, Bool.and_eq_true] at h
    have hx : PySem.W.alike x.toP y.toP = true := by rw [alike_toP]; exact h.1
    simp only [D.toPs, ltDs]
    cases e : eqD x y with
    | true =>
      rw [dataLt_all_yes hx (by rw [eqD_toP]; exact e), lts_toP xs ys h.2]
      simp
    | false =>
      rw [dataLt_all_no hx (by rw [eqD_toP]; exact e), lt_toP x y h.1]
      simp
end
theorem anyEq_toP (x : D) : ∀ ys : List D, (D.toPs ys).any (fun y => PyData.eqv y x.toP) = anyEq x ys
  | [] => rfl
  | y :: ys => by simp only [D.toPs, List.any_cons, anyEq]; rw [eqD_toP, anyEq_toP x ys]

/-! ### what is new -/
section
variable {X : Cx} {pins : List (Addr × Obj)} {σ : L2.St} {H : Hp} {s : Shared} {Q : VK}
theorem inv_lstR (I : Inv X pins σ H s) {a : Addr} {xs : List V} (h : Rd H a (.lst xs)) : xs.length ≤ sizeLine ∧ ∃ its n, Vals xs its ∧ s.heap.get? a = some { cls := .type "list", data := .seq its.toArray n } := by
  obtain ⟨z, its, n, r, e⟩ := h.ok I.hok
  exact ⟨z, its, n, r, e⟩
/-- a new list at p, which stays -/
theorem ep_new {u : Value} {s' : Shared} {p : Addr} {zs : List V} (I : Inv X pins σ (upd H p (.lst zs)) s') (hu : u = .ref p) (q : ∀ o, Q (.ref p) (upd H p (.frz o (.lst zs)))) : EP X pins σ Q u s' := by
  obtain ⟨o, I'⟩ := I.lock (d := p) (u := .lst zs) upd_same trivial
  rw [upd_upd] at I'
  exact ⟨.ref p, _, I', hu, q o⟩
theorem ep_frz {u : Value} {s' : Shared} (h : EP X pins σ (fun v H' => ∃ p zs, H p = none ∧ v = .ref p ∧ H' = upd H p (.lst zs) ∧ ∀ o, Q v (upd H p (.frz o (.lst zs)))) u s') : EP X pins σ Q u s' := by
  obtain ⟨v, H', I, r, p, zs, hn, rfl, rfl, q⟩ := h
  exact ep_new I r q
/-- a new tuple at the heap's end -/
theorem ep_tup {ys : List V} {its : List Value} {t' : Nat} (I : Inv X pins σ H s) (hv : Vals ys its) (hz : ys.length ≤ sizeLine) (q : ∀ p o, H p = none → o.dict = none → Q (.ref p) (upd H p (.frz o (.tup ys)))) :
    EP X pins σ Q (.ref s.heap.objs.size) { s with heap := s.heap.push { cls := .type "tuple", data := .seq its.toArray }, toks := t' } := by
  have hp := Heap.get?_push_size s.heap (o := { cls := .type "tuple", data := .seq its.toArray }) rfl
  exact ⟨.ref s.heap.objs.size, _, I.laid (t' := t') (o := .frz { cls := .type "tuple", data := .seq its.toArray } (.tup ys)) (fun b ob q => Heap.get?_push_of_some _ q) (Nat.le_refl _) ⟨hp, hz, its, hv, IsTup.new _ _⟩, rfl, q _ _ (I.hok.fresh (Nat.le_refl _)) rfl⟩
end

/-- behind an operator: the same heap, or a new thing in it -/
def NewD (K : KW) (H : Hp) (d : D) (Q : VK) : Prop := ∀ v H', Keep H H' → Rp K H' d v → Q v H'
theorem NewD.same {K : KW} {H : Hp} {d : D} {Q : VK} (n : NewD K H d Q) {v : V} (h : Rp K H d v) : Q v H := n v H .refl h
theorem NewD.lst {K : KW} {H : Hp} {ds : List D} {Q : VK} (n : NewD K H (.lst ds) Q) {p : Addr} {o : Obj} {xs : List V} (hp : H p = none) (h : Rps K H ds xs) : Q (.ref p) (upd H p (.frz o (.lst xs))) :=
  n _ _ (Keep.upd hp) ⟨p, o, xs, rfl, upd_same, Rps.ext (μ := []) (Keep.upd hp).ext ds xs h⟩
theorem NewD.tup {K : KW} {H : Hp} {ds : List D} {Q : VK} (n : NewD K H (.tup ds) Q) {p : Addr} {o : Obj} {xs : List V} (hp : H p = none) (ho : o.dict = none) (h : Rps K H ds xs) : Q (.ref p) (upd H p (.frz o (.tup xs))) :=
  n _ _ (Keep.upd hp) ⟨p, xs, rfl, .inl ⟨o, upd_same, ho⟩, Rps.ext (μ := []) (Keep.upd hp).ext ds xs h⟩
def rPure2 (K : KW) (f : D → D → Option D) : R2 := fun x y H Q => ∃ a b d, Rv K H a x ∧ Rv K H b y ∧ f a b = some d ∧ NewD K H d Q

section
variable {X : Cx}
theorem op_catT2 : OpR X (binaryOp .Add) (fun x y H Q => ∃ a b xs ys, x = .ref a ∧ y = .ref b ∧ SqT (kw X) H a xs ∧ SqT (kw X) H b ys ∧ xs.length + ys.length ≤ sizeLine ∧
    (xs = [] → Q (.ref b) H) ∧ (xs ≠ [] → ys = [] → Q (.ref a) H) ∧ (xs ≠ [] → ys ≠ [] → ∀ p o, H p = none → o.dict = none → Q (.ref p) (upd H p (.frz o (.tup (xs ++ ys)))))) := by
  intro pins s σ H x y v u Q I rx ry h
  obtain ⟨a, b, xs, ys, rfl, rfl, ha, hb, hz, q0, q1, q2⟩ := h
  cases rx
  cases ry
  obtain ⟨its, r1, p1, _⟩ := I.tuple ha
  obtain ⟨its2, r2, p2, _⟩ := I.tuple hb
  by_cases hx : xs = []
  · subst hx
    cases r1
    exact cat_tup0 p1 p2 ⟨.ref b, H, I, rfl, q0 rfl⟩
  · refine HT.cat_tup p1 p2 (fun z => hx (r1.nil_iff.mp z)) (fun z => ⟨.ref a, H, I, rfl, q1 hx (r2.nil_iff.mp z)⟩) (fun z => ?_) (by rw [← r1.length, ← r2.length]; exact hz)
    exact ep_tup (t' := s.toks) I (r1.append r2) (by rw [List.length_append]; exact hz) (q2 hx (fun w => z (r2.nil_iff.mpr w)))
theorem op_repT2 : OpR X (binaryOp .Mult) (fun x y H Q => ∃ l k xs, x = .ref l ∧ y = .int k ∧ SqT (kw X) H l xs ∧ xs ≠ [] ∧ 2 ≤ k ∧ k ≤ 1000 ∧ xs.length ≤ 1000 ∧ ∀ p o, H p = none → o.dict = none → Q (.ref p) (upd H p (.frz o (.tup (List.replicate k.toNat xs).flatten)))) := by
  intro pins s σ H x y v u Q I rx ry h
  obtain ⟨l, k, xs, rfl, rfl, hT, hne, h1, h2, hz, q⟩ := h
  cases rx
  obtain ⟨t, rfl⟩ := ry
  obtain ⟨its, r, ⟨⟨cls, dd, data, sl⟩, ho, hc, n, hd⟩, hs⟩ := I.tuple hT
  simp only at hc hd
  subst hc hd
  have hle : its.length = xs.length := r.length.symm
  have hn : its ≠ [] := fun e => hne (by
    rw [e] at hle
    exact List.eq_nil_of_length_eq_zero hle.symm)
  have hi : its.toArray.isEmpty = false := by
    cases its with
    | nil => exact absurd rfl hn
    | cons a b => rfl
  have hsz0 : its.toArray.size = xs.length := by rw [List.size_toArray, hle]
  have hm : ((its.toArray.size : Nat) : Int) * k ≤ 1000000 := by
    rw [hsz0]
    have a1 : ((xs.length : Nat) : Int) * k ≤ 1000 * k := Int.mul_le_mul_of_nonneg_right (by omega) (by omega)
    omega
  have flen : (List.replicate k.toNat its).flatten.length ≤ sizeLine := by
    rw [PyProof.Rows.lm_len_rep_flat, hle, sizeLine_eq]
    have a1 : k.toNat * xs.length ≤ 1000 * 1000 := Nat.mul_le_mul (by omega) hz
    omega
  have c0 : (decide (k < -(2 ^ 63)) || decide (k ≥ 2 ^ 63)) = false := by
    rw [decide_eq_false (by omega), decide_eq_false (by omega)] <;> rfl
  have c1 : (its.toArray.isEmpty || k == 1) = false := by
    rw [hi, Bool.false_or]
    exact beq_eq_false_iff_ne.mpr (by omega)
  have c2 : (decide (k ≤ 0) || its.toArray.isEmpty) = false := by
    rw [hi, Bool.or_false]
    exact decide_eq_false (by omega)
  have c4 : Builtin.Tuple.tupleTooMany (((its.toArray.size : Nat) : Int) * k) = false := by
    unfold Builtin.Tuple.tupleTooMany
    rw [sizeLine_eq]
    exact decide_eq_false (by omega)
  refine wpAny_binaryOp_repeat_ref (T := "tuple") (U := "int") (by decide) ⟨_, ho, rfl⟩ (fun s' => typeIs_int s' k t) noFill_tuple_mul F.fills_int_mul F.slot_int_rmul repeat_tuple F.slot_int_index.lookup
    (call_meets F.slot_int_rmul (typeIs_int s k t) F.entry_int_rmul (F.args_int_rmul_2 _ _) (int_rmul_tuple k t l its.toArray n dd sl)
      ⟨ho, rfl, ⟨_, ho, rfl⟩, call_meets F.slot_tuple_mul ⟨_, ho, rfl⟩ F.entry_tuple_mul (F.args_tuple_mul_2 _ _) (tuple_mulW l its.toArray n dd sl k t c0 c1 c2 (by omega) c4 (by rw [size_rep, List.size_toArray]; exact flen)) ⟨ho, ?_⟩⟩)
  rw [size_rep]
  exact ep_tup (t' := s.toks) I (r.rep k.toNat) (by rw [PyProof.Rows.lm_len_rep_flat, sizeLine_eq]; have a1 : k.toNat * xs.length ≤ 1000 * 1000 := Nat.mul_le_mul (by omega) hz; omega) q
theorem sl_tup2 : SlR X (fun x lo hi H Q => ∃ a xs, x = .ref a ∧ SqT (kw X) H a xs ∧ (HT.sIx xs.length 0 lo = 0 ∧ HT.sIx xs.length xs.length hi = xs.length → Q (.ref a) H) ∧
    ∀ p o, H p = none → o.dict = none → Q (.ref p) (upd H p (.frz o (.tup (cutV xs lo hi))))) := by
  intro pins s σ H x v vl vu lo hi sl Q I rx hs pl pu h
  obtain ⟨a, xs, rfl, hx, q1, q2⟩ := h
  cases rx
  obtain ⟨its, r, ht, hz⟩ := I.tuple hx
  have hlen : its.toArray.size = xs.length := by rw [List.size_toArray]; exact r.length.symm
  refine ⟨"tuple", _, PyProof.Rows.slot_tuple_getitem.lookup, ht.typeIs, ?_⟩
  by_cases hw : HT.sIx xs.length 0 lo = 0 ∧ HT.sIx xs.length xs.length hi = xs.length
  · exact getItem_tuple_whole ht hs pl pu (by rw [hlen]; exact hw) ⟨.ref a, H, I, rfl, q1 hw⟩
  · refine HT.getItem_tuple_cut ht hs pl pu (by rw [hlen]; exact hw) ?_ (by rw [hlen]; exact hz)
    rw [hlen]
    exact ep_tup (t' := s.toks) I ((r.drop (HT.sIx xs.length 0 lo)).take (HT.sIx xs.length xs.length hi - HT.sIx xs.length 0 lo)) (Nat.le_trans (cutV_length xs lo hi) hz) q2
theorem op_cat2 {pins : List (Addr × Obj)} {σ : L2.St} {H : Hp} {s : Shared} {Q : VK} {l b : Addr} {xs zs : List V} (I : Inv X pins σ H s) (hH : Rd H l (.lst xs)) (hB : Rd H b (.lst zs)) (hz : xs.length + zs.length ≤ sizeLine)
    (q : ∀ p o, H p = none → Q (.ref p) (upd H p (.frz o (.lst (xs ++ zs))))) : wpAny (model X.prog X.w) X.A (binaryOp .Add (.ref l) (.ref b)) (EP X pins σ Q) X.xe s := by
  obtain ⟨z, its, n, r, e⟩ := inv_lstR I hH
  obtain ⟨z2, its2, n2, r2, e2⟩ := inv_lstR I hB
  have hl := r.length
  have hl2 := r2.length
  refine PySem.P.add_list e e2 ?_ (by rw [List.size_toArray, List.size_toArray]; omega)
  have ea : its.toArray ++ its2.toArray = (its ++ its2).toArray := by simp
  rw [ea]
  exact ep_new (I.lnew (t' := s.toks) (r.append r2) (by rw [List.length_append]; omega)) rfl fun o => q _ o I.fresh
theorem op_rep2 {pins : List (Addr × Obj)} {σ : L2.St} {H : Hp} {s : Shared} {Q : VK} {l : Addr} {k : Int} {t : Tok} {xs : List V} (I : Inv X pins σ H s) (hH : Rd H l (.lst xs)) (h1 : -(2 ^ 63) ≤ k) (h2 : k < 2 ^ 63) (hz : xs.length * k.toNat ≤ sizeLine)
    (q : ∀ p o, H p = none → Q (.ref p) (upd H p (.frz o (.lst (List.replicate k.toNat xs).flatten)))) : wpAny (model X.prog X.w) X.A (binaryOp .Mult (.ref l) (.int k t)) (EP X pins σ Q) X.xe s := by
  obtain ⟨z, its, n, r, e⟩ := inv_lstR I hH
  have hl := r.length
  have hlen : its.toArray.size * k.toNat ≤ sizeLine := by rw [List.size_toArray, ← hl]; exact hz
  have hcap : ¬ its.toArray.size * k.toNat > (2 ^ 63 - 1) / 8 := by
    have : (sizeLine : Nat) ≤ (2 ^ 63 - 1) / 8 := by decide
    omega
  have hfit : ¬ (!Builtin.List.listFitsIndex k) = true := by
    rw [fitsIndex_both h1 h2]
    exact Bool.false_ne_true
  have hlong : ¬ Builtin.List.listTooLong (its.toArray.size * k.toNat) = true := by
    rw [notLongL hlen]
    exact Bool.false_ne_true
  have hnew : List.foldl (fun x1 x2 => x1 ++ x2) #[] (List.replicate (if its.toArray.isEmpty = true then 0 else k.toNat) its.toArray) = (List.replicate k.toNat its).flatten.toArray := by
    have f0 : ∀ m : Nat, List.foldl (fun x1 x2 => x1 ++ x2) #[] (List.replicate m its.toArray) = (List.replicate m its).flatten.toArray := fun m => by
      have := foldl_rep its m []
      rw [List.nil_append] at this
      exact this
    rw [f0]
    cases its with
    | nil => simp
    | cons a r' => rw [if_neg (by simp)]
  refine wpAny_binaryOp_repeat_ref (T := "list") (U := "int") (by decide) ⟨_, e, rfl⟩ (fun s' => typeIs_int s' k t) noFill_list_mul F.fills_int_mul F.slot_int_rmul repeat_list F.slot_int_index.lookup
    (call_meets F.slot_int_rmul (typeIs_int s k t) F.entry_int_rmul (F.args_int_rmul_2 _ _) (int___rmul___int_list k t l its.toArray n)
      ⟨e, rfl, ⟨_, e, rfl⟩, call_meets F.slot_list_mul ⟨_, e, rfl⟩ F.entry_list_mul (F.args_list_mul_2 _ _) (AutoListH.list___mul___list_int_3 l its.toArray n k t hfit hcap hlong) ⟨e, ?_⟩⟩)
  rw [hnew]
  exact ep_new (I.lnew (t' := s.toks) (r.rep k.toNat) (by rw [PyProof.Rows.lm_len_rep_flat, Nat.mul_comm]; exact hz)) rfl fun o => q _ o I.fresh

theorem op_bin {op : Operator} : OpR X (binaryOp op) (rPure2 (kw X) (binD op)) := by
  intro pins s σ H x y v u Q I rx ry h
  obtain ⟨a, b, d, ha, hb, e, n⟩ := h
  cases op with
  | Add =>
    cases a with
    | int i =>
      cases b with
      | int j => cases e; exact op_add pins s σ H x y v u Q I rx ry ⟨i, j, ha, hb, n.same rfl⟩
      | _ => cases e
    | str i =>
      cases b with
      | str j =>
        simp only [binD] at e
        split at e
        · rename_i hz
          cases e
          exact op_add_str pins s σ H x y v u Q I rx ry ⟨i, j, ha, hb, hz, n.same rfl⟩
        · cases e
      | _ => cases e
    | tup xs =>
      cases b with
      | tup ys =>
        simp only [binD] at e
        split at e
        · rename_i hz
          cases e
          obtain ⟨p, vs, rfl, hp, hr⟩ := ha
          obtain ⟨p', vs', rfl, hp', hr'⟩ := hb
          have l1 := hr.length
          have l2 := hr'.length
          refine op_catT2 pins s σ H _ _ v u Q I rx ry ⟨p, p', vs, vs', rfl, rfl, hp.sq, hp'.sq, by rw [l1, l2]; exact hz, fun z => ?_, fun _ z => ?_, fun _ _ q o hq ho => n.tup hq ho (hr.append hr')⟩
          · subst z
            have : xs = [] := List.length_eq_zero_iff.mp l1.symm
            subst this
            exact n.same ⟨p', vs', rfl, hp', hr'⟩
          · subst z
            have : ys = [] := List.length_eq_zero_iff.mp l2.symm
            subst this
            rw [List.append_nil] at n
            exact n.same ⟨p, vs, rfl, hp, hr⟩
        · cases e
      | _ => cases e
    | lst xs =>
      cases b with
      | lst ys =>
        simp only [binD] at e
        split at e
        · rename_i hz
          cases e
          obtain ⟨p, vs, rfl, hp, hr⟩ := ha
          obtain ⟨p', vs', rfl, hp', hr'⟩ := hb
          cases rx
          cases ry
          exact op_cat2 I hp hp' (by rw [hr.length, hr'.length]; exact hz) fun q o hq => n.lst hq (hr.append hr')
        · cases e
      | _ => cases e
    | _ => cases e
  | Sub =>
    cases a with
    | int i =>
      cases b with
      | int j => cases e; exact op_sub pins s σ H x y v u Q I rx ry ⟨i, j, ha, hb, n.same rfl⟩
      | _ => cases e
    | _ => cases e
  | Mult =>
    cases a with
    | int i =>
      cases b with
      | int j =>
        simp only [binD] at e
        split at e
        · rename_i hz
          cases e
          refine op_mul pins s σ H x y v u Q I rx ry ⟨i, j, ha, hb, ?_, n.same rfl⟩
          simpa [okMul, CMul] using hz
        · cases e
      | _ => cases e
    | tup xs =>
      cases b with
      | int k =>
        simp only [binD] at e
        split at e
        · rename_i hz
          cases e
          obtain ⟨p, vs, rfl, hp, hr⟩ := ha
          have l1 := hr.length
          obtain ⟨h1, h2, h3, h4⟩ := hz
          refine op_repT2 pins s σ H _ _ v u Q I rx ry ⟨p, k, vs, rfl, hb, hp.sq, fun z => ?_, h1, h2, by rw [l1]; exact h3, fun q o hq ho => n.tup hq ho (hr.flat _)⟩
          subst z
          exact h4 (List.length_eq_zero_iff.mp l1.symm)
        · cases e
      | _ => cases e
    | lst xs =>
      cases b with
      | int k =>
        simp only [binD] at e
        split at e
        · rename_i hz
          cases e
          obtain ⟨p, vs, rfl, hp, hr⟩ := ha
          cases rx
          cases hb
          obtain ⟨t, rfl⟩ := ry
          exact op_rep2 I hp hz.1 hz.2.1 (by rw [hr.length]; exact hz.2.2) fun q o hq => n.lst hq (hr.flat _)
        · cases e
      | _ => cases e
    | _ => cases e
  | FloorDiv =>
    cases a with
    | int i =>
      cases b with
      | int j =>
        simp only [binD] at e
        split at e
        · rename_i hz
          cases e
          exact op_fdiv pins s σ H x y v u Q I rx ry ⟨i, j, ha, hb, hz, n.same rfl⟩
        · cases e
      | _ => cases e
    | _ => cases e
  | Mod =>
    cases a with
    | int i =>
      cases b with
      | int j =>
        simp only [binD] at e
        split at e
        · rename_i hz
          cases e
          exact op_mod pins s σ H x y v u Q I rx ry ⟨i, j, ha, hb, hz, n.same rfl⟩
        · cases e
      | _ => cases e
    | _ => cases e
  | Pow =>
    cases a with
    | int i =>
      cases b with
      | int j =>
        simp only [binD] at e
        split at e
        · rename_i hz
          cases e
          exact op_pow pins s σ H x y v u Q I rx ry ⟨i, j, ha, hb, hz, n.same rfl⟩
        · cases e
      | _ => cases e
    | _ => cases e
  | _ => cases a <;> cases b <;> cases e
/-! ### comparisons -/
theorem read2 {pins : List (Addr × Obj)} {σ : L2.St} {H : Hp} {s : Shared} {a : D} {x : V} {v : Value} (I : Inv X pins σ H s) (h : Rv (kw X) H a x) (r : RelV x v) : ∃ as, Reads s.heap v a.toP as := Dp.reads I _ _ _ (Rv.dp h) r
def rCmpD (K : KW) (f : D → D → Option Bool) : R2 := fun x y H Q => ∃ a b r, Rv K H a x ∧ Rv K H b y ∧ f a b = some r ∧ Q (.bl r) H
theorem okD {a b : D} (h : okDepth a b = true) {n : Nat} (hu : n + 100 < cLine) : n + min a.toP.depth b.toP.depth < cLine := by
  rw [depth_toP, depth_toP]
  have := Nat.ble_eq.mp h
  omega
theorem ite_some {c : Bool} {r r' : Bool} (h : (if c = true then some r else none) = some r') : c = true ∧ r' = r := by
  cases c
  · cases h
  · exact ⟨rfl, (Option.some.inj h).symm⟩
theorem op_cmpD {op : CmpOp} (hu : X.A.units + 100 < cLine) (h1 : op ≠ .In) (h2 : op ≠ .NotIn) (h3 : op ≠ .Is) (h4 : op ≠ .IsNot) :
    OpR X (compareOp op) (rCmpD (kw X) fun x y => cmpW op (.dat x) (.dat y)) := by
  intro pins s σ H x y v u Q I rx ry h
  obtain ⟨a, b, r, ha, hb, e, q⟩ := h
  obtain ⟨as, ra⟩ := read2 I ha rx
  obtain ⟨bs, rb⟩ := read2 I hb ry
  have fin : ∀ r' : Bool, r' = r → EP X pins σ Q (.bool r') s := fun r' z => by subst z; exact ⟨.bl r', H, I, rfl, q⟩
  cases op with
  | Eq =>
    obtain ⟨k, rfl⟩ := ite_some e
    exact SeqAt.eq_plain ra rb (plain_toP a) (plain_toP b) (okD k hu) (fin _ (eqD_toP a b))
  | NotEq =>
    obtain ⟨k, rfl⟩ := ite_some e
    exact SeqAt.ne_plain ra rb (plain_toP a) (plain_toP b) (okD k hu) (fin _ (by rw [eqD_toP a b]))
  | Lt =>
    obtain ⟨k, rfl⟩ := ite_some e
    simp only [Bool.and_eq_true, Bool.not_eq_true'] at k
    exact lt_data ra rb (by rw [alike_toP]; exact k.1.2) (toP_none k.2) (okD k.1.1 hu) (fin _ (lt_toP a b k.1.2))
  | Gt =>
    obtain ⟨k, rfl⟩ := ite_some e
    simp only [Bool.and_eq_true, Bool.not_eq_true'] at k
    have k' : alikeD b a = true := by rw [← alike_toP, ← alike_comm, alike_toP]; exact k.1.2
    exact gt_data ra rb (by rw [alike_toP]; exact k.1.2) (toP_none k.2) (okD k.1.1 hu) (fin _ (lt_toP b a k'))
  | LtE =>
    obtain ⟨k, rfl⟩ := ite_some e
    simp only [Bool.and_eq_true, Bool.not_eq_true'] at k
    have k' : alikeD b a = true := by rw [← alike_toP, ← alike_comm, alike_toP]; exact k.1.2
    exact le_data ra rb (by rw [alike_toP]; exact k.1.2) (toP_none k.2) (okD k.1.1 hu) (fin _ (by rw [lt_toP b a k']))
  | GtE =>
    obtain ⟨k, rfl⟩ := ite_some e
    simp only [Bool.and_eq_true, Bool.not_eq_true'] at k
    exact ge_data ra rb (by rw [alike_toP]; exact k.1.2) (toP_none k.2) (okD k.1.1 hu) (fin _ (by rw [lt_toP a b k.1.2]))
  | In => exact absurd rfl h1
  | NotIn => exact absurd rfl h2
  | Is => exact absurd rfl h3
  | IsNot => exact absurd rfl h4

/-! ### is, in -/
theorem op_isD {op : CmpOp} (h : op = .Is ∨ op = .IsNot) : OpR X (compareOp op) (rCmpD (kw X) fun x y => cmpW op (.dat x) (.dat y)) := by
  intro pins s σ H x y v u Q I rx ry hh
  obtain ⟨a, b, r, ha, hb, e, q⟩ := hh
  have hnon : ∀ (a : D), Rv (kw X) H a x → decide (x = V.non) = a.isNon := fun a ha => by
    cases a with
    | non => cases ha; rfl
    | tup _ => obtain ⟨_, _, rfl, _⟩ := ha; rfl
    | lst _ => obtain ⟨_, _, rfl, _⟩ := ha; rfl
    | _ => cases ha; rfl
  have hbl : ∀ (a : D) (k : Bool) (r : Bool), Rv (kw X) H a x → isD a (.bl k) = some r → (v = .bool k ↔ r = true) := fun a k r ha e => by
    cases a with
    | bl j =>
      cases ha
      cases rx
      simp only [isD, Option.some.injEq] at e
      subst e
      cases j <;> cases k <;> simp
    | non => cases ha; cases rx; simp only [isD, Option.some.injEq] at e; subst e; simp
    | int i => cases ha; obtain ⟨t, rfl⟩ := rx; simp only [isD, Option.some.injEq] at e; subst e; simp
    | str i => cases ha; obtain ⟨t, rfl⟩ := rx; simp only [isD, Option.some.injEq] at e; subst e; simp
    | tup _ => obtain ⟨_, _, rfl, _⟩ := ha; cases rx; simp only [isD, Option.some.injEq] at e; subst e; simp
    | lst _ => obtain ⟨_, _, rfl, _⟩ := ha; cases rx; simp only [isD, Option.some.injEq] at e; subst e; simp
  have hpl : ∀ k : Bool, plainIs v (.bool k) = true := fun k => by
    cases x with
    | non => cases rx; rfl
    | bl _ => cases rx; rfl
    | int _ => obtain ⟨t, rfl⟩ := rx; rfl
    | str _ => obtain ⟨t, rfl⟩ := rx; rfl
    | byt _ => obtain ⟨t, rfl⟩ := rx; rfl
    | flt _ => obtain ⟨t, rfl⟩ := rx; rfl
    | ref _ => cases rx; rfl
    | ty _ => cases rx; rfl
  rcases h with rfl | rfl
  · simp only [cmpW, dat?, Option.bind_some] at e
    cases b with
    | non =>
      cases hb
      simp only [isD, Option.some.injEq] at e
      exact op_isN pins s σ H x _ v u Q I rx ry ⟨rfl, by rw [hnon a ha, e]; exact q⟩
    | bl k =>
      cases hb
      cases ry
      have e' := hbl a k r ha e
      by_cases z : v = .bool k
      · have := e'.mp z
        subst this
        rw [z]
        exact wpAny_is_self (by cases k <;> rfl) ⟨.bl true, H, I, rfl, q⟩
      · have : r = false := by cases r with | true => exact absurd (e'.mpr rfl) z | false => rfl
        subst this
        exact wpAny_is_other (hpl k) z ⟨.bl false, H, I, rfl, q⟩
    | _ => cases e
  · simp only [cmpW, dat?, Option.bind_some, Option.map_eq_some_iff] at e
    obtain ⟨r', e, rfl⟩ := e
    cases b with
    | non =>
      cases hb
      simp only [isD, Option.some.injEq] at e
      exact op_notN pins s σ H x _ v u Q I rx ry ⟨rfl, by rw [hnon a ha, e]; exact q⟩
    | bl k =>
      cases hb
      cases ry
      have e' := hbl a k r' ha e
      by_cases z : v = .bool k
      · have := e'.mp z
        subst this
        rw [z]
        exact wpAny_isNot_self (by cases k <;> rfl) ⟨.bl false, H, I, rfl, q⟩
      · have : r' = false := by cases r' with | true => exact absurd (e'.mpr rfl) z | false => rfl
        subst this
        exact wpAny_isNot_other (hpl k) z ⟨.bl true, H, I, rfl, q⟩
    | _ => cases e
def rInD (K : KW) (op : CmpOp) : R2 := fun x y H Q => ∃ a b r, Rv K H a x ∧ Rv K H b y ∧ cmpW op (.dat a) (.dat b) = some r ∧ Q (.bl r) H
theorem op_inD {op : CmpOp} (hu : X.A.units + 100 < cLine) (h : op = .In ∨ op = .NotIn) : OpR X (compareOp op) (rInD (kw X) op) := by
  intro pins s σ H x y v u Q I rx ry hh
  obtain ⟨a, b, r, ha, hb, e, q⟩ := hh
  obtain ⟨as, ra⟩ := read2 I ha rx
  obtain ⟨bs, rb⟩ := read2 I hb ry
  have fin : ∀ r' : Bool, r' = r → EP X pins σ Q (.bool r') s := fun r' z => by subst z; exact ⟨.bl r', H, I, rfl, q⟩
  have room : ∀ ys : List D, Nat.ble (min (D.depths ys) a.depth) 60 = true → X.A.units + 1 + min (PyData.depthAll (D.toPs ys)) a.toP.depth < cLine := fun ys z => by
    rw [depth_toP, depths_toP]
    have := Nat.ble_eq.mp z
    omega
  rcases h with rfl | rfl
  · simp only [cmpW, dat?, Option.bind_some] at e
    cases b with
    | str z =>
      cases a with
      | str w =>
        simp only [inD, Option.some.injEq] at e
        exact op_in_str pins s σ H x y v u Q I rx ry ⟨w, z, ha, hb, by rw [← e] at q; exact q⟩
      | _ => cases e
    | tup ys =>
      simp only [inD] at e
      obtain ⟨k, rfl⟩ := ite_some e
      simp only [D.toP] at rb
      exact SeqAt.in_tuple_data rb ra (plains_toP ys) (plain_toP a) (room ys k) (fin _ (anyEq_toP a ys))
    | lst ys =>
      simp only [inD] at e
      obtain ⟨k, rfl⟩ := ite_some e
      simp only [D.toP] at rb
      exact SeqAt.in_list_data rb ra (plains_toP ys) (plain_toP a) (room ys k) (fin _ (anyEq_toP a ys))
    | _ => cases e
  · simp only [cmpW, dat?, Option.bind_some, Option.map_eq_some_iff] at e
    obtain ⟨r', e, rfl⟩ := e
    cases b with
    | str z =>
      cases a with
      | str w =>
        simp only [inD, Option.some.injEq] at e
        exact op_notin_str pins s σ H x y v u Q I rx ry ⟨w, z, ha, hb, by rw [← e] at q; exact q⟩
      | _ => cases e
    | tup ys =>
      simp only [inD] at e
      obtain ⟨k, rfl⟩ := ite_some e
      simp only [D.toP] at rb
      exact SeqAt.notIn_tuple_data rb ra (plains_toP ys) (plain_toP a) (room ys k) (fin _ (by rw [anyEq_toP a ys]))
    | lst ys =>
      simp only [inD] at e
      obtain ⟨k, rfl⟩ := ite_some e
      simp only [D.toP] at rb
      exact SeqAt.notIn_list_data rb ra (plains_toP ys) (plain_toP a) (room ys k) (fin _ (by rw [anyEq_toP a ys]))
    | _ => cases e
/-- any comparison of data -/
theorem op_cmpA {op : CmpOp} (hu : X.A.units + 100 < cLine) : OpR X (compareOp op) (rInD (kw X) op) := by
  by_cases h1 : op = .In ∨ op = .NotIn
  · exact op_inD hu h1
  · by_cases h2 : op = .Is ∨ op = .IsNot
    · exact op_isD h2
    · simp only [not_or] at h1 h2
      exact op_cmpD hu h1.1 h1.2 h2.1 h2.2

/-- the same, and x in a dict -/
def rCmpW (K : KW) (op : CmpOp) : R2 := fun x y H Q => ∃ μ wa wb r, RV K H μ wa x ∧ RV K H μ wb y ∧ cmpW op wa wb = some r ∧ Q (.bl r) H
theorem op_cmpW {op : CmpOp} (hu : X.A.units + 100 < cLine) : OpR X (compareOp op) (rCmpW (kw X) op) := by
  intro pins s σ H x y v u Q I rx ry h
  obtain ⟨μ, wa, wb, r, ha, hb, e, q⟩ := h
  obtain ⟨da, rfl⟩ : ∃ da, wa = .dat da := by
    cases wa with
    | dat d => exact ⟨d, rfl⟩
    | _ => cases op <;> cases e
  cases wb with
  | dat db => exact op_cmpA hu pins s σ H x y v u Q I rx ry ⟨da, db, r, ha, hb, e, q⟩
  | fdi t kvs =>
    obtain ⟨a, rfl, hd⟩ := hb
    cases ry
    cases op with
    | In =>
      have e : (if isKeyT t da then some (hasKey kvs da) else none) = some r := e
      split at e
      · rename_i hk
        cases e
        exact dc_in (by omega) I hd hk ha rx fun s' I' => ⟨.bl _, H, I', rfl, q⟩
      · cases e
    | NotIn =>
      have e : (if isKeyT t da then some (hasKey kvs da) else none).map (!·) = some r := e
      split at e
      · rename_i hk
        cases e
        exact dc_notIn (by omega) I hd hk ha rx fun s' I' => ⟨.bl _, H, I', rfl, q⟩
      · cases e
    | _ => cases e
  | _ => cases op <;> cases e

/-! ### items, slices -/
theorem atN_ixN (n : Nat) (i : Int) : atN n i = ixN n i := rfl
theorem atI_of {xs : List V} {ds : List D} {H : Hp} {i : Int} {j : Nat} {d : D} (hr : Rps (kw X) H ds xs) (e1 : atN ds.length i = some j) (e2 : ds[j]? = some d) : ∃ x, atI xs i = some x ∧ Rp (kw X) H d x := by
  obtain ⟨x, e3, q⟩ := hr.get' e2
  refine ⟨x, ?_, q⟩
  unfold atI
  rw [hr.length, ← atN_ixN, e1]
  exact e3
def rIxW (K : KW) (μ : List Addr) : R2 := fun x y H Q => ∃ a b w, RV K H μ a x ∧ RV K H μ b y ∧ ixW a b = some w ∧ ∀ v, RW K H μ w v → Q v H
theorem ix_W (hu : X.A.units + 100 < cLine) {μ : List Addr} : IxR X (rIxW (kw X) μ) := by
  intro value slice pins s σ H x y v u Q I rx ry h hs
  obtain ⟨a, b, w, ha, hb, e, q⟩ := h
  cases b with
  | dat b =>
    cases a with
    | dat a =>
      cases a with
      | tup ds =>
        cases b with
        | int i =>
          simp only [ixW, Option.bind_eq_some_iff, Option.map_eq_some_iff] at e
          obtain ⟨j, e1, d, e2, rfl⟩ := e
          obtain ⟨p, xs, rfl, ht, hr⟩ := ha
          obtain ⟨z, e3, hz⟩ := atI_of hr e1 e2
          exact ix_tup value slice pins s σ H _ y v u Q I rx ry ⟨p, xs, i, z, rfl, hb, ht.sq, e3, q _ hz⟩ hs
        | _ => cases e
      | lst ds =>
        cases b with
        | int i =>
          simp only [ixW, Option.bind_eq_some_iff, Option.map_eq_some_iff] at e
          obtain ⟨j, e1, d, e2, rfl⟩ := e
          obtain ⟨p, xs, rfl, ht, hr⟩ := ha
          obtain ⟨z, e3, hz⟩ := atI_of hr e1 e2
          exact ix_list value slice pins s σ H _ y v u Q I rx ry ⟨p, xs, i, z, rfl, hb, .inl ht, e3, q _ hz⟩ hs
        | _ => cases e
      | str z =>
        cases b with
        | int i =>
          simp only [ixW] at e
          split at e
          · rename_i hz
            simp only [Option.bind_eq_some_iff, Option.map_eq_some_iff] at e
            obtain ⟨j, e1, c, e2, rfl⟩ := e
            refine ix_str value slice pins s σ H x y v u Q I rx ry ⟨z, i, c, ha, hb, hz, ?_, q _ rfl⟩ hs
            unfold atI
            rw [Array.length_toList]
            show (ixN z.length i).bind _ = _
            rw [← atN_ixN, e1]
            simpa using e2
          · cases e
        | _ => cases e
      | _ => cases b <;> cases e
    | tup ws =>
      cases b with
      | int i =>
        simp only [ixW, Option.bind_eq_some_iff] at e
        obtain ⟨j, e1, e2⟩ := e
        obtain ⟨p, xs, rfl, ht, hr⟩ := ha
        obtain ⟨z, e3, hz⟩ := RWs.get' hr e2
        refine ix_tup value slice pins s σ H _ y v u Q I rx ry ⟨p, xs, i, z, rfl, hb, ht, ?_, q _ hz⟩ hs
        unfold atI
        rw [hr.length, ← atN_ixN, e1]
        exact e3
      | _ => cases e
    | fdi t kvs =>
      simp only [ixW] at e
      split at e
      · rename_i hk
        obtain ⟨d, e1, rfl⟩ := Option.map_eq_some_iff.mp e
        obtain ⟨p, rfl, hd⟩ := ha
        cases rx
        obtain ⟨v', w', s', I', hv', rv', go⟩ := dc_item (A := X.A) (E := X.xe) (by omega) I hd hk hb ry e1
        exact subscriptTail_builtinR (x := w') (dc_typeIs I hd) PySem.F.slot_dict_getitem.lookup (go _ ⟨rfl, v', H, I', rv', q _ hv'⟩) hs
      · cases e
    | ref n => cases e
    | scr n => cases e
  | _ => cases a with
    | dat a => cases a <;> cases e
    | _ => cases e
theorem slB_sIx (n d : Nat) (o : Option Int) : slB n d o = HT.sIx n d o := by cases o <;> rfl
theorem cutD_rps {ds : List D} {xs : List V} {H : Hp} (hr : Rps (kw X) H ds xs) (lo hi : Option Int) : Rps (kw X) H (cutD ds lo hi) (cutV xs lo hi) := by
  unfold cutD cutV
  rw [hr.length, slB_sIx, slB_sIx]
  exact (hr.drop _).take _
theorem cutD_whole {ds : List D} {lo hi : Option Int} (h1 : HT.sIx ds.length 0 lo = 0) (h2 : HT.sIx ds.length ds.length hi = ds.length) : cutD ds lo hi = ds := by
  unfold cutD
  rw [slB_sIx, slB_sIx, h1, h2]
  simp
theorem sl_list2 : SlR X (fun x lo hi H Q => ∃ a xs, x = .ref a ∧ Rd H a (.lst xs) ∧ ∀ p o, H p = none → Q (.ref p) (upd H p (.frz o (.lst (cutV xs lo hi))))) := by
  intro pins s σ H x v vl vu lo hi sl Q I rx hs pl pu h
  obtain ⟨a, xs, rfl, hx, q⟩ := h
  obtain ⟨T, id, h1, h2, h3⟩ := sl_list pins s σ H _ v vl vu lo hi sl (fun v H' => ∃ p zs, H p = none ∧ v = .ref p ∧ H' = upd H p (.lst zs) ∧ ∀ o, Q v (upd H p (.frz o (.lst zs)))) I rx hs pl pu ⟨a, xs, rfl, .inl hx, fun p hp => ⟨p, _, hp, rfl, rfl, fun o => q p o hp⟩⟩
  exact ⟨T, id, h1, h2, thn h3 fun _ _ z => ep_frz z⟩
def rSlW (K : KW) (μ : List Addr) : V → Option Int → Option Int → Hp → VK → Prop := fun x lo hi H Q => ∃ a w, RV K H μ a x ∧ slW a lo hi = some w ∧ ∀ v H', Keep H H' → RW K H' μ w v → Q v H'
theorem sl_W {μ : List Addr} : SlR X (rSlW (kw X) μ) := by
  intro pins s σ H x v vl vu lo hi sl Q I rx hs pl pu h
  obtain ⟨a, w, ha, e, q⟩ := h
  cases a with
  | dat a =>
    cases a with
    | tup ds =>
      cases e
      obtain ⟨p, xs, rfl, ht, hr⟩ := ha
      refine sl_tup2 pins s σ H _ v vl vu lo hi sl Q I rx hs pl pu ⟨p, xs, rfl, ht.sq, fun ⟨z1, z2⟩ => q _ _ .refl ?_, fun p' o hp' ho => q _ _ (Keep.upd hp') ?_⟩
      · rw [hr.length] at z1 z2
        rw [cutD_whole z1 z2]
        exact ⟨p, xs, rfl, ht, hr⟩
      · exact ⟨p', _, rfl, .inl ⟨o, upd_same, ho⟩, Rps.ext (μ := []) (Keep.upd hp').ext _ _ (cutD_rps hr lo hi)⟩
    | lst ds =>
      cases e
      obtain ⟨p, xs, rfl, ht, hr⟩ := ha
      exact sl_list2 pins s σ H _ v vl vu lo hi sl Q I rx hs pl pu ⟨p, xs, rfl, ht, fun p' o hp' => q _ _ (Keep.upd hp') ⟨p', o, _, rfl, upd_same, Rps.ext (μ := []) (Keep.upd hp').ext _ _ (cutD_rps hr lo hi)⟩⟩
    | str z =>
      simp only [slW] at e
      split at e
      · rename_i hz
        cases e
        refine sl_str pins s σ H _ v vl vu lo hi sl Q I rx hs pl pu ⟨z, ha, hz, q _ _ .refl ?_⟩
        show V.str (cutS z lo hi) = _
        unfold cutS cutD
        rw [slB_sIx, slB_sIx, Array.length_toList]
        rfl
      · cases e
    | _ => cases e
  | _ => cases e

/-! ### [::-1] -/
theorem rev_applied {prog : Program} {w : World} {A : Around} {E : Value → Shared → Prop} {s : Shared} {sl : Addr} {vs : Value} {n : Nat} {Q : Int × Int × Nat → Shared → Prop} (hs : s.heap.IsSliceOf sl .none .none vs) (ps : IsPart vs (some (-1)))
    (h : Q ((n : Int) - 1, -1, n) s) : wpAny (model prog w) A (Builtin.Slice.sliceApplied (.ref sl) (pure (n : Int))) Q E s := by
  obtain ⟨os, hos, hcs, hds⟩ := id hs
  unfold Builtin.Slice.sliceApplied Builtin.Slice.sliceFields
  refine wpAny_bind (wpAny_bind (wpAny_field hos hds (x := .none) rfl (wpAny_bind (wpAny_field hos hds (x := .none) rfl (wpAny_bind (wpAny_field hos hds (x := vs) rfl (wpAny_pure ?_)))))))
  refine wpAny_bind (HT.slicePart_ ps ?_)
  show wpAny _ _ (if ((-1 : Int) == 0) = true then _ else _) _ _ s
  rw [if_neg (by decide)]
  refine wpAny_bind (HT.slicePart_ .none (wpAny_bind (HT.slicePart_ .none (wpAny_bind (wpAny_pure ?_)))))
  show wpAny _ _ (match Builtin.Slice.sliceAdjust none none (-1) (n : Int) with | (lo, hi) => pure (lo, (-1 : Int), Builtin.Slice.slicePlaces lo hi (-1))) _ _ s
  have e1 : Builtin.Slice.sliceAdjust none none (-1) (n : Int) = ((n : Int) - 1, -1) := by
    unfold Builtin.Slice.sliceAdjust
    simp
  rw [e1]
  have e2 : Builtin.Slice.slicePlaces ((n : Int) - 1) (-1) (-1) = n := by
    unfold Builtin.Slice.slicePlaces
    rw [if_neg (by decide)]
    split <;> simp <;> omega
  show wpAny _ _ (pure ((n : Int) - 1, (-1 : Int), Builtin.Slice.slicePlaces ((n : Int) - 1) (-1) (-1))) _ _ s
  rw [e2]
  exact wpAny_pure h
theorem rev_pick (xs : Array Value) : ((List.range xs.size).filterMap fun (m : Nat) => xs[((xs.size : Int) - 1 + (m : Int) * (-1)).toNat]?).toArray = xs.toList.reverse.toArray := by
  congr 1
  have : ∀ k, k ≤ xs.size → ((List.range k).filterMap fun (m : Nat) => xs[((xs.size : Int) - 1 + (m : Int) * (-1)).toNat]?) = xs.toList.reverse.take k := by
    intro k
    induction k with
    | zero => intro _; rfl
    | succ k ih =>
      intro hk
      rw [List.range_succ, List.filterMap_append, ih (by omega)]
      have e : ((xs.size : Int) - 1 + (k : Int) * (-1)).toNat = xs.size - 1 - k := by omega
      have hl : k < xs.toList.reverse.length := by rw [List.length_reverse, Array.length_toList]; omega
      rw [List.take_succ_eq_append_getElem hl]
      congr 1
      simp only [List.filterMap_cons, List.filterMap_nil, e]
      have h2 : xs.size - 1 - k < xs.size := by omega
      rw [Array.getElem?_eq_getElem h2]
      simp [List.getElem_reverse]
  rw [this xs.size (Nat.le_refl _), List.take_of_length_le (by simp)]
theorem getItem_tuple_rev {prog : Program} {w : World} {A : Around} {E : Value → Shared → Prop} {s : Shared} {t sl : Addr} {items : Array Value} {vs : Value} {Q : Value → Shared → Prop} (ht : IsTup s.heap t items) (hs : s.heap.IsSliceOf sl .none .none vs) (ps : IsPart vs (some (-1)))
    (h : Q (.ref s.heap.objs.size) { s with heap := s.heap.push { cls := .type "tuple", data := .seq items.toList.reverse.toArray } })
    (hsz : items.size ≤ sizeLine) : wpAny (model prog w) A (getItem (.ref t) (.ref sl)) Q E s := by
  have htake : sizeOk (.seq items.toList.reverse.toArray) := by
    show items.toList.reverse.toArray.size ≤ sizeLine
    simpa using hsz
  obtain ⟨os, hos, hcs, hds⟩ := id hs
  have hTs : s.TypeIs (.ref sl) "slice" := ⟨os, hos, hcs⟩
  unfold getItem
  try with_reducible refine wpAny_holding ?_
  first | refine wpAny_bind (wpAny_pure ?_) | skip
  refine wpAny_bind (wpAny_sequenceKey ht.typeIs (by decide) ?_)
  refine wpAny_bind (wpAny_callSpecial?_slot (name := Str.ofString "__getitem__") ht.typeIs PyProof.Rows.slot_tuple_getitem
    (wpAny_call_entry PyProof.Rows.slot_tuple_getitem ht.typeIs entry_tuple_getitem ?_ (args_tuple_getitem _ _)))
  show wpAny _ _ (Builtin.Tuple.tupleItemsOf (.ref t) >>= _) _ _ s
  refine wpAny_bind (tupleItemsOf_ ht ?_)
  refine wpAny_bind (wpAny_typeOf hTs ?_)
  rw [if_pos (by decide)]
  refine wpAny_bind (rev_applied hs ps ?_)
  have hno : ¬ ((((items.size : Int) - 1) == 0 && (-1 : Int) == 1 && items.size == items.size) = true) := by simp
  show wpAny _ _ (if ((((items.size : Int) - 1) == 0 && (-1 : Int) == 1 && items.size == items.size) = true) then _ else _) _ _ s
  rw [if_neg hno, rev_pick]
  first
    | exact wpAny_bind (m := Builtin.Tuple.tupleExact _) (wpAny_newObj_type (wpAny_pure ⟨_, rfl, wpAny_pure h⟩) htake)
    | exact wpAny_bind (m := Builtin.Tuple.tupleExact _) (wpAny_newObj_type (wpAny_bind (wpAny_pure (wpAny_pure ⟨_, rfl, wpAny_pure h⟩))) htake)
    | exact wpAny_bind (wpAny_bind (m := Builtin.Tuple.tupleExact _) (wpAny_newObj_type (wpAny_pure (wpAny_pure ⟨_, rfl, wpAny_pure h⟩)) htake))
    | exact wpAny_bind (wpAny_bind (m := Builtin.Tuple.tupleExact _) (wpAny_newObj_type (wpAny_pure ⟨_, rfl, wpAny_pure h⟩) htake))
def tRv (K : KW) (te : TE) (f : V → Hp → VK → Prop) : TE := fun σ H Q => te σ H fun x H1 => f x H1 Q
def rRv (K : KW) : V → Hp → VK → Prop := fun x H Q => ∃ a w, Rv K H a x ∧ rvW (.dat a) = some (.dat w) ∧ NewD K H w Q
theorem pe_rv {e : Expr} {te : TE} {k : Nat} {p1 p2 p3 pos : Pos} (he : PE X e te) : PE X (.Subscript e (.Slice none none (some (.UnaryOp .USub (.Constant (.int 1) k p1) p2)) p3) pos) (tRv (kw X) te (rRv (kw X))) := by
  refine ⟨fun pins s σ H Q I h => ?_⟩
  refine Subscript_ (thn (he.run pins s σ H _ I h) fun v s1 ⟨x, H1, I1, r1, q1⟩ => ?_)
  obtain ⟨a, w, ha, e, n⟩ := q1
  have hst : PO X (some (.UnaryOp .USub (.Constant (.int 1) k p1) p2)) (tPart (tUn (rU fun i => .int (-i)) (tC (.int 1)))) := po_some (pe_un un_neg pe_int)
  refine wpAny_Slice ?_
  refine thn (po_none.run pins s1 σ H1 (fun o H2 => o = none ∧ H2 = H1) I1 ⟨rfl, rfl⟩) fun vl s2 ⟨l, H2, I2, pl, el, e2⟩ => ?_
  subst el e2
  refine thn (po_none.run pins s2 σ H2 (fun o H3 => o = none ∧ H3 = H2) I2 ⟨rfl, rfl⟩) fun vu s3 ⟨u, H3, I3, pu, eu, e3⟩ => ?_
  subst eu e3
  refine thn (hst.run pins s3 σ H3 (fun o H4 => o = some (-1) ∧ H4 = H3) I3 ⟨1, rfl, -1, rfl, rfl, rfl⟩) fun vs s4 ⟨o, H4, I4, ps, eo, e4⟩ => ?_
  subst eo e4
  have I5 : Inv X pins σ H4 { s4 with heap := s4.heap.push { cls := .type "slice", data := .fields #[vl, vu, vs] } } := I4.kept (t' := s4.toks) fun b ob q => Heap.get?_push_of_some _ q
  cases pl
  cases pu
  cases a with
  | lst ds =>
    cases e
    obtain ⟨b, xs, rfl, hx, hr⟩ := ha
    cases r1
    obtain ⟨its, r, ht, hz⟩ := I5.list (.inl hx)
    have hlen := r.length
    show wpAny (model X.prog X.w) X.A (subscriptTail _ (.Slice none none (some (.UnaryOp .USub (.Constant (.int 1) k p1) p2)) p3) (.ref b) (.ref s4.heap.objs.size)) (EP X pins σ Q) X.xe { s4 with heap := s4.heap.push { cls := .type "slice", data := .fields #[.none, .none, vs] } }
    refine tail_any (ops := [.ref b, .ref s4.heap.objs.size]) ht.isList.typeIs (PySem.slot_list_getitem.lookup) ?_ (by with_unfolding_all rfl)
    refine wpAny_getItem_list_slice ht.isList (Heap.IsSliceOf.new _ .none .none vs) .none .none ps (by decide) ?_ (by rw [List.size_toArray]; omega)
    rw [PySem.W.krv_pick]
    have hf := I5.hok.fresh (Nat.le_refl _)
    refine ep_new (I5.laid (t' := s4.toks) (o := .lst xs.reverse) (fun b ob q => Heap.get?_push_of_some _ q) (Nat.le_refl _) ?_) rfl fun o => n.lst hf hr.reverse
    exact ⟨by rw [List.length_reverse]; exact hz, _, 0, r.reverse, Heap.get?_push_size _ rfl⟩
  | tup ds =>
    cases e
    obtain ⟨b, xs, rfl, hx, hr⟩ := ha
    cases r1
    obtain ⟨its, r, ht, hz⟩ := I5.tuple hx.sq
    have hlen := r.length
    show wpAny (model X.prog X.w) X.A (subscriptTail _ (.Slice none none (some (.UnaryOp .USub (.Constant (.int 1) k p1) p2)) p3) (.ref b) (.ref s4.heap.objs.size)) (EP X pins σ Q) X.xe { s4 with heap := s4.heap.push { cls := .type "slice", data := .fields #[.none, .none, vs] } }
    refine tail_any (ops := [.ref b, .ref s4.heap.objs.size]) ht.typeIs (PyProof.Rows.slot_tuple_getitem.lookup) ?_ (by with_unfolding_all rfl)
    refine getItem_tuple_rev ht (Heap.IsSliceOf.new _ .none .none vs) ps ?_ (by rw [List.size_toArray]; omega)
    have e : its.toArray.toList.reverse.toArray = its.reverse.toArray := by simp
    rw [e]
    exact ep_tup (t' := s4.toks) I5 r.reverse (by rw [List.length_reverse]; exact hz) fun p o hp ho => n.tup hp ho hr.reverse
  | _ => cases e
end
end Ev

/-! EvD: built-in functions by values; methods; stores. -/
namespace Ev
open PySem PySem.Spec PyProof.Rows L2 PySem.W

def RVs (K : KW) (H : Hp) (μ : List Addr) : List W → List V → Prop
  | [], xs => xs = []
  | w :: ws, xs => ∃ x r, xs = x :: r ∧ RV K H μ w x ∧ RVs K H μ ws r
theorem RWs.vws {K : KW} {H : Hp} {μ : List Addr} {st : Store} (s : StR K H st μ) : ∀ {ws : List W} {xs : List V}, RWs K H μ ws xs → RVs K H μ (ws.map (vw · st)) xs
  | [], _, h => h
  | w :: ws, _, h => by
    obtain ⟨x, r, rfl, h1, h2⟩ := h
    exact ⟨x, r, rfl, RW.vw s h1, RWs.vws s h2⟩
/-- behind a built-in: the same heap or more of it -/
def NewW (K : KW) (μ : List Addr) (H : Hp) (w : W) (Q : VK) : Prop := ∀ v H', Keep H H' → RW K H' μ w v → Q v H'
theorem NewW.d {K : KW} {μ : List Addr} {H : Hp} {d : D} {Q : VK} (n : NewW K μ H (.dat d) Q) : NewD K H d Q := n
theorem NewW.same {K : KW} {μ : List Addr} {H : Hp} {w : W} {Q : VK} (n : NewW K μ H w Q) {v : V} (h : RW K H μ w v) : Q v H := n v H .refl h
def rBi (K : KW) (μ : List Addr) (b : Bi) : List V → Hp → VK → Prop := fun vs H Q => ∃ ws w, RVs K H μ ws vs ∧ biW b ws = some w ∧ NewW K μ H w Q
theorem bools_vs {K : KW} {H : Hp} : ∀ {ds : List D} {xs : List V} {bs : List Bool}, Rps K H ds xs → bools? ds = some bs → xs = bs.map V.bl
  | [], _, _, h, e => by cases h; cases e; rfl
  | d :: ds, _, _, h, e => by
    obtain ⟨x, r, rfl, h1, h2⟩ := h
    cases d with
    | bl b =>
      simp only [bools?, Option.map_eq_some_iff] at e
      obtain ⟨bs, e, rfl⟩ := e
      cases h1
      rw [List.map_cons, bools_vs h2 e]
    | _ => cases e
theorem ints_rps {K : KW} {H : Hp} : ∀ ns : List Int, Rps K H (ns.map .int) (ns.map V.int)
  | [] => rfl
  | _ :: ns => ⟨_, _, rfl, rfl, ints_rps ns⟩
theorem ints_vs {K : KW} {H : Hp} : ∀ {ds : List D} {xs : List V} {bs : List Int}, Rps K H ds xs → ints? ds = some bs → xs = bs.map V.int
  | [], _, _, h, e => by cases h; cases e; rfl
  | d :: ds, _, _, h, e => by
    obtain ⟨x, r, rfl, h1, h2⟩ := h
    cases d with
    | int b =>
      simp only [ints?, Option.map_eq_some_iff] at e
      obtain ⟨bs, e, rfl⟩ := e
      cases h1
      rw [List.map_cons, ints_vs h2 e]
    | _ => cases e

section
variable {X : Cx} {μ : List Addr}
theorem cb_len : CallR X (.builtin "len") (rBi (kw X) μ .len) := by
  intro pins s σ H vs us Q I r h
  obtain ⟨ws, w, hw, e, n⟩ := h
  cases ws with
  | nil => cases e
  | cons a ws =>
    cases ws with
    | cons _ _ => cases a with
      | dat d => cases d <;> cases e
      | _ => cases e
    | nil =>
      obtain ⟨x, r', rfl, h1, h2⟩ := hw
      cases h2
      cases a with
      | dat d =>
        cases d with
        | str z =>
          simp only [biW] at e
          split at e
          · rename_i hz
            cases e
            exact call_len_str pins s σ H _ us Q I r ⟨z, by rw [show x = V.str z from h1], hz, n.same rfl⟩
          · cases e
        | tup ds =>
          cases e
          obtain ⟨p, xs, rfl, ht, hr⟩ := h1
          exact call_len_seq pins s σ H _ us Q I r ⟨p, xs, rfl, .inr ht.sq, n.same (by rw [← hr.length]; rfl)⟩
        | lst ds =>
          cases e
          obtain ⟨p, xs, rfl, ht, hr⟩ := h1
          exact call_len_seq pins s σ H _ us Q I r ⟨p, xs, rfl, .inl (.inl ht), n.same (by rw [← hr.length]; rfl)⟩
        | _ => cases e
      | _ => cases e
theorem cb_all (hc : X.calm = true) : CallR X (.builtin "all") (rBi (kw X) μ .all) := by
  intro pins s σ H vs us Q I r h
  obtain ⟨ws, w, hw, e, n⟩ := h
  cases ws with
  | nil => cases e
  | cons a ws =>
    cases ws with
    | cons _ _ => cases a with
      | dat d => cases d <;> cases e
      | _ => cases e
    | nil =>
      obtain ⟨x, r', rfl, h1, h2⟩ := hw
      cases h2
      cases a with
      | dat d =>
        cases d with
        | lst ds =>
          simp only [biW, Option.map_eq_some_iff] at e
          obtain ⟨bs, e, rfl⟩ := e
          obtain ⟨p, xs, rfl, ht, hr⟩ := h1
          have := bools_vs hr e
          subst this
          exact cr_all hc pins s σ H _ us Q I r ⟨p, bs, rfl, .inl ht, n.same rfl⟩
        | _ => cases e
      | _ => cases e
theorem cb_any (hc : X.calm = true) : CallR X (.builtin "any") (rBi (kw X) μ .any) := by
  intro pins s σ H vs us Q I r h
  obtain ⟨ws, w, hw, e, n⟩ := h
  cases ws with
  | nil => cases e
  | cons a ws =>
    cases ws with
    | cons _ _ => cases a with
      | dat d => cases d <;> cases e
      | _ => cases e
    | nil =>
      obtain ⟨x, r', rfl, h1, h2⟩ := hw
      cases h2
      cases a with
      | dat d =>
        cases d with
        | lst ds =>
          simp only [biW, Option.map_eq_some_iff] at e
          obtain ⟨bs, e, rfl⟩ := e
          obtain ⟨p, xs, rfl, ht, hr⟩ := h1
          have := bools_vs hr e
          subst this
          exact cr_any hc pins s σ H _ us Q I r ⟨p, bs, rfl, .inl ht, n.same rfl⟩
        | _ => cases e
      | _ => cases e
theorem cb_abs : CallR X (.builtin "abs") (rBi (kw X) μ .abs) := by
  intro pins s σ H vs us Q I r h
  obtain ⟨ws, w, hw, e, n⟩ := h
  cases ws with
  | nil => cases e
  | cons a ws =>
    cases ws with
    | cons _ _ => cases a with
      | dat d => cases d <;> cases e
      | _ => cases e
    | nil =>
      obtain ⟨x, r', rfl, h1, h2⟩ := hw
      cases h2
      cases a with
      | dat d =>
        cases d with
        | int i =>
          cases e
          exact call_abs pins s σ H _ us Q I r ⟨i, by rw [show x = V.int i from h1], n.same rfl⟩
        | _ => cases e
      | _ => cases e
theorem cb_int : CallR X (.type "int") (rBi (kw X) μ .int) := by
  intro pins s σ H vs us Q I r h
  obtain ⟨ws, w, hw, e, n⟩ := h
  cases ws with
  | nil => cases e
  | cons a ws =>
    cases ws with
    | cons _ _ => cases a with
      | dat d => cases d <;> cases e
      | _ => cases e
    | nil =>
      obtain ⟨x, r', rfl, h1, h2⟩ := hw
      cases h2
      cases a with
      | dat d =>
        cases d with
        | int i =>
          cases e
          exact call_int1 pins s σ H _ us Q I r (.inl ⟨i, by rw [show x = V.int i from h1], n.same rfl⟩)
        | bl k =>
          cases e
          exact call_int1 pins s σ H _ us Q I r (.inr ⟨k, by rw [show x = V.bl k from h1], n.same rfl⟩)
        | _ => cases e
      | _ => cases e
theorem cb_bool : CallR X (.type "bool") (rBi (kw X) μ .bool) := by
  intro pins s σ H vs us Q I r h
  obtain ⟨ws, w, hw, e, n⟩ := h
  cases ws with
  | nil => cases e
  | cons a ws =>
    cases ws with
    | cons _ _ => cases a with
      | dat d => cases d <;> cases e
      | _ => cases e
    | nil =>
      obtain ⟨x, r', rfl, h1, h2⟩ := hw
      cases h2
      cases a with
      | dat d =>
        cases d with
        | bl k =>
          cases e
          exact call_bool1 pins s σ H _ us Q I r (.inr ⟨k, by rw [show x = V.bl k from h1], n.same rfl⟩)
        | _ => cases e
      | _ => cases e
theorem log_small {i : Int} (h : i.natAbs < 10 ^ 100) : i.natAbs.log2 < 1920 := by
  by_cases z : i.natAbs = 0
  · rw [z]; decide
  · refine (Nat.log2_lt z).mpr (Nat.lt_trans h ?_)
    decide
theorem cb_str : CallR X (.type "str") (rBi (kw X) μ .str) := by
  intro pins s σ H vs us Q I r h
  obtain ⟨ws, w, hw, e, n⟩ := h
  cases ws with
  | nil => cases e
  | cons a ws =>
    cases ws with
    | cons _ _ => cases a with
      | dat d => cases d <;> cases e
      | _ => cases e
    | nil =>
      obtain ⟨x, r', rfl, h1, h2⟩ := hw
      cases h2
      cases a with
      | dat d =>
        cases d with
        | int i =>
          simp only [biW] at e
          split at e
          · rename_i hz
            cases e
            exact call_str_int pins s σ H _ us Q I r ⟨i, by rw [show x = V.int i from h1], log_small hz, n.same rfl⟩
          · cases e
        | str z =>
          cases e
          exact SkE.call_str_str pins s σ H _ us Q I r ⟨z, by rw [show x = V.str z from h1], n.same rfl⟩
        | _ => cases e
      | _ => cases e
theorem cb_list : CallR X (.type "list") (fun vs H Q => ∃ a ds, RVs (kw X) H μ [a] vs ∧ seq? a = some ds ∧ ∀ p xs, H p = none → Rps (kw X) H ds xs → Q (.ref p) (upd H p (.lst xs))) := by
  intro pins s σ H vs us Q I r h
  obtain ⟨a, ds, hw, e, n⟩ := h
  obtain ⟨x, r', rfl, h1, h2⟩ := hw
  cases h2
  cases a with
  | dat a =>
    cases a with
    | tup ds =>
      cases e
      obtain ⟨p, xs, rfl, ht, hr⟩ := h1
      exact call_list_of pins s σ H _ us Q I r ⟨p, xs, rfl, .inr ht.sq, fun q hq => n q xs hq hr⟩
    | lst ds =>
      cases e
      obtain ⟨p, xs, rfl, ht, hr⟩ := h1
      exact call_list_of pins s σ H _ us Q I r ⟨p, xs, rfl, .inl (.inl ht), fun q hq => n q xs hq hr⟩
    | _ => cases e
  | scr ns =>
    cases e
    obtain ⟨p, rfl, hl⟩ := h1
    exact call_list_of pins s σ H _ us Q I r ⟨p, _, rfl, .inl hl.sq, fun q hq => n q _ hq (ints_rps ns)⟩
  | _ => cases e
theorem call_tuple2 : CallR X (.type "tuple") (fun xs H Q => ∃ p ys, xs = [.ref p] ∧ ((SqL (kw X) H p ys ∧ ∀ l o, H l = none → o.dict = none → Q (.ref l) (upd H l (.frz o (.tup ys)))) ∨ (SqT (kw X) H p ys ∧ Q (.ref p) H))) := by
  intro pins s σ H xs us Q I r h
  obtain ⟨p, ys, rfl, h⟩ := h
  obtain ⟨u, rfl, rx⟩ := vals1 r
  cases rx
  rcases h with ⟨hq, q⟩ | ⟨hq, q⟩
  · obtain ⟨its, r', pl, hz⟩ := I.list hq
    have hlen := r'.length
    refine call_tuple_list pl.isList (fun h' kp => ?_) (by simp only [List.size_toArray] <;> omega)
    have I1 : Inv X pins σ H { s with heap := h' } := I.kept (t' := s.toks) kp
    exact ep_tup (t' := s.toks) I1 r' hz q
  · obtain ⟨its, r', pl, hz⟩ := I.tuple hq
    exact call_tuple_same pl ⟨.ref p, H, I, rfl, q⟩
theorem cb_tuple : CallR X (.type "tuple") (rBi (kw X) μ .tuple) := by
  intro pins s σ H vs us Q I r h
  obtain ⟨ws, w, hw, e, n⟩ := h
  cases ws with
  | nil => cases e
  | cons a ws =>
    cases ws with
    | cons _ _ => cases a with
      | dat d => cases d <;> cases e
      | _ => cases e
    | nil =>
      obtain ⟨x, r', rfl, h1, h2⟩ := hw
      cases h2
      cases a with
      | dat d =>
        cases d with
        | tup ds =>
          cases e
          obtain ⟨p, xs, rfl, ht, hr⟩ := h1
          exact call_tuple2 pins s σ H _ us Q I r ⟨p, xs, rfl, .inr ⟨ht.sq, n.same ⟨p, xs, rfl, ht, hr⟩⟩⟩
        | lst ds =>
          cases e
          obtain ⟨p, xs, rfl, ht, hr⟩ := h1
          exact call_tuple2 pins s σ H _ us Q I r ⟨p, xs, rfl, .inl ⟨.inl ht, fun q o hq ho => n.d.tup hq ho hr⟩⟩
        | _ => cases e
      | _ => cases e
theorem cb_sum (hc : X.calm = true) : CallR X (.builtin "sum") (rBi (kw X) μ .sum) := by
  intro pins s σ H vs us Q I r h
  obtain ⟨ws, w, hw, e, n⟩ := h
  cases ws with
  | nil => cases e
  | cons a ws =>
    cases ws with
    | cons _ _ => cases a with
      | dat d => cases d <;> cases e
      | _ => cases e
    | nil =>
      obtain ⟨x, r', rfl, h1, h2⟩ := hw
      cases h2
      cases a with
      | dat d =>
        cases d with
        | lst ds =>
          simp only [biW, Option.map_eq_some_iff] at e
          obtain ⟨bs, e, rfl⟩ := e
          obtain ⟨p, xs, rfl, ht, hr⟩ := h1
          have := ints_vs hr e
          subst this
          exact cr_sum hc pins s σ H _ us Q I r ⟨p, bs, rfl, .inl ht, n.same rfl⟩
        | _ => cases e
      | _ => cases e
theorem cb_min (hc : X.calm = true) : CallR X (.builtin "min") (rBi (kw X) μ .min) := by
  intro pins s σ H vs us Q I r h
  obtain ⟨ws, w, hw, e, n⟩ := h
  match ws, e with
  | [.dat (.int i), .dat (.int j)], e =>
    cases e
    obtain ⟨x, r', rfl, h1, y, r'', rfl, h2, h3⟩ := hw
    cases h3
    exact call_min2 hc pins s σ H _ us Q I r ⟨i, j, by rw [show x = V.int i from h1, show y = V.int j from h2], n.same rfl⟩
theorem cb_max (hc : X.calm = true) : CallR X (.builtin "max") (rBi (kw X) μ .max) := by
  intro pins s σ H vs us Q I r h
  obtain ⟨ws, w, hw, e, n⟩ := h
  match ws, e with
  | [.dat (.int i), .dat (.int j)], e =>
    cases e
    obtain ⟨x, r', rfl, h1, y, r'', rfl, h2, h3⟩ := hw
    cases h3
    exact call_max2 hc pins s σ H _ us Q I r ⟨i, j, by rw [show x = V.int i from h1, show y = V.int j from h2], n.same rfl⟩
/-- isinstance(x, T) -/
def rIs (K : KW) (T : String) : List V → Hp → VK → Prop := fun vs H Q => ∃ a x r, vs = [x, .ty T] ∧ Rv K H a x ∧ isiD a T = some r ∧ Q (.bl r) H
theorem cb_isi {T : String} : CallR X (.builtin "isinstance") (rIs (kw X) T) := by
  intro pins s σ H vs us Q I rr h
  obtain ⟨a, x, r, rfl, ha, e, q⟩ := h
  cases rr with
  | cons r1 r2 =>
    cases r2 with
    | cons r3 r4 =>
      cases r4
      cases r3
      rename_i v
      obtain ⟨as, ra⟩ := read2 I ha r1
      have fin : ∀ r' : Bool, r' = r → ∀ tk : Nat, EP X pins σ Q (.bool r') { s with toks := tk } := fun r' z tk => by subst z; exact ⟨.bl r', H, I.tok tk, rfl, q⟩
      unfold isiD at e
      split at e
      · refine isinstance_str_data ra fun tk _ => fin _ ?_ tk
        rw [← Option.some.inj e]
        cases a <;> rfl
      · refine isinstance_int_data ra fun tk _ => fin _ ?_ tk
        rw [← Option.some.inj e]
        cases a <;> rfl
      · refine isinstance_bool_data ra fun tk _ => fin _ ?_ tk
        rw [← Option.some.inj e]
        cases a <;> rfl
      · refine isinstance_tuple_data ra fun tk _ => fin _ ?_ tk
        rw [← Option.some.inj e]
        cases a <;> rfl
      · refine isinstance_list_data ra fun tk _ => fin _ ?_ tk
        rw [← Option.some.inj e]
        cases a <;> rfl
      · cases e
end
end Ev

/-! EvE: the readings of the own syntax; what each construct does (pX_ ..). -/
namespace Ev
open PySem PySem.Spec PyProof.Rows L2 PySem.W

/-! ### the text's tables; a good context -/
section
variable (K : KW) (cA : Nat → Addr) (Wx : Value → Option Addr → Hp → Prop)
def tX (m : Env → M W) : TE := fun σ H Q => ∃ ρ st μ, EnvR K H μ ρ σ ∧ StR K H st μ ∧ Aft K cA Wx H μ (m ρ st) fun w _ H' μ' => ∀ v, RW K H' μ' w v → Q v H'
def tXs (m : Env → M (List W)) : TA := fun σ H Q => ∃ ρ st μ, EnvR K H μ ρ σ ∧ StR K H st μ ∧ Aft K cA Wx H μ (m ρ st) fun ws _ H' μ' => ∀ vs, RWs K H' μ' ws vs → Q vs H'
def tT (m : Env → M Bool) : TT := fun σ H Q => ∃ ρ st μ, EnvR K H μ ρ σ ∧ StR K H st μ ∧ Aft K cA Wx H μ (m ρ st) fun b _ H' _ => Q b H'
def tO (m : Env → M (Option Int)) : TO := fun σ H Q => ∃ ρ st μ, EnvR K H μ ρ σ ∧ StR K H st μ ∧ Aft K cA Wx H μ (m ρ st) fun o _ H' _ => Q o H'
/-- what a def promises -/
def spF (C : List W → M W) (n : Nat) : Sp := fun vs H Q E => vs.length = n ∧ ∃ ws st μ, RWs K H μ ws vs ∧ StR K H st μ ∧ Aft K cA E H μ (C ws st) fun w _ H' μ' => ∀ v, RW K H' μ' w v → Q v H'
end
structure CallOk (C : List W → M W) (cA : Nat → Addr) (X : Cx) (Wx : Value → Option Addr → Hp → Prop) (x : Str) : Prop where
  ok : ∃ (k : Nat) (f : Addr) (fd : FuncData) (ps : List Str), FnOk X.prog X.w X.K X.mg X.base (L2.CX X.prog X.w) k f fd ps (spF (kw X) cA C ps.length) ∧ Room k X.A ∧ X.mg x = some (.ref f) ∧ PySem.W.keepIn X.K (.ref f) = true ∧ Binds X.K fd ps [] ∧ Passes (L2.CX X.prog X.w) X Wx ∧ ∀ ws st, ws.length ≠ ps.length → C ws st = .stuck

theorem pe_imp {X : Cx} {e : Expr} {t t' : TE} (h : PE X e t) (i : ∀ σ H Q, t' σ H Q → t σ H Q) : PE X e t' := ⟨fun pins s σ H Q I q => h.run pins s σ H Q I (i σ H Q q)⟩
theorem pt_imp {X : Cx} {e : Expr} {t t' : TT} (h : PT X e t) (i : ∀ σ H Q, t' σ H Q → t σ H Q) : PT X e t' := ⟨fun pins s σ H Q I q => h.run pins s σ H Q I (i σ H Q q)⟩
theorem pw_imp {X : Cx} {e : Expr} {t t' : TT} (h : PW X e t) (i : ∀ σ H Q, t' σ H Q → t σ H Q) : PW X e t' := ⟨fun wh pins s σ H Q I q => h.run wh pins s σ H Q I (i σ H Q q)⟩
theorem pa_imp {X : Cx} {es : List Expr} {t t' : TA} (h : PA X es t) (i : ∀ σ H Q, t' σ H Q → t σ H Q) : PA X es t' := ⟨fun pos pins s σ H Q I q => h.run pos pins s σ H Q I (i σ H Q q)⟩

section
variable {C : Nat → List W → M W} {cA : Nat → Addr} {X : Cx} {Wx : Value → Option Addr → Hp → Prop} {a b e : Expr} {pos : Pos} {xa xb xe : Ex}
abbrev TX (C : Nat → List W → M W) (cA : Nat → Addr) (X : Cx) (Wx : Value → Option Addr → Hp → Prop) (x : Ex) : TE := tX (kw X) cA Wx (evX C x)
theorem pX_v {i : Nat} {x : Str} (hN : X.N[i]? = some x) (hv : Vis X.env.scope x) (hd : (x == ("__debug__" : Str)) = false) (hcd : (x == ("__classdict__" : Str)) = false) : PE X (.Name x pos) (TX C cA X Wx (.v i)) := by
  refine pe_imp (pe_var hN hv hd hcd) fun σ H Q ⟨ρ, st, μ, e, s, h⟩ => ?_
  simp only [evX] at h
  obtain ⟨w, hw, q⟩ := h.lift s
  rw [Option.join_eq_some_iff] at hw
  obtain ⟨v, hv, r⟩ := e.at_ i w hw
  exact ⟨v, hv, q v r⟩
theorem pX_c {d : D} {v : V} (h : PE X e (tC v)) (hr : ∀ H, Rp (kw X) H d v) : PE X e (TX C cA X Wx (.c d)) := by
  refine pe_imp h fun σ H Q ⟨ρ, st, μ, e, s, h⟩ => ?_
  simp only [evX] at h
  exact h.ok s v (hr H)
theorem pX_g {d : D} {x : Str} {v : V} {u : Value} (hg : Gl X x) (hm : X.mg x = some u) (r : RelV v u) (hr : ∀ H, Rp (kw X) H d v) (hd : (x == ("__debug__" : Str)) = false) : PE X (.Name x pos) (TX C cA X Wx (.g x d)) := by
  refine pe_imp (pe_glob hg hm r hd) fun σ H Q ⟨ρ, st, μ, e, s, h⟩ => ?_
  simp only [evX] at h
  exact h.ok s v (hr H)
theorem pXs_nil : PA X [] (tXs (kw X) cA Wx (evXs C .nil)) := by
  refine pa_imp pa_nil fun σ H Q ⟨ρ, st, μ, e, s, h⟩ => ?_
  simp only [evXs] at h
  exact h.ok s [] rfl
theorem pXs_cons {es : List Expr} {xs : Exs} (he : PE X e (TX C cA X Wx xe)) (hs : PA X es (tXs (kw X) cA Wx (evXs C xs))) (hst : starEach (e :: es) X.env = (false, eval e X.env) :: starEach es X.env) : PA X (e :: es) (tXs (kw X) cA Wx (evXs C (.cons xe xs))) := by
  refine pa_imp (pa_cons he hs hst) fun σ H Q ⟨ρ, st, μ, e, s, h⟩ => ?_
  simp only [evXs] at h
  refine ⟨ρ, st, μ, e, s, h.bind.imp fun w st1 H1 μ1 s1 r1 h1 v hv => ⟨ρ, st1, μ1, e.stp s1, r1, h1.bind.imp fun ws st2 H2 μ2 s2 r2 h2 vs hvs => ?_⟩⟩
  exact h2.ok r2 (v :: vs) ⟨v, vs, rfl, RW.stp s2 w v hv, hvs⟩
def tTup2 (t : TA) : TE := fun σ H Q => t σ H fun xs H1 => xs.length ≤ sizeLine ∧ ∀ p o, H1 p = none → o.dict = none → Q (.ref p) (upd H1 p (.frz o (.tup xs)))
theorem pe_tup2 {es : List Expr} {t : TA} {x1} (h : PA X es t) : PE X (.Tuple es x1 pos) (tTup2 t) := by
  refine ⟨fun pins s σ H Q I hq => ?_⟩
  refine wpAny_Tuple_spliced (thn (h.run pos pins s σ H _ I hq) fun us s1 ⟨xs, H1, I1, r, z, q⟩ => ⟨by rw [← r.length]; exact z, ?_⟩)
  exact ep_tup (t' := s1.toks) I1 r z q
theorem pX_tup {es : List Expr} {xs : Exs} {k : Nat} (hs : PA X es (tXs (kw X) cA Wx (evXs C xs))) (hlen : ∀ ρ st ws st', evXs C xs ρ st = .ok ws st' → ws.length ≤ sizeLine) : PE X (.Tuple es k pos) (TX C cA X Wx (.tup xs)) := by
  refine pe_imp (pe_tup2 hs) fun σ H Q ⟨ρ, st, μ, e, s, h⟩ => ?_
  simp only [evX] at h
  have hb := h.bind
  refine ⟨ρ, st, μ, e, s, ?_⟩
  cases q : evXs C xs ρ st with
  | ok ws st' =>
    rw [q] at hb
    intro H1 μ1 s1 r1
    have h1 := hb H1 μ1 s1 r1
    intro vs hvs
    refine ⟨by rw [hvs.length]; exact hlen ρ st ws st' q, fun p o hp ho => ?_⟩
    have s2 : Stp H1 μ1 (upd H1 p (.frz o (.tup vs))) μ1 := .keep (Keep.upd hp)
    exact h1 _ _ s2 (r1.keep (Keep.upd hp)) _ (RW.mkTup (.inl ⟨o, upd_same, ho⟩) (RWs.stp s2 _ _ hvs))
  | exn x st' => rw [q] at hb; exact hb
  | stuck => rw [q] at hb; exact hb
theorem pe_frz {t : TE} (h : PE X e t) : PE X e (fun σ H Q => t σ H fun v H' => ∃ p H0 zs, H0 p = none ∧ v = .ref p ∧ H' = upd H0 p (.lst zs) ∧ ∀ o, Q v (upd H0 p (.frz o (.lst zs)))) := by
  refine ⟨fun pins s σ H Q I q => thn (h.run pins s σ H _ I q) fun u s1 ⟨v, H', I1, r, p, H0, zs, hn, e1, e2, q1⟩ => ?_⟩
  subst e1 e2
  exact ep_new I1 r q1
theorem pX_lst {es : List Expr} {xs : Exs} (hs : PA X es (tXs (kw X) cA Wx (evXs C xs))) (hlen : ∀ ρ st ws st', evXs C xs ρ st = .ok ws st' → ws.length ≤ sizeLine) : PE X (.List es pos) (TX C cA X Wx (.lst xs)) := by
  refine pe_imp (pe_frz (pe_lst hs)) fun σ H Q ⟨ρ, st, μ, e, s, h⟩ => ?_
  simp only [evX] at h
  have hb := h.bind
  refine ⟨ρ, st, μ, e, s, ?_⟩
  cases q : evXs C xs ρ st with
  | ok ws st' =>
    rw [q] at hb
    intro H1 μ1 s1 r1
    obtain ⟨ds, hd, h1⟩ := (hb H1 μ1 s1 r1).liftB
    intro vs hvs
    refine ⟨by rw [hvs.length]; exact hlen ρ st ws st' q, fun p hp => ⟨p, H1, vs, hp, rfl, rfl, fun o => ?_⟩⟩
    have k : Keep H1 (upd H1 p (.frz o (.lst vs))) := Keep.upd hp
    exact h1 _ _ (.keep k) (r1.keep k) _ ⟨p, o, vs, rfl, upd_same, Rps.ext (μ := []) k.ext _ _ (RWs.dats hvs hd)⟩
  | exn x st' => rw [q] at hb; exact hb
  | stuck => rw [q] at hb; exact hb
theorem pX_bin {op : Operator} (ha : PE X a (TX C cA X Wx xa)) (hb : PE X b (TX C cA X Wx xb)) : PE X (.BinOp a op b pos) (TX C cA X Wx (.bin op xa xb)) := by
  refine pe_imp (pe_op op_bin ha hb) fun σ H Q ⟨ρ, st, μ, e, s, h⟩ => ?_
  simp only [evX] at h
  refine ⟨ρ, st, μ, e, s, h.bind.imp fun wa st1 H1 μ1 s1 r1 h1 v hv => ⟨ρ, st1, μ1, e.stp s1, r1, h1.bind.imp fun wb st2 H2 μ2 s2 r2 h2 u hu => ?_⟩⟩
  have h3 : Aft (kw X) cA Wx H2 μ2 ((lift (dat? (vw wa st2)) >>= fun dx => lift (dat? (vw wb st2)) >>= fun dy => lift (binD op dx dy) >>= fun d => pure (W.dat d)) st2) _ := h2
  obtain ⟨dx, ex, h3⟩ := h3.liftB
  obtain ⟨dy, ey, h3⟩ := h3.liftB
  obtain ⟨d, ed, h3⟩ := h3.liftB
  have rx := RW.vw r2 (RW.stp s2 _ _ hv)
  have ry := RW.vw r2 hu
  cases hx : vw wa st2 <;> rw [hx] at ex rx <;> cases ex
  cases hy : vw wb st2 <;> rw [hy] at ey ry <;> cases ey
  exact ⟨dx, dy, d, rx, ry, ed, fun v' H' k hv' => h3 _ _ (.keep k) (r2.keep k) v' hv'⟩
theorem pX_cmp {op : CmpOp} (hu : X.A.units + 100 < cLine) (hm : behindInMarks op b = false) (ha : PE X a (TX C cA X Wx xa)) (hb : PE X b (TX C cA X Wx xb)) : PE X (.Compare a [op] [b] pos) (TX C cA X Wx (.cmp op xa xb)) := by
  refine pe_imp (pe_cmpR (op_cmpW hu) ha hb hm) fun σ H Q ⟨ρ, st, μ, e, s, h⟩ => ?_
  simp only [evX] at h
  refine ⟨ρ, st, μ, e, s, h.bind.imp fun wa st1 H1 μ1 s1 r1 h1 v hv => ⟨ρ, st1, μ1, e.stp s1, r1, h1.bind.imp fun wb st2 H2 μ2 s2 r2 h2 u hu => ?_⟩⟩
  have h3 : Aft (kw X) cA Wx H2 μ2 ((lift (cmpW op (vw wa st2) (vw wb st2)) >>= fun r => pure (W.dat (.bl r))) st2) _ := h2
  obtain ⟨r, er, h3⟩ := h3.liftB
  have rx := RW.vw r2 (RW.stp s2 _ _ hv)
  have ry := RW.vw r2 hu
  exact ⟨μ2, vw wa st2, vw wb st2, r, rx, ry, er, h3.ok r2 _ rfl⟩
end
end Ev

/-! EvF: more constructs: and, or, not, tests, items, slices, calls, built-ins, methods. -/
namespace Ev
open PySem PySem.Spec PyProof.Rows L2 PySem.W

theorem m_assoc {α β γ : Type} (m : M α) (f : α → M β) (g : β → M γ) : ((m >>= f) >>= g) = (m >>= fun a => f a >>= g) := by
  funext st
  rw [bind_eq, bind_eq, bind_eq]
  cases m st <;> rfl
theorem m_pure {α β : Type} (a : α) (f : α → M β) : ((pure a : M α) >>= f) = f a := rfl
theorem m_eta {α : Type} (m : M α) : (m >>= fun a => pure a) = m := by
  funext st
  rw [bind_eq]
  cases m st <;> rfl
def evT (C : Nat → List W → M W) (x : Ex) (ρ : Env) : M Bool := evX C x ρ >>= fun w => lift (truth w)
section
variable {K : KW} {cA : Nat → Addr} {Wx : Value → Option Addr → Hp → Prop} {α : Type} {H H1 : Hp} {μ μ1 : List Addr} {P : α → Store → Hp → List Addr → Prop}
theorem Aft.shift {r : Res α} (s : Stp H μ H1 μ1) (h : Aft K cA Wx H μ r P) : Aft K cA Wx H1 μ1 r P := by
  cases r with
  | ok a st' => exact fun H' μ' s' r => h H' μ' (s.trans s') r
  | exn x st' => exact fun c d H' μ' s' r => h c d H' μ' (s.trans s') r
  | stuck => exact h
end
theorem truth_some {w : W} {b : Bool} (h : truth w = some b) : w = .dat (.bl b) := by
  cases w with
  | dat d =>
    cases d with
    | bl c => simp only [truth, Option.some.injEq] at h; rw [h]
    | _ => cases h
  | _ => cases h

section
variable {C : Nat → List W → M W} {cA : Nat → Addr} {X : Cx} {Wx : Value → Option Addr → Hp → Prop} {a b c e : Expr} {pos : Pos} {xa xb xc xe : Ex} {rest : List Expr}
abbrev TT' (C : Nat → List W → M W) (cA : Nat → Addr) (X : Cx) (Wx : Value → Option Addr → Hp → Prop) (x : Ex) : TT := tT (kw X) cA Wx (evT C x)
/-! ### tests -/
theorem tB_of {x : Ex} {σ : L2.St} {H : Hp} {Q : Bool → Hp → Prop} (h : TT' C cA X Wx x σ H Q) : tB (TX C cA X Wx x) σ H Q := by
  obtain ⟨ρ, st, μ, e, s, h⟩ := h
  refine ⟨ρ, st, μ, e, s, h.bind.imp fun w st1 H1 μ1 s1 r1 h1 v hv => ?_⟩
  obtain ⟨b, hb, q⟩ := h1.lift r1
  cases truth_some hb
  exact ⟨b, hv, q⟩
theorem pT_val (h : PE X e (TX C cA X Wx xe)) (he : ∀ whole, isTrue e X.env whole = (do let v ← whole; standAt e.pos; holding [v] (truthy v))) : PT X e (TT' C cA X Wx xe) :=
  pt_imp (pt_val h he) fun _ _ _ q => tB_of q
theorem pT_cmp {op : CmpOp} (hu : X.A.units + 100 < cLine) (hm : behindInMarks op b = false) (ha : PE X a (TX C cA X Wx xa)) (hb : PE X b (TX C cA X Wx xb)) : PT X (.Compare a [op] [b] pos) (TT' C cA X Wx (.cmp op xa xb)) := by
  refine pt_imp (pt_cmpR (op_cmpW hu) ha hb hm) fun σ H Q ⟨ρ, st, μ, e, s, h⟩ => ?_
  have h : Aft (kw X) cA Wx H μ ((evX C xa ρ >>= fun x => evX C xb ρ >>= fun y => (fun st => Res.ok (vw x st) st) >>= fun x => (fun st => Res.ok (vw y st) st) >>= fun y => lift (cmpW op x y)) st) fun b _ H' _ => Q b H' := by
    have e2 : evT C (.cmp op xa xb) ρ = (evX C xa ρ >>= fun x => evX C xb ρ >>= fun y => (fun st => Res.ok (vw x st) st) >>= fun x => (fun st => Res.ok (vw y st) st) >>= fun y => lift (cmpW op x y)) := by
      unfold evT
      simp only [evX, m_assoc, vwM]
      congr 1; funext x; congr 1; funext y; congr 1; funext x'; congr 1; funext y'
      funext st
      cases cmpW op x' y' <;> rfl
    rw [← e2]; exact h
  refine ⟨ρ, st, μ, e, s, h.bind.imp fun wa st1 H1 μ1 s1 r1 h1 v hv => ⟨ρ, st1, μ1, e.stp s1, r1, h1.bind.imp fun wb st2 H2 μ2 s2 r2 h2 u hu => ?_⟩⟩
  have h3 : Aft (kw X) cA Wx H2 μ2 (lift (cmpW op (vw wa st2) (vw wb st2)) st2) _ := h2
  obtain ⟨r, er, h3⟩ := h3.lift r2
  have rx := RW.vw r2 (RW.stp s2 _ _ hv)
  have ry := RW.vw r2 hu
  exact ⟨μ2, vw wa st2, vw wb st2, r, rx, ry, er, r, rfl, h3⟩
theorem pT_not (ha : PT X a (TT' C cA X Wx xa)) : PT X (.UnaryOp .Not a pos) (TT' C cA X Wx (.nt xa)) := by
  refine pt_imp (pt_not ha) fun σ H Q ⟨ρ, st, μ, e, s, h⟩ => ?_
  have e2 : evT C (.nt xa) ρ = (evT C xa ρ >>= fun c => pure (!c)) := by
    unfold evT
    simp only [evX]
    show (((evX C xa ρ >>= fun w => lift (truth w)) >>= fun b => pure (W.dat (.bl (!b)))) >>= fun w => lift (truth w)) = _
    rw [m_assoc]; rfl
  rw [e2] at h
  exact ⟨ρ, st, μ, e, s, h.bind.imp fun c st1 H1 μ1 s1 r1 h1 => h1.ok r1⟩
theorem evT_and {ρ : Env} : evT C (.and xa xb) ρ = (evT C xa ρ >>= fun c => match c with | true => evT C xb ρ | false => pure false) := by
  unfold evT
  simp only [evX]
  show (((evX C xa ρ >>= fun w => lift (truth w)) >>= _) >>= fun w => lift (truth w)) = _
  rw [m_assoc]
  congr 1; funext c
  cases c <;> rfl
theorem evT_or {ρ : Env} : evT C (.or xa xb) ρ = (evT C xa ρ >>= fun c => match c with | true => pure true | false => evT C xb ρ) := by
  unfold evT
  simp only [evX]
  show (((evX C xa ρ >>= fun w => lift (truth w)) >>= _) >>= fun w => lift (truth w)) = _
  rw [m_assoc]
  congr 1; funext c
  cases c <;> rfl
theorem pW_and (ha : PT X a (TT' C cA X Wx xa)) (hb : PW X (.BoolOp .And (b :: rest) pos) (TT' C cA X Wx xb)) : PW X (.BoolOp .And (a :: b :: rest) pos) (TT' C cA X Wx (.and xa xb)) := by
  refine pw_imp (pw_and ha hb) fun σ H Q ⟨ρ, st, μ, e, s, h⟩ => ?_
  rw [evT_and] at h
  refine ⟨ρ, st, μ, e, s, h.bind.imp fun c st1 H1 μ1 s1 r1 h1 => ?_⟩
  cases c with
  | true => exact ⟨ρ, st1, μ1, e.stp s1, r1, h1⟩
  | false => exact h1.ok r1
theorem pW_or (ha : PT X a (TT' C cA X Wx xa)) (hb : PW X (.BoolOp .Or (b :: rest) pos) (TT' C cA X Wx xb)) : PW X (.BoolOp .Or (a :: b :: rest) pos) (TT' C cA X Wx (.or xa xb)) := by
  refine pw_imp (pw_or ha hb) fun σ H Q ⟨ρ, st, μ, e, s, h⟩ => ?_
  rw [evT_or] at h
  refine ⟨ρ, st, μ, e, s, h.bind.imp fun c st1 H1 μ1 s1 r1 h1 => ?_⟩
  cases c with
  | false => exact ⟨ρ, st1, μ1, e.stp s1, r1, h1⟩
  | true => exact h1.ok r1
/-! ### the same as values -/
theorem pX_not (ha : PE X a (TX C cA X Wx xa)) : PE X (.UnaryOp .Not a pos) (TX C cA X Wx (.nt xa)) := by
  refine pe_imp (pe_not ha) fun σ H Q ⟨ρ, st, μ, e, s, h⟩ => ?_
  simp only [evX] at h
  have h : Aft (kw X) cA Wx H μ (((evX C xa ρ >>= fun w => lift (truth w)) >>= fun b => pure (W.dat (.bl (!b)))) st) _ := h
  rw [m_assoc] at h
  refine ⟨ρ, st, μ, e, s, h.bind.imp fun w st1 H1 μ1 s1 r1 h1 v hv => ?_⟩
  obtain ⟨b, hb, q⟩ := h1.liftB
  cases truth_some hb
  exact ⟨b, hv, q.ok r1 _ rfl⟩
theorem pX_and (ha : PE X a (TX C cA X Wx xa)) (hb : PE X (.BoolOp .And (b :: rest) pos) (TX C cA X Wx xb)) : PE X (.BoolOp .And (a :: b :: rest) pos) (TX C cA X Wx (.and xa xb)) := by
  refine pe_imp (pe_and ha hb) fun σ H Q ⟨ρ, st, μ, e, s, h⟩ => ?_
  simp only [evX] at h
  have h : Aft (kw X) cA Wx H μ (((evX C xa ρ >>= fun w => lift (truth w)) >>= _) st) _ := h
  rw [m_assoc] at h
  refine ⟨ρ, st, μ, e, s, h.bind.imp fun w st1 H1 μ1 s1 r1 h1 v hv => ?_⟩
  obtain ⟨k, hk, q⟩ := h1.liftB
  cases truth_some hk
  refine ⟨k, hv, ?_⟩
  cases k with
  | true => exact ⟨ρ, st1, μ1, e.stp s1, r1, q⟩
  | false => exact q.ok r1 _ rfl
theorem pX_or (ha : PE X a (TX C cA X Wx xa)) (hb : PE X (.BoolOp .Or (b :: rest) pos) (TX C cA X Wx xb)) : PE X (.BoolOp .Or (a :: b :: rest) pos) (TX C cA X Wx (.or xa xb)) := by
  refine pe_imp (pe_or ha hb) fun σ H Q ⟨ρ, st, μ, e, s, h⟩ => ?_
  simp only [evX] at h
  have h : Aft (kw X) cA Wx H μ (((evX C xa ρ >>= fun w => lift (truth w)) >>= _) st) _ := h
  rw [m_assoc] at h
  refine ⟨ρ, st, μ, e, s, h.bind.imp fun w st1 H1 μ1 s1 r1 h1 v hv => ?_⟩
  obtain ⟨k, hk, q⟩ := h1.liftB
  cases truth_some hk
  refine ⟨k, hv, ?_⟩
  cases k with
  | false => exact ⟨ρ, st1, μ1, e.stp s1, r1, q⟩
  | true => exact q.ok r1 _ rfl
theorem pX_ite (hc : PT X c (TT' C cA X Wx xc)) (ha : PE X a (TX C cA X Wx xa)) (hb : PE X b (TX C cA X Wx xb)) : PE X (.IfExp c a b pos) (TX C cA X Wx (.ite xc xa xb)) := by
  refine pe_imp (pe_ifExp hc ha hb) fun σ H Q ⟨ρ, st, μ, e, s, h⟩ => ?_
  simp only [evX] at h
  have h : Aft (kw X) cA Wx H μ ((evT C xc ρ >>= _) st) _ := h
  refine ⟨ρ, st, μ, e, s, h.bind.imp fun k st1 H1 μ1 s1 r1 h1 => ?_⟩
  cases k with
  | true => exact ⟨ρ, st1, μ1, e.stp s1, r1, h1⟩
  | false => exact ⟨ρ, st1, μ1, e.stp s1, r1, h1⟩
theorem pX_neg (ha : PE X a (TX C cA X Wx xa)) : PE X (.UnaryOp .USub a pos) (TX C cA X Wx (.neg xa)) := by
  refine pe_imp (pe_un un_neg ha) fun σ H Q ⟨ρ, st, μ, e, s, h⟩ => ?_
  simp only [evX] at h
  refine ⟨ρ, st, μ, e, s, h.bind.imp fun w st1 H1 μ1 s1 r1 h1 v hv => ?_⟩
  cases w with
  | dat d =>
    cases d with
    | int i => exact ⟨i, hv, h1.ok r1 _ rfl⟩
    | _ => exact h1.elim
  | _ => exact h1.elim
/-! ### items, slices -/
theorem pX_ix {i : Expr} {xi : Ex} (hu : X.A.units + 100 < cLine) (hs : PlainIx i) (ha : PE X a (TX C cA X Wx xa)) (hi : PE X i (TX C cA X Wx xi)) : PE X (.Subscript a i pos) (TX C cA X Wx (.ix xa xi)) := by
  have hr : IxR X (fun x y H Q => ∃ μ, rIxW (kw X) μ x y H Q) := fun value slice pins s σ H x y v u Q I rx ry ⟨μ, h⟩ hs => ix_W hu value slice pins s σ H x y v u Q I rx ry h hs
  refine pe_imp (pe_ix hr ha hi hs) fun σ H Q ⟨ρ, st, μ, e, s, h⟩ => ?_
  simp only [evX] at h
  refine ⟨ρ, st, μ, e, s, h.bind.imp fun wa st1 H1 μ1 s1 r1 h1 v hv => ⟨ρ, st1, μ1, e.stp s1, r1, h1.bind.imp fun wb st2 H2 μ2 s2 r2 h2 u hu => ?_⟩⟩
  have h3 : Aft (kw X) cA Wx H2 μ2 (lift (ixW (vw wa st2) wb) st2) _ := h2
  obtain ⟨w, ew, q⟩ := h3.lift r2
  refine ⟨μ2, vw wa st2, wb, w, RW.vw r2 (RW.stp s2 _ _ hv), ?_, ew, q⟩
  cases wb with
  | dat d => exact Rp.rv hu
  | fdi t kvs => obtain ⟨a, hv, _, hd⟩ := hu; exact ⟨a, hv, hd⟩
  | _ => exact hu
theorem pO_no : PO X none (tO (kw X) cA Wx (evO C .no)) := ⟨fun pins s σ H Q I ⟨ρ, st, μ, e, st', h⟩ => by
  simp only [evO] at h
  exact po_none.run pins s σ H Q I (h.ok st')⟩
theorem pO_so (ha : PE X a (TX C cA X Wx xa)) : PO X (some a) (tO (kw X) cA Wx (evO C (.so xa))) := ⟨fun pins s σ H Q I ⟨ρ, st, μ, e, st', h⟩ => by
  simp only [evO] at h
  refine (po_some ha).run pins s σ H Q I ⟨ρ, st, μ, e, st', h.bind.imp fun w st1 H1 μ1 s1 r1 h1 v hv => ?_⟩
  cases w with
  | dat d =>
    cases d with
    | int i => exact ⟨i, hv, h1.ok r1⟩
    | _ => exact h1.elim
  | _ => exact h1.elim⟩
theorem pX_sl {lo hi : Option Expr} {xl xh : Ox} {p2 : Pos} (ha : PE X a (TX C cA X Wx xa)) (hl : PO X lo (tO (kw X) cA Wx (evO C xl))) (hh : PO X hi (tO (kw X) cA Wx (evO C xh))) : PE X (.Subscript a (.Slice lo hi none p2) pos) (TX C cA X Wx (.sl xa xl xh)) := by
  have hr : SlR X (fun x lo hi H Q => ∃ μ, rSlW (kw X) μ x lo hi H Q) := fun pins s σ H x v vl vu lo hi sl Q I rx hs pl pu ⟨μ, h⟩ => sl_W pins s σ H x v vl vu lo hi sl Q I rx hs pl pu h
  refine pe_imp (pe_slice hr ha hl hh) fun σ H Q ⟨ρ, st, μ, e, s, h⟩ => ?_
  simp only [evX] at h
  refine ⟨ρ, st, μ, e, s, h.bind.imp fun wa st1 H1 μ1 s1 r1 h1 v hv => ⟨ρ, st1, μ1, e.stp s1, r1, h1.bind.imp fun l st2 H2 μ2 s2 r2 h2 => ⟨ρ, st2, μ2, e.stp (s1.trans s2), r2, h2.bind.imp fun u st3 H3 μ3 s3 r3 h3 => ?_⟩⟩⟩
  have h4 : Aft (kw X) cA Wx H3 μ3 (lift (slW (vw wa st3) l u) st3) _ := h3
  cases q : slW (vw wa st3) l u with
  | none => rw [q] at h4; exact h4.elim
  | some w =>
    rw [q] at h4
    exact ⟨μ3, vw wa st3, w, RW.vw r3 (RW.stp (s2.trans s3) _ _ hv), q, fun v H' k hv => h4 H' μ3 (.keep k) (r3.keep k) v hv⟩
theorem pX_rv {k : Nat} {p1 p2 p3 : Pos} (ha : PE X a (TX C cA X Wx xa)) : PE X (.Subscript a (.Slice none none (some (.UnaryOp .USub (.Constant (.int 1) k p1) p2)) p3) pos) (TX C cA X Wx (.rv xa)) := by
  refine pe_imp (pe_rv ha) fun σ H Q ⟨ρ, st, μ, e, s, h⟩ => ?_
  simp only [evX] at h
  refine ⟨ρ, st, μ, e, s, h.bind.imp fun wa st1 H1 μ1 s1 r1 h1 v hv => ?_⟩
  have h3 : Aft (kw X) cA Wx H1 μ1 (lift (rvW (vw wa st1)) st1) _ := h1
  have rx := RW.vw r1 hv
  cases q : vw wa st1 with
  | dat d =>
    rw [q] at h3 rx
    cases d with
    | tup ds => exact ⟨.tup ds, .tup ds.reverse, rx, rfl, fun v H' k hv => h3 H' μ1 (.keep k) (r1.keep k) v hv⟩
    | lst ds => exact ⟨.lst ds, .lst ds.reverse, rx, rfl, fun v H' k hv => h3 H' μ1 (.keep k) (r1.keep k) v hv⟩
    | _ => exact h3.elim
  | _ => rw [q] at h3; exact h3.elim
/-! ### calls -/
theorem pX_call {f : Nat} {x : Str} {p : Pos} {es : List Expr} {xs : Exs} (G : CallOk (C f) cA X Wx x) (hg : Gl X x) (hdb : (x == ("__debug__" : Str)) = false) (hs : PA X (e :: es) (tXs (kw X) cA Wx (evXs C xs)))
    (hst : starEach (e :: es) X.env = (false, eval e X.env) :: starEach es X.env) (hpl : (backTo pos (starEach es X.env)).any (·.1) = false) : PE X (.Call (.Name x p) (e :: es) [] pos) (TX C cA X Wx (.call f xs)) := by
  obtain ⟨k, fa, fd, ps, F, hr, hm, hk, hb, hx, hn⟩ := G.ok
  refine pe_imp (pe_call F hr hg hm hk hb .nil hx hs hdb hst hpl) fun σ H Q ⟨ρ, st, μ, e, s, h⟩ => ?_
  simp only [evX] at h
  refine ⟨ρ, st, μ, e, s, h.bind.imp fun ws st1 H1 μ1 s1 r1 h1 vs hvs => ?_⟩
  show spF (kw X) cA (C f) ps.length (vs ++ []) H1 Q Wx
  rw [List.append_nil]
  refine ⟨?_, ws, st1, μ1, hvs, r1, h1⟩
  by_cases z : ws.length = ps.length
  · rw [hvs.length]; exact z
  · rw [hn ws st1 z] at h1; exact h1.elim
theorem pX_call0 {f : Nat} {x : Str} {p : Pos} (G : CallOk (C f) cA X Wx x) (hg : Gl X x) (hdb : (x == ("__debug__" : Str)) = false) : PE X (.Call (.Name x p) [] [] pos) (TX C cA X Wx (.call f .nil)) := by
  obtain ⟨k, fa, fd, ps, F, hr, hm, hk, hb, hx, hn⟩ := G.ok
  refine pe_imp (pe_call0 F hr hg hm hk hb .nil hx hdb) fun σ H Q ⟨ρ, st, μ, e, s, h⟩ => ?_
  simp only [evX, evXs] at h
  have h1 : Aft (kw X) cA Wx H μ (C f [] st) _ := h
  refine ⟨?_, [], st, μ, rfl, s, h1⟩
  by_cases z : ([] : List W).length = ps.length
  · exact z
  · rw [hn [] st z] at h1; exact h1.elim
/-! ### built-ins -/
theorem bi_step {b : Bi} {xs : Exs} {σ : L2.St} {H : Hp} {Q : VK} (h : TX C cA X Wx (.bi b xs) σ H Q) :
    tXs (kw X) cA Wx (evXs C xs) σ H fun vs H1 => ∃ μ, rBi (kw X) μ b vs H1 Q := by
  obtain ⟨ρ, st, μ, e, s, h⟩ := h
  simp only [evX] at h
  refine ⟨ρ, st, μ, e, s, h.bind.imp fun ws st1 H1 μ1 s1 r1 h1 vs hvs => ?_⟩
  have h2 : Aft (kw X) cA Wx H1 μ1 (match biW b (ws.map (vw · st1)) with | some w => Res.ok w st1 | none => Res.stuck) _ := h1
  cases q : biW b (ws.map (vw · st1)) with
  | none => rw [q] at h2; exact h2.elim
  | some w =>
    rw [q] at h2
    exact ⟨μ1, ws.map (vw · st1), w, RWs.vws r1 hvs, q, fun v H' k hv => h2 H' μ1 (.keep k) (r1.keep k) v hv⟩
theorem pX_biB {b : Bi} {id : String} {x : Str} {p : Pos} {es : List Expr} {xs : Exs} (hc : ∀ μ, CallR X (.builtin id) (rBi (kw X) μ b)) (hg : Gl X x) (hm : X.mg x = none) (hv : bootBuiltins x = some (.builtin id)) (hs : PA X (e :: es) (tXs (kw X) cA Wx (evXs C xs)))
    (hn : x ≠ "__name__") (hdb : (x == ("__debug__" : Str)) = false) (hst : starEach (e :: es) X.env = (false, eval e X.env) :: starEach es X.env) (hpl : (backTo pos (starEach es X.env)).any (·.1) = false) : PE X (.Call (.Name x p) (e :: es) [] pos) (TX C cA X Wx (.bi b xs)) := by
  have hc' : CallR X (.builtin id) (fun vs H Q => ∃ μ, rBi (kw X) μ b vs H Q) := fun pins s σ H xs us Q I r ⟨μ, h⟩ => hc μ pins s σ H xs us Q I r h
  exact pe_imp (pe_callB hc' hg hm hv hs hn hdb hst hpl) fun σ H Q h => bi_step h
theorem pX_biT {b : Bi} {T : String} {x : Str} {p : Pos} {es : List Expr} {xs : Exs} (hc : ∀ μ, CallR X (.type T) (rBi (kw X) μ b)) (hg : Gl X x) (hm : X.mg x = none) (hv : bootBuiltins x = some (.type T)) (hs : PA X (e :: es) (tXs (kw X) cA Wx (evXs C xs)))
    (hn : x ≠ "__name__") (hdb : (x == ("__debug__" : Str)) = false) (hst : starEach (e :: es) X.env = (false, eval e X.env) :: starEach es X.env) (hpl : (backTo pos (starEach es X.env)).any (·.1) = false) : PE X (.Call (.Name x p) (e :: es) [] pos) (TX C cA X Wx (.bi b xs)) := by
  have hc' : CallR X (.type T) (fun vs H Q => ∃ μ, rBi (kw X) μ b vs H Q) := fun pins s σ H xs us Q I r ⟨μ, h⟩ => hc μ pins s σ H xs us Q I r h
  exact pe_imp (pe_callTy hc' hg hm hv hs hn hdb hst hpl) fun σ H Q h => bi_step h
/-- list(e), frozen -/
theorem cb_listF {μ : List Addr} : CallR X (.type "list") (rBi (kw X) μ .list) := by
  intro pins s σ H vs us Q I r h
  obtain ⟨ws, w, hw, e, n⟩ := h
  obtain ⟨a, rfl⟩ : ∃ a, ws = [a] := by
    match ws, e with
    | [a], _ => exact ⟨a, rfl⟩
    | [], e => cases e
    | .dat a :: _ :: _, e => cases a <;> cases e
    | .fdi _ _ :: _ :: _, e => cases e
    | .ref _ :: _ :: _, e => cases e
    | .tup _ :: _ :: _, e => cases e
    | .scr _ :: _ :: _, e => cases e
  obtain ⟨ds, hd, rfl⟩ : ∃ ds, seq? a = some ds ∧ w = .dat (.lst ds) := by
    cases a with
    | dat a => cases a <;> first | (cases e; exact ⟨_, rfl, rfl⟩) | cases e
    | scr ns => cases e; exact ⟨_, rfl, rfl⟩
    | _ => cases e
  exact thn (cb_list pins s σ H vs us (fun v H' => ∃ p zs, H p = none ∧ v = .ref p ∧ H' = upd H p (.lst zs) ∧ ∀ o, Q v (upd H p (.frz o (.lst zs)))) I r ⟨a, ds, hw, hd, fun p xs hp hr => ⟨p, xs, hp, rfl, rfl, fun o => n.d.lst hp hr⟩⟩) fun _ _ z => ep_frz z
/-- isinstance(e, T) -/
theorem pX_isi {T : String} {p p2 : Pos} (hg : Gl X "isinstance") (hm : X.mg "isinstance" = none) {t : Str} (hgt : Gl X t) (hmt : X.mg t = none) (hvt : bootBuiltins t = some (.type T)) (hnt : t ≠ "__name__") (hdt : (t == ("__debug__" : Str)) = false)
    (ha : PE X a (TX C cA X Wx xa)) (hst : starEach [a, .Name t p2] X.env = (false, eval a X.env) :: starEach [.Name t p2] X.env) : PE X (.Call (.Name "isinstance" p) [a, .Name t p2] [] pos) (TX C cA X Wx (.isi xa T)) := by
  have hT : PE X (.Name t p2) (tC (.ty T)) := pe_bltn hgt hmt hvt rfl hnt hdt
  refine pe_imp (pe_callB (cb_isi (T := T)) hg hm (by decide +kernel) (pa_cons ha (pa_cons hT pa_nil rfl) hst) (by decide) (by decide) hst rfl) fun σ H Q ⟨ρ, st, μ, e, s, h⟩ => ?_
  simp only [evX] at h
  refine ⟨ρ, st, μ, e, s, h.bind.imp fun wa st1 H1 μ1 s1 r1 h1 v hv => ?_⟩
  have h2 : Aft (kw X) cA Wx H1 μ1 ((lift (dat? (vw wa st1)) >>= fun d => lift (isiD d T) >>= fun r => pure (W.dat (.bl r))) st1) _ := h1
  obtain ⟨d, ed, h3⟩ := h2.liftB
  obtain ⟨r, er, h4⟩ := h3.liftB
  have rx := RW.vw r1 hv
  cases q : vw wa st1 <;> rw [q] at ed rx <;> cases ed
  exact ⟨d, v, r, rfl, rx, er, h4.ok r1 _ rfl⟩
/-! ### a new list that may change -/
theorem pX_nl {t : TE} (h : PE X e t) (ht : ∀ σ H Q, TX C cA X Wx (.nl xe) σ H Q → t σ H Q) : PE X e (TX C cA X Wx (.nl xe)) := pe_imp h ht
/-- behind a thing just made: a cell -/
theorem nl_end {st1 : Store} {H1 : Hp} {μ1 : List Addr} {ds : List D} {Q : VK} (r1 : StR (kw X) H1 st1 μ1) (h : Aft (kw X) cA Wx H1 μ1 (Res.ok (W.ref st1.length) (st1 ++ [Cell.lst ds])) fun w _ H' μ' => ∀ v, RW (kw X) H' μ' w v → Q v H') {p : Addr} {vs : List V} (hp : H1 p = none) (hr : Rps (kw X) H1 ds vs) : Q (.ref p) (upd H1 p (.lst vs)) := by
  have k : Keep H1 (upd H1 p (.lst vs)) := Keep.upd hp
  refine h _ (μ1 ++ [p]) (Stp.push hp) (r1.push hp ⟨vs, upd_same, Rps.ext (μ := []) k.ext _ _ hr⟩) _ ⟨p, ?_, rfl⟩
  rw [List.getElem?_append_right (by rw [r1.len]; exact Nat.le_refl _)]
  simp [r1.len]
theorem pX_nlLst {es : List Expr} {xs : Exs} (hs : PA X es (tXs (kw X) cA Wx (evXs C xs))) (hlen : ∀ ρ st ws st', evXs C xs ρ st = .ok ws st' → ws.length ≤ sizeLine) : PE X (.List es pos) (TX C cA X Wx (.nl (.lst xs))) := by
  refine pe_imp (pe_lst hs) fun σ H Q ⟨ρ, st, μ, e, s, h⟩ => ?_
  simp only [evX] at h
  have h : Aft (kw X) cA Wx H μ ((((evXs C xs ρ >>= fun ws => lift (dats? ws) >>= fun ds => pure (W.dat (.lst ds))) >>= fun w => lift (toCell w)) >>= fun c st => Res.ok (W.ref st.length) (st ++ [c])) st) _ := h
  rw [m_assoc, m_assoc] at h
  have hb := h.bind
  refine ⟨ρ, st, μ, e, s, ?_⟩
  cases q : evXs C xs ρ st with
  | ok ws st' =>
    rw [q] at hb
    intro H1 μ1 s1 r1
    have h1 := hb H1 μ1 s1 r1
    dsimp only at h1
    rw [m_assoc] at h1
    obtain ⟨ds, hd, h1⟩ := h1.liftB
    intro vs hvs
    exact ⟨by rw [hvs.length]; exact hlen ρ st ws st' q, fun p hp => nl_end r1 h1 hp (RWs.dats hvs hd)⟩
  | exn x st' => rw [q] at hb; exact hb
  | stuck => rw [q] at hb; exact hb
theorem pX_nlList {p : Pos} (hg : Gl X "list") (hm : X.mg "list" = none) (ha : PE X a (TX C cA X Wx xa)) (hst : starEach [a] X.env = (false, eval a X.env) :: starEach [] X.env) :
    PE X (.Call (.Name "list" p) [a] [] pos) (TX C cA X Wx (.nl (.bi .list (.cons xa .nil)))) := by
  have hc' : CallR X (.type "list") (fun vs H Q => ∃ μ a ds, RVs (kw X) H μ [a] vs ∧ seq? a = some ds ∧ ∀ p xs, H p = none → Rps (kw X) H ds xs → Q (.ref p) (upd H p (.lst xs))) := fun pins s σ H xs us Q I r ⟨μ, h⟩ => cb_list (μ := μ) pins s σ H xs us Q I r h
  refine pe_imp (pe_callTy hc' hg hm (by decide +kernel) (pa_cons ha pa_nil hst) (by decide) (by decide) hst rfl) fun σ H Q ⟨ρ, st, μ, e, s, h⟩ => ?_
  simp only [evX, evXs] at h
  have h : Aft (kw X) cA Wx H μ (((((evX C xa ρ >>= fun w => pure [w]) >>= fun ws => fun st => match biW .list (ws.map (vw · st)) with | some w => Res.ok w st | none => Res.stuck) >>= fun w => lift (toCell w)) >>= fun c st => Res.ok (W.ref st.length) (st ++ [c])) st) _ := h
  rw [m_assoc, m_assoc, m_assoc] at h
  refine ⟨ρ, st, μ, e, s, h.bind.imp fun wa st1 H1 μ1 s1 r1 h1 v hv => ?_⟩
  have h2 : Aft (kw X) cA Wx H1 μ1 (((fun st => match biW .list [vw wa st] with | some w => Res.ok w st | none => Res.stuck) >>= fun w => (lift (toCell w) >>= fun c st => Res.ok (W.ref st.length) (st ++ [c]))) st1) _ := h1
  rw [bind_eq] at h2
  have rx := RW.vw r1 hv
  cases q : vw wa st1 with
  | dat d =>
    rw [q] at h2 rx
    cases d with
    | tup ds => exact ⟨μ1, .dat (.tup ds), ds, ⟨v, [], rfl, rx, rfl⟩, rfl, fun p xs hp hr => nl_end r1 h2 hp hr⟩
    | lst ds => exact ⟨μ1, .dat (.lst ds), ds, ⟨v, [], rfl, rx, rfl⟩, rfl, fun p xs hp hr => nl_end r1 h2 hp hr⟩
    | _ => exact h2.elim
  | scr ns =>
    rw [q] at h2 rx
    exact ⟨μ1, .scr ns, _, ⟨v, [], rfl, rx, rfl⟩, rfl, fun p xs hp hr => nl_end r1 h2 hp hr⟩
  | _ => rw [q] at h2; exact h2.elim
end
end Ev

/-! EvG: methods that change a list; what is walked; list comprehensions. -/
namespace Ev
open PySem PySem.Spec PyProof.Rows L2 PySem.W

section
variable {C : Nat → List W → M W} {cA : Nat → Addr} {X : Cx} {Wx : Value → Option Addr → Hp → Prop} {a b c e o : Expr} {pos apos : Pos} {xa xb xc xe xo : Ex} {rest : List Expr}
theorem cell_ok {K : KW} {H : Hp} {μ : List Addr} {n : Nat} {l : Bool} {st : Store} {α : Type} {f : Unit → M α} {P : α → Store → Hp → List Addr → Prop} (r : StR K H st μ) (h : Aft K cA Wx H μ ((cellOf n l >>= f) st) P) :
    ∃ c a, st[n]? = some c ∧ isLst c = l ∧ μ[n]? = some a ∧ CellR K H c a ∧ Aft K cA Wx H μ (f () st) P := by
  rw [bind_eq] at h
  unfold cellOf at h
  cases q : st[n]? with
  | none => rw [q] at h; exact h.elim
  | some c =>
    rw [q] at h
    obtain ⟨a, e, hc⟩ := r.at_ n c q
    by_cases z : (isLst c == l) = true
    · simp only [z, if_true] at h
      exact ⟨c, a, rfl, by simpa using z, e, hc, h⟩
    · simp only [z] at h
      exact h.elim
theorem lst_cell {K : KW} {H : Hp} {c : Cell} {a : Addr} (h : CellR K H c a) (hl : isLst c = true) : ∃ ds xs, c = .lst ds ∧ H a = some (.lst xs) ∧ Rps K H ds xs := by
  cases c with
  | lst ds => obtain ⟨xs, h1, h2⟩ := h; exact ⟨ds, xs, rfl, h1, h2⟩
  | dic _ _ => cases hl
/-- xs.append(e) -/
theorem pX_append {cpos : Pos} (ho : PE X o (TX C cA X Wx xo)) (he : PE X e (TX C cA X Wx xe)) (hbase : attributeBase o "append" X.env (eval o X.env) = eval o X.env) (hline : (apos.endLine == cpos.line) = true)
    (hs : starEach [e] X.env = (false, eval e X.env) :: starEach [] X.env) : PE X (.Call (.Attribute o "append" apos) [e] [] cpos) (TX C cA X Wx (.mt .append xo (.cons xe .nil))) := by
  refine pe_imp (pe_bm PySem.F.plainAttrs_list PySem.F.slot_list_append PySem.F.type_list_append mt_append ho (pa_cons he pa_nil hs) hbase (by rw [hs]; rfl) hline hs rfl) fun σ H Q ⟨ρ, st, μ, e, s, h⟩ => ?_
  simp only [evX, Mt.muts, if_true] at h
  refine ⟨ρ, st, μ, e, s, h.bind.imp fun wa st1 H1 μ1 s1 r1 h1 v hv => ?_⟩
  obtain ⟨n, hn, h2⟩ := h1.liftB
  cases wa with
  | ref m =>
    obtain rfl : m = n := Option.some.inj hn
    obtain ⟨c, ad, q1, q2, q3, q4, h3⟩ := cell_ok r1 h2
    obtain ⟨p, ep, rfl⟩ := hv
    rw [q3] at ep; cases ep
    obtain ⟨ds, xs, rfl, hH, hr⟩ := lst_cell q4 q2
    refine ⟨.inl ⟨rfl, xs, .inl (.inl hH)⟩, ρ, st1, μ1, e.stp s1, r1, ?_⟩
    simp only [evXs] at h3
    rw [m_assoc] at h3
    refine h3.bind.imp fun w st2 H2 μ2 s2 r2 h4 y hy => ?_
    have h5 : Aft (kw X) cA Wx H2 μ2 (match st2[m]?.bind fun c => mtC .append c [w] with | some (w, c) => Res.ok w (st2.set m c) | none => Res.stuck) _ := h4
    obtain ⟨ν, rfl, _⟩ := s2.more
    have q3' : (μ1 ++ ν)[m]? = some ad := by rw [List.getElem?_append_left (List.getElem?_eq_some_iff.mp q3).1]; exact q3
    obtain ⟨c2, q5, q6⟩ := r2.cell q3'
    rw [q5] at h5
    simp only [Option.bind_some] at h5
    cases c2 with
    | dic _ _ => exact h5.elim
    | lst ds2 =>
      obtain ⟨xs2, hH2, hr2⟩ := q6
      cases w with
      | dat d =>
        simp only [mtC] at h5
        by_cases z : ds2.length < bigLine
        · simp only [z, if_true] at h5
          refine ⟨ad, xs2, y, rfl, rfl, hH2, by rw [hr2.length]; exact z, ?_⟩
          have stp := Stp.write (o := .lst (xs2 ++ [y])) r2 (List.mem_of_getElem? q3')
          exact h5 _ _ stp (r2.put q3' ⟨_, upd_same, (Rps.ext stp.ext _ _ hr2).append (Rps.one (Rp.ext stp.ext _ _ hy))⟩) _ rfl
        · simp only [z, if_false] at h5; exact h5.elim
      | _ => exact h5.elim
  | _ => cases hn
/-- xs.pop() -/
theorem pX_pop0 {cpos : Pos} (ho : PE X o (TX C cA X Wx xo)) (hbase : attributeBase o "pop" X.env (eval o X.env) = eval o X.env) (hline : (apos.endLine == cpos.line) = true) :
    PE X (.Call (.Attribute o "pop" apos) [] [] cpos) (TX C cA X Wx (.mt .pop xo .nil)) := by
  refine pe_imp (pe_bm0 PySem.F.plainAttrs_list PySem.F.slot_list_pop PySem.F.type_list_pop mt_pop ho hbase hline) fun σ H Q ⟨ρ, st, μ, e, s, h⟩ => ?_
  simp only [evX, Mt.muts, if_true] at h
  refine ⟨ρ, st, μ, e, s, h.bind.imp fun wa st1 H1 μ1 s1 r1 h1 v hv => ?_⟩
  obtain ⟨n, hn, h2⟩ := h1.liftB
  cases wa with
  | ref m =>
    obtain rfl : m = n := Option.some.inj hn
    obtain ⟨c, ad, q1, q2, q3, q4, h3⟩ := cell_ok r1 h2
    obtain ⟨p, ep, rfl⟩ := hv
    rw [q3] at ep; cases ep
    obtain ⟨ds, xs, rfl, hH, hr⟩ := lst_cell q4 q2
    refine ⟨.inl ⟨rfl, xs, .inl (.inl hH)⟩, ?_⟩
    simp only [evXs] at h3
    have h5 : Aft (kw X) cA Wx H1 μ1 (match st1[m]?.bind fun c => mtC .pop c [] with | some (w, c) => Res.ok w (st1.set m c) | none => Res.stuck) _ := h3
    rw [q1] at h5
    simp only [Option.bind_some, mtC] at h5
    cases q : ds.getLast? with
    | none => rw [q] at h5; exact h5.elim
    | some d =>
      rw [q] at h5
      simp only [Option.map_some] at h5
      rw [List.getLast?_eq_getElem?] at q
      obtain ⟨y, q7, hy⟩ := hr.get' q
      refine ⟨ad, xs, y, rfl, rfl, hH, by rw [hr.length]; exact q7, ?_⟩
      have stp := Stp.write (o := .lst xs.dropLast) r1 (List.mem_of_getElem? q3)
      exact h5 _ _ stp (r1.put q3 ⟨_, upd_same, Rps.ext stp.ext _ _ hr.dropLast⟩) _ (Rp.ext stp.ext _ _ hy)
  | _ => cases hn
theorem mt_popAt2 : MtM X "list.pop" (fun x vs H Q => ∃ l xs i k y, x = .ref l ∧ vs = [.int i] ∧ H l = some (.lst xs) ∧ -(xs.length : Int) ≤ i ∧ i < xs.length ∧ seqIndex? i xs.length = some k ∧ xs[k]? = some y ∧ Q y (upd H l (.lst (xs.eraseIdx k)))) := by
  intro pins s σ H x vs v us Q I rx rv h
  obtain ⟨l, xs, i, k, y, rfl, rfl, hH, h1, h2, hk, hy, q⟩ := h
  obtain ⟨z, _⟩ := I.lstM hH
  rw [sizeLine_eq] at z
  exact mt_popAt pins s σ H _ _ v us Q I rx rv ⟨l, xs, i, k, y, rfl, rfl, hH, by omega, by omega, hk, hy, q⟩
/-- xs.pop(i) -/
theorem pX_pop1 {cpos : Pos} (ho : PE X o (TX C cA X Wx xo)) (he : PE X e (TX C cA X Wx xe)) (hbase : attributeBase o "pop" X.env (eval o X.env) = eval o X.env) (hline : (apos.endLine == cpos.line) = true)
    (hs : starEach [e] X.env = (false, eval e X.env) :: starEach [] X.env) : PE X (.Call (.Attribute o "pop" apos) [e] [] cpos) (TX C cA X Wx (.mt .pop xo (.cons xe .nil))) := by
  refine pe_imp (pe_bm PySem.F.plainAttrs_list PySem.F.slot_list_pop PySem.F.type_list_pop mt_popAt2 ho (pa_cons he pa_nil hs) hbase (by rw [hs]; rfl) hline hs rfl) fun σ H Q ⟨ρ, st, μ, e, s, h⟩ => ?_
  simp only [evX, Mt.muts, if_true] at h
  refine ⟨ρ, st, μ, e, s, h.bind.imp fun wa st1 H1 μ1 s1 r1 h1 v hv => ?_⟩
  obtain ⟨n, hn, h2⟩ := h1.liftB
  cases wa with
  | ref m =>
    obtain rfl : m = n := Option.some.inj hn
    obtain ⟨c, ad, q1, q2, q3, q4, h3⟩ := cell_ok r1 h2
    obtain ⟨p, ep, rfl⟩ := hv
    rw [q3] at ep; cases ep
    obtain ⟨ds, xs, rfl, hH, hr⟩ := lst_cell q4 q2
    refine ⟨.inl ⟨rfl, xs, .inl (.inl hH)⟩, ρ, st1, μ1, e.stp s1, r1, ?_⟩
    simp only [evXs] at h3
    rw [m_assoc] at h3
    refine h3.bind.imp fun w st2 H2 μ2 s2 r2 h4 y hy => ?_
    have h5 : Aft (kw X) cA Wx H2 μ2 (match st2[m]?.bind fun c => mtC .pop c [w] with | some (w, c) => Res.ok w (st2.set m c) | none => Res.stuck) _ := h4
    obtain ⟨ν, rfl, _⟩ := s2.more
    have q3' : (μ1 ++ ν)[m]? = some ad := by rw [List.getElem?_append_left (List.getElem?_eq_some_iff.mp q3).1]; exact q3
    obtain ⟨c2, q5, q6⟩ := r2.cell q3'
    rw [q5] at h5
    simp only [Option.bind_some] at h5
    cases c2 with
    | dic _ _ => exact h5.elim
    | lst ds2 =>
      obtain ⟨xs2, hH2, hr2⟩ := q6
      cases w with
      | dat d =>
        cases d with
        | int i =>
          simp only [mtC] at h5
          cases q8 : atN ds2.length i with
          | none => rw [q8] at h5; exact h5.elim
          | some j =>
            rw [q8] at h5
            simp only [Option.bind_some] at h5
            cases q9 : ds2[j]? with
            | none => rw [q9] at h5; exact h5.elim
            | some d =>
              rw [q9] at h5
              simp only [Option.map_some] at h5
              obtain ⟨z, q10, hz⟩ := hr2.get' q9
              have q11 : atI xs2 i = some z := by
                unfold atI
                rw [hr2.length, ← atN_ixN, q8]
                exact q10
              obtain ⟨j', k1, k2, k3, k4, k5⟩ := atI_get q11
              have ej : j' = j := by
                have : xs2.length = ds2.length := hr2.length
                unfold atN at q8
                rw [this] at k1 k4 k5
                by_cases h0 : 0 ≤ i
                · rw [if_pos h0, if_pos k5] at q8
                  rw [seqIndex_of h0 k5] at k1
                  exact (Option.some.inj k1).symm.trans (Option.some.inj q8)
                · rw [if_neg h0, if_pos k4] at q8
                  rw [seqIndex_neg (by omega) k4] at k1
                  exact (Option.some.inj k1).symm.trans (Option.some.inj q8)
              subst ej
              refine ⟨ad, xs2, i, j', z, rfl, by rw [show y = V.int i from hy], hH2, k4, k5, k1, k2, ?_⟩
              have stp := Stp.write (o := .lst (xs2.eraseIdx j')) r2 (List.mem_of_getElem? q3')
              exact h5 _ _ stp (r2.put q3' ⟨_, upd_same, Rps.ext stp.ext _ _ (hr2.eraseIdx j')⟩) _ (Rp.ext stp.ext _ _ hz)
        | _ => exact h5.elim
      | _ => exact h5.elim
  | _ => cases hn
end

/-! ### what is walked -/
/-- a walk that gives the items ws one by one, while the cell n (if any) stays: from the heap H1 on -/
structure WOk (K : KW) (H1 : Hp) (μ1 : List Addr) (st1 : Store) (J : It) (ws : List W) (n : Option Nat) : Prop where
  self : stays n st1 st1 = true
  goes : ∀ i H μ st, Stp H1 μ1 H μ → StR K H st μ → stays n st1 st = true → i < ws.length → J.go i H
  stops : ∀ H μ st, Stp H1 μ1 H μ → StR K H st μ → stays n st1 st = true → J.stop ws.length H
  yields : ∀ i x H H' μ st, Stp H1 μ1 H μ → StR K H st μ → stays n st1 st = true → i < ws.length → J.yld i H x H' → Keep H H' ∧ ∃ w, ws[i]? = some w ∧ RW K H' μ w x
def tIt (K : KW) (cA : Nat → Addr) (Wx : Value → Option Addr → Hp → Prop) (m : Env → M (List W × Option Nat)) : TI := fun σ H R => ∃ ρ st μ, EnvR K H μ ρ σ ∧ StR K H st μ ∧ Aft K cA Wx H μ (m ρ st) fun p st1 H1 μ1 => ∀ J, WOk K H1 μ1 st1 J p.1 p.2 → R J H1
section
variable {K : KW} {H1 : Hp} {μ1 : List Addr} {st1 : Store}
theorem Stp.frz {H : Hp} {μ : List Addr} (s : Stp H1 μ1 H μ) {a : Addr} {o : Obj} {u : HO} (h : H1 a = some (.frz o u)) : H a = some (.frz o u) := s.ext a _ h (.inr fun z => z)
theorem wok_lst {a : Addr} {o : Obj} {ds : List D} {xs : List V} (h : H1 a = some (.frz o (.lst xs))) (hr : Rps K H1 ds xs) : WOk K H1 μ1 st1 (Itl K a) (ds.map .dat) none where
  self := rfl
  goes i H μ st s r _ hi := by
    rw [List.length_map] at hi
    obtain ⟨x, e, _⟩ := hr.get' (List.getElem?_eq_getElem hi)
    exact ⟨xs, x, .inl (.inr ⟨o, s.frz h⟩), e⟩
  stops H μ st s r _ := ⟨xs, .inl (.inr ⟨o, s.frz h⟩), by rw [List.length_map, hr.length]; exact Nat.le_refl _⟩
  yields i x H H' μ st s r _ hi hy := by
    obtain ⟨rfl, hy⟩ := hy
    have e := hy xs (.inl (.inr ⟨o, s.frz h⟩))
    obtain ⟨d, e2, hd⟩ := hr.get e
    exact ⟨.refl, .dat d, by rw [List.getElem?_map, e2]; rfl, Rp.ext s.ext _ _ hd⟩
theorem wok_tup {a : Addr} {ds : List D} {xs : List V} (h : SqT K H1 a xs) (hr : Rps K H1 ds xs) : WOk K H1 μ1 st1 (Itt K a) (ds.map .dat) none where
  self := rfl
  goes i H μ st s r _ hi := by
    rw [List.length_map] at hi
    obtain ⟨x, e, _⟩ := hr.get' (List.getElem?_eq_getElem hi)
    exact ⟨xs, x, SqT.ext s.ext h, e⟩
  stops H μ st s r _ := ⟨xs, SqT.ext s.ext h, by rw [List.length_map, hr.length]; exact Nat.le_refl _⟩
  yields i x H H' μ st s r _ hi hy := by
    obtain ⟨rfl, hy⟩ := hy
    have e := hy xs (SqT.ext s.ext h)
    obtain ⟨d, e2, hd⟩ := hr.get e
    exact ⟨.refl, .dat d, by rw [List.getElem?_map, e2]; rfl, Rp.ext s.ext _ _ hd⟩
theorem sameD_eq : ∀ a b : D, sameD a b = true → a = b := by
  intro a
  induction a using D.rec (motive_2 := fun xs => ∀ ys, sameDs xs ys = true → xs = ys) with
  | non => intro b h; cases b <;> simp [sameD] at h ⊢
  | bl x => intro b h; cases b <;> simp [sameD] at h ⊢; exact h
  | int x => intro b h; cases b <;> simp [sameD] at h ⊢; exact h
  | str x => intro b h; cases b <;> simp [sameD] at h ⊢; exact h
  | tup xs ih => intro b h; cases b <;> simp [sameD] at h ⊢; exact ih _ h
  | lst xs ih => intro b h; cases b <;> simp [sameD] at h ⊢; exact ih _ h
  | nil => rename_i ys h; cases ys <;> simp [sameDs] at h ⊢
  | cons x xs ih1 ih2 =>
    rename_i ys h
    cases ys with
    | nil => simp [sameDs] at h
    | cons y ys =>
      simp only [sameDs, Bool.and_eq_true] at h
      rw [ih1 _ h.1, ih2 _ h.2]
theorem sameDs_eq : ∀ a b : List D, sameDs a b = true → a = b
  | [], [], _ => rfl
  | [], _ :: _, h => by cases h
  | _ :: _, [], h => by cases h
  | x :: xs, y :: ys, h => by
    simp only [sameDs, Bool.and_eq_true] at h
    rw [sameD_eq x y h.1, sameDs_eq xs ys h.2]
mutual
theorem sameD_refl : ∀ d : D, sameD d d = true
  | .non => rfl
  | .bl b => by simp [sameD]
  | .int b => by simp [sameD]
  | .str b => by simp [sameD]
  | .tup xs => by simp only [sameD]; exact sameDs_refl xs
  | .lst xs => by simp only [sameD]; exact sameDs_refl xs
theorem sameDs_refl : ∀ d : List D, sameDs d d = true
  | [] => rfl
  | x :: xs => by simp only [sameDs, sameD_refl x, sameDs_refl xs]; rfl
end
theorem wok_ref {a : Addr} {n : Nat} {ds : List D} (hn : st1[n]? = some (.lst ds)) (hm : μ1[n]? = some a) : WOk K H1 μ1 st1 (Itl K a) (ds.map .dat) (some n) := by
  have key : ∀ H μ st, Stp H1 μ1 H μ → StR K H st μ → stays (some n) st1 st = true → ∃ xs, H a = some (.lst xs) ∧ Rps K H ds xs := fun H μ st s r hs => by
    obtain ⟨ν, rfl, _⟩ := s.more
    have hm' : (μ1 ++ ν)[n]? = some a := by rw [List.getElem?_append_left (List.getElem?_eq_some_iff.mp hm).1]; exact hm
    obtain ⟨c, e, q⟩ := r.cell hm'
    simp only [stays, hn, e] at hs
    cases c with
    | lst es =>
      have := sameDs_eq _ _ hs
      subst this
      exact q
    | dic _ _ => cases hs
  refine ⟨by simp only [stays, hn, sameCell]; exact sameDs_refl ds, fun i H μ st s r hs hi => ?_, fun H μ st s r hs => ?_, fun i x H H' μ st s r hs hi hy => ?_⟩
  · obtain ⟨xs, h1, h2⟩ := key H μ st s r hs
    rw [List.length_map] at hi
    obtain ⟨x, e, _⟩ := h2.get' (List.getElem?_eq_getElem hi)
    exact ⟨xs, x, .inl (.inl h1), e⟩
  · obtain ⟨xs, h1, h2⟩ := key H μ st s r hs
    exact ⟨xs, .inl (.inl h1), by rw [List.length_map, h2.length]; exact Nat.le_refl _⟩
  · obtain ⟨xs, h1, h2⟩ := key H μ st s r hs
    obtain ⟨rfl, hy⟩ := hy
    have e := hy xs (.inl (.inl h1))
    obtain ⟨d, e2, hd⟩ := h2.get e
    exact ⟨.refl, .dat d, by rw [List.getElem?_map, e2]; rfl, hd⟩
theorem wok_str {z : Str} : WOk K H1 μ1 st1 (Its z) (z.cps.toList.map fun c => .dat (.str ⟨#[c]⟩)) none where
  self := rfl
  goes i H μ st s r _ hi := by
    show i < z.cps.size
    simpa using hi
  stops H μ st s r _ := by
    show z.cps.size ≤ _
    simp
  yields i x H H' μ st s r _ hi hy := by
    obtain ⟨rfl, c, e, rfl⟩ := hy
    exact ⟨.refl, .dat (.str ⟨#[c]⟩), by rw [List.getElem?_map, Array.getElem?_toList, e]; rfl, rfl⟩
theorem wok_rng {lo : Int} {n : Nat} : WOk K H1 μ1 st1 (Itr lo n) (rangeL lo n) none where
  self := rfl
  goes i H μ st s r _ hi := by
    show i < n
    simpa [rangeL] using hi
  stops H μ st s r _ := by
    show n ≤ _
    simp [rangeL]
  yields i x H H' μ st s r _ hi hy := by
    obtain ⟨rfl, rfl⟩ := hy
    have hi : i < n := by simpa [rangeL] using hi
    exact ⟨.refl, .dat (.int (lo + i)), by simp [rangeL, hi], rfl⟩
end
section
variable {C : Nat → List W → M W} {cA : Nat → Addr} {X : Cx} {Wx : Value → Option Addr → Hp → Prop} {a b c e o tg : Expr} {pos apos : Pos} {xa xb xc xe xo : Ex} {rest : List Expr}
abbrev TIt (C : Nat → List W → M W) (cA : Nat → Addr) (X : Cx) (Wx : Value → Option Addr → Hp → Prop) (it : Wk) : TI := tIt (kw X) cA Wx (evIt C it)
/-- an expression, its end known by the evaluator -/
theorem tx_at {ρ : Env} {st : Store} {μ : List Addr} {σ : L2.St} {H : Hp} {Q : VK} {α : Type} {f : W → M α} {P : α → Store → Hp → List Addr → Prop} (e : EnvR (kw X) H μ ρ σ) (s : StR (kw X) H st μ) (h : Aft (kw X) cA Wx H μ ((evX C xe ρ >>= f) st) P)
    (q : ∀ w st1, evX C xe ρ st = .ok w st1 → ∀ H1 μ1, Stp H μ H1 μ1 → StR (kw X) H1 st1 μ1 → Aft (kw X) cA Wx H1 μ1 (f w st1) P → ∀ v, RW (kw X) H1 μ1 w v → Q v H1) : TX C cA X Wx xe σ H Q := by
  refine ⟨ρ, st, μ, e, s, ?_⟩
  have hb := h.bind
  cases z : evX C xe ρ st with
  | ok w st1 => rw [z] at hb; exact fun H1 μ1 s1 r1 v hv => q w st1 z H1 μ1 s1 r1 (hb H1 μ1 s1 r1) v hv
  | exn x st1 => rw [z] at hb; exact hb
  | stuck => rw [z] at hb; exact hb
theorem pI_sq (he : PE X e (TX C cA X Wx xe)) : PI X tg e (TIt C cA X Wx (.sq xe)) := by
  refine ⟨fun pins s σ H R I ⟨ρ, st, μ, en, sr, h⟩ => ?_⟩
  simp only [evIt] at h
  cases z : evX C xe ρ st with
  | stuck => rw [bind_eq, z] at h; exact h.elim
  | exn x st1 =>
    refine (pi_list he).run pins s σ H R I ?_
    exact tx_at en sr h fun w st1 z2 => by rw [z] at z2; cases z2
  | ok w st1 =>
    have key : ∀ {Q : VK}, (∀ H1 μ1, StR (kw X) H1 st1 μ1 → Aft (kw X) cA Wx H1 μ1 ((lift (items (vw w st1)) >>= fun ws => pure (ws, refOf w)) st1) (fun p st1 H1 μ1 => ∀ J, WOk (kw X) H1 μ1 st1 J p.1 p.2 → R J H1) → ∀ v, RW (kw X) H1 μ1 w v → Q v H1) → TX C cA X Wx xe σ H Q := fun q =>
      tx_at en sr h fun w' st1' z2 H1 μ1 s1 r1 h1 v hv => by rw [z] at z2; cases z2; exact q H1 μ1 r1 h1 v hv
    cases w with
    | dat d =>
      cases d with
      | lst ds =>
        refine (pi_list he).run pins s σ H R I (key fun H1 μ1 r1 h1 v hv => ?_)
        obtain ⟨a, o, xs, rfl, ht, hr⟩ := hv
        exact ⟨a, rfl, ⟨xs, .inl (.inr ⟨o, ht⟩)⟩, h1.ok r1 _ (wok_lst ht hr)⟩
      | tup ds =>
        refine (pi_tup he).run pins s σ H R I (key fun H1 μ1 r1 h1 v hv => ?_)
        obtain ⟨a, xs, rfl, ht, hr⟩ := hv
        exact ⟨a, rfl, ⟨xs, ht.sq⟩, h1.ok r1 _ (wok_tup ht.sq hr)⟩
      | str t =>
        refine (pi_str he).run pins s σ H R I (key fun H1 μ1 r1 h1 v hv => ?_)
        exact ⟨t, hv, h1.ok r1 _ wok_str⟩
      | _ => exact (pi_list he).run pins s σ H R I (key fun H1 μ1 r1 h1 v hv => h1.elim)
    | fdi t kvs => exact (pi_list he).run pins s σ H R I (key fun H1 μ1 r1 h1 v hv => h1.elim)
    | tup ws => exact (pi_list he).run pins s σ H R I (key fun H1 μ1 r1 h1 v hv => h1.elim)
    | scr ws => exact (pi_list he).run pins s σ H R I (key fun H1 μ1 r1 h1 v hv => h1.elim)
    | ref n =>
      refine (pi_list he).run pins s σ H R I (key fun H1 μ1 r1 h1 v hv => ?_)
      obtain ⟨a, em, rfl⟩ := hv
      obtain ⟨c, ec, q⟩ := r1.cell em
      cases c with
      | dic t kvs =>
        have hv : vw (.ref n) st1 = .fdi t kvs := by simp only [vw, ec]
        rw [hv] at h1
        exact h1.elim
      | lst ds =>
        obtain ⟨xs, hH, hr⟩ := q
        have hv : vw (.ref n) st1 = .dat (.lst ds) := by simp only [vw, ec]
        rw [hv] at h1
        exact ⟨a, rfl, ⟨xs, .inl (.inl hH)⟩, h1.ok r1 _ (wok_ref ec em)⟩
theorem okR_iff {i : Int} (h : okR i = true) : -(2 ^ 62) ≤ i ∧ i < 2 ^ 62 := by simpa [okR] using h
theorem pI_r1 {p : Pos} (hg : Gl X "range") (hm : X.mg "range" = none) (ha : PE X a (TX C cA X Wx xa)) (hs : starEach [a] X.env = [(false, eval a X.env)]) : PI X tg (.Call (.Name "range" p) [a] [] pos) (TIt C cA X Wx (.r1 xa)) := by
  refine ⟨fun pins s σ H R I ⟨ρ, st, μ, en, sr, h⟩ => (pi_range1 hg hm (pa_cons ha pa_nil hs) hs).run pins s σ H R I ?_⟩
  simp only [evIt] at h
  refine tx_at en sr h fun w st1 _ H1 μ1 _ r1 h1 v hv => ?_
  cases w with
  | dat d =>
    cases d with
    | int j =>
      by_cases z : okR j = true
      · simp only [z, if_true] at h1
        cases hv
        exact ⟨j, rfl, (okR_iff z).1, (okR_iff z).2, h1.ok r1 _ wok_rng⟩
      · simp only [z] at h1; exact h1.elim
    | _ => exact h1.elim
  | _ => exact h1.elim
theorem pI_r2 {p : Pos} (hg : Gl X "range") (hm : X.mg "range" = none) (ha : PE X a (TX C cA X Wx xa)) (hb : PE X b (TX C cA X Wx xb)) (hs : starEach [a, b] X.env = [(false, eval a X.env), (false, eval b X.env)]) (hs2 : starEach [b] X.env = [(false, eval b X.env)]) :
    PI X tg (.Call (.Name "range" p) [a, b] [] pos) (TIt C cA X Wx (.r2 xa xb)) := by
  refine ⟨fun pins s σ H R I ⟨ρ, st, μ, en, sr, h⟩ => (pi_range2 hg hm (pa_cons ha (pa_cons hb pa_nil hs2) (by rw [hs, hs2])) hs hs2).run pins s σ H R I ?_⟩
  simp only [evIt] at h
  refine tx_at en sr h fun w st1 _ H1 μ1 s1 r1 h1 v hv => ?_
  cases w with
  | dat d =>
    cases d with
    | int i =>
      refine tx_at (en.stp s1) r1 h1 fun w2 st2 _ H2 μ2 s2 r2 h2 u hu => ?_
      cases w2 with
      | dat d2 =>
        cases d2 with
        | int j =>
          by_cases z : (okR i && okR j) = true
          · simp only [z, if_true] at h2
            cases hv
            cases hu
            simp only [Bool.and_eq_true] at z
            exact ⟨i, j, rfl, ⟨(okR_iff z.1).1, (okR_iff z.1).2, (okR_iff z.2).1, (okR_iff z.2).2⟩, h2.ok r2 _ wok_rng⟩
          · simp only [z] at h2; exact h2.elim
        | _ => exact h2.elim
      | _ => exact h2.elim
    | _ => exact h1.elim
  | _ => exact h1.elim

theorem zipW_get : ∀ (as bs : List W) (i : Nat) (a b : W), as[i]? = some a → bs[i]? = some b → (zipW as bs)[i]? = some (.tup [a, b])
  | [], _, _, _, _, h, _ => by simp at h
  | _ :: _, [], _, _, _, _, h => by simp at h
  | x :: as, y :: bs, 0, a, b, h, h' => by simp at h h'; subst h h'; rfl
  | x :: as, y :: bs, i + 1, a, b, h, h' => by
    simp only [zipW]
    simpa using zipW_get as bs i a b (by simpa using h) (by simpa using h')
theorem zipW_len : ∀ (as bs : List W), (zipW as bs).length = min as.length bs.length
  | [], _ => by simp [zipW]
  | _ :: _, [] => by simp [zipW]
  | x :: as, y :: bs => by simp only [zipW, List.length_cons, zipW_len as bs]; omega
theorem enumW_get : ∀ (as : List W) (n i : Nat) (a : W), as[i]? = some a → (enumW n as)[i]? = some (.tup [.dat (.int ((n + i : Nat) : Int)), a])
  | [], _, _, _, h => by simp at h
  | x :: as, n, 0, a, h => by simp at h; subst h; rfl
  | x :: as, n, i + 1, a, h => by
    simp only [enumW]
    rw [List.getElem?_cons_succ, enumW_get as (n + 1) i a (by simpa using h)]
    have : n + 1 + i = n + (i + 1) := by omega
    rw [this]
theorem enumW_len : ∀ (as : List W) (n : Nat), (enumW n as).length = as.length
  | [], _ => rfl
  | x :: as, n => by simp only [enumW, List.length_cons, enumW_len as (n + 1)]
section
variable {K : KW} {H1 : Hp} {μ1 : List Addr} {st1 : Store}
theorem pair_new {H : Hp} {μ : List Addr} {T : Addr} {x y : V} {wx wy : W} (hT : H T = none) (hx : RW K H μ wx x) (hy : RW K H μ wy y) : Keep H (upd H T (.tup [x, y])) ∧ RW K (upd H T (.tup [x, y])) μ (.tup [wx, wy]) (.ref T) := by
  have k : Keep H (upd H T (.tup [x, y])) := Keep.upd hT
  have s : Stp H μ (upd H T (.tup [x, y])) μ := .keep k
  exact ⟨k, T, [x, y], rfl, .inl (.inl upd_same), x, [y], rfl, RW.stp s _ _ hx, y, [], rfl, RW.stp s _ _ hy, rfl⟩
theorem wok_zipT {a b : Addr} {ds es : List D} {xs ys : List V} (h : SqT K H1 a xs) (h' : SqT K H1 b ys) (hr : Rps K H1 ds xs) (hr' : Rps K H1 es ys) : WOk K H1 μ1 st1 (RZ.ItzT K a b) (zipW (ds.map .dat) (es.map .dat)) none where
  self := rfl
  goes i H μ st s r _ hi := by
    rw [zipW_len, List.length_map, List.length_map] at hi
    obtain ⟨x, e, _⟩ := hr.get' (List.getElem?_eq_getElem (show i < ds.length by omega))
    obtain ⟨y, e', _⟩ := hr'.get' (List.getElem?_eq_getElem (show i < es.length by omega))
    exact ⟨xs, ys, x, y, SqT.ext s.ext h, SqT.ext s.ext h', e, e'⟩
  stops H μ st s r _ := ⟨xs, ys, SqT.ext s.ext h, SqT.ext s.ext h', by rw [zipW_len, List.length_map, List.length_map, hr.length, hr'.length]; omega⟩
  yields i v H H' μ st s r _ hi hy := by
    obtain ⟨T, x, y, rfl, hT, rfl, h1, h2⟩ := hy
    obtain ⟨d, e1, hd⟩ := hr.get (h1 xs (SqT.ext s.ext h))
    obtain ⟨d', e2, hd'⟩ := hr'.get (h2 ys (SqT.ext s.ext h'))
    obtain ⟨k, q⟩ := pair_new (μ := μ) hT (wx := .dat d) (wy := .dat d') (Rp.ext s.ext _ _ hd) (Rp.ext s.ext _ _ hd')
    exact ⟨k, _, zipW_get _ _ _ _ _ (by rw [List.getElem?_map, e1]; rfl) (by rw [List.getElem?_map, e2]; rfl), q⟩
theorem wok_zipL {a b : Addr} {o o' : Obj} {ds es : List D} {xs ys : List V} (h : H1 a = some (.frz o (.lst xs))) (h' : H1 b = some (.frz o' (.lst ys))) (hr : Rps K H1 ds xs) (hr' : Rps K H1 es ys) : WOk K H1 μ1 st1 (Itz K a b) (zipW (ds.map .dat) (es.map .dat)) none where
  self := rfl
  goes i H μ st s r _ hi := by
    rw [zipW_len, List.length_map, List.length_map] at hi
    obtain ⟨x, e, _⟩ := hr.get' (List.getElem?_eq_getElem (show i < ds.length by omega))
    obtain ⟨y, e', _⟩ := hr'.get' (List.getElem?_eq_getElem (show i < es.length by omega))
    exact ⟨xs, ys, x, y, .inl (.inr ⟨o, s.frz h⟩), .inl (.inr ⟨o', s.frz h'⟩), e, e'⟩
  stops H μ st s r _ := ⟨xs, ys, .inl (.inr ⟨o, s.frz h⟩), .inl (.inr ⟨o', s.frz h'⟩), by rw [zipW_len, List.length_map, List.length_map, hr.length, hr'.length]; omega⟩
  yields i v H H' μ st s r _ hi hy := by
    obtain ⟨T, x, y, rfl, hT, rfl, h1, h2⟩ := hy
    obtain ⟨d, e1, hd⟩ := hr.get (h1 xs (.inl (.inr ⟨o, s.frz h⟩)))
    obtain ⟨d', e2, hd'⟩ := hr'.get (h2 ys (.inl (.inr ⟨o', s.frz h'⟩)))
    obtain ⟨k, q⟩ := pair_new (μ := μ) hT (wx := .dat d) (wy := .dat d') (Rp.ext s.ext _ _ hd) (Rp.ext s.ext _ _ hd')
    exact ⟨k, _, zipW_get _ _ _ _ _ (by rw [List.getElem?_map, e1]; rfl) (by rw [List.getElem?_map, e2]; rfl), q⟩
/-- an enumeration over a walk of a list -/
theorem wok_enum {a : Addr} {ds : List D} {n : Option Nat} (w : WOk K H1 μ1 st1 (Itl K a) (ds.map .dat) n) : WOk K H1 μ1 st1 (Ite K a) (enumW 0 (ds.map .dat)) n where
  self := w.self
  goes i H μ st s r hs hi := by
    rw [enumW_len] at hi
    exact w.goes i H μ st s r hs hi
  stops H μ st s r hs := by
    rw [enumW_len]
    exact w.stops H μ st s r hs
  yields i v H H' μ st s r hs hi hy := by
    rw [enumW_len] at hi
    obtain ⟨T, x, rfl, hT, rfl, h1⟩ := hy
    obtain ⟨_, d, e1, hd⟩ := w.yields i x H H μ st s r hs hi ⟨rfl, h1⟩
    obtain ⟨k, q⟩ := pair_new (μ := μ) hT (wx := .dat (.int ((0 + i : Nat) : Int))) (wy := d) (x := .int (i : Nat)) (by show V.int (i : Nat) = V.int ((0 + i : Nat) : Int); rw [Nat.zero_add]) hd
    exact ⟨k, _, enumW_get _ _ _ _ e1, q⟩
theorem wok_rngC {lo : Int} {n : Nat} : WOk K H1 μ1 st1 (Itc lo (-1) n) (rangeC lo (-1) n) none where
  self := rfl
  goes i H μ st s r _ hi := by
    show i < n
    simpa [rangeC] using hi
  stops H μ st s r _ := by
    show n ≤ _
    simp [rangeC]
  yields i x H H' μ st s r _ hi hy := by
    obtain ⟨rfl, rfl⟩ := hy
    have hi : i < n := by simpa [rangeC] using hi
    exact ⟨.refl, .dat (.int (lo + (i : Nat) * (-1))), by simp [rangeC, hi], rfl⟩
end
theorem pI_r3 {p : Pos} (hg : Gl X "range") (hm : X.mg "range" = none) (ha : PE X a (TX C cA X Wx xa)) (hb : PE X b (TX C cA X Wx xb)) (hc : PE X c (TX C cA X Wx xc)) (hs : starEach [a, b, c] X.env = (false, eval a X.env) :: starEach [b, c] X.env) (hs1 : starEach [b, c] X.env = (false, eval b X.env) :: starEach [c] X.env)
    (hs2 : starEach [c] X.env = (false, eval c X.env) :: starEach [] X.env) (hpl : (backTo pos (starEach [b, c] X.env)).any (·.1) = false) :
    PI X tg (.Call (.Name "range" p) [a, b, c] [] pos) (TIt C cA X Wx (.r3 xa xb xc)) := by
  refine ⟨fun pins s σ H R I ⟨ρ, st, μ, en, sr, h⟩ => (pi_range3 hg hm (pa_cons ha (pa_cons hb (pa_cons hc pa_nil hs2) hs1) hs) hs hpl).run pins s σ H R I ?_⟩
  simp only [evIt] at h
  refine tx_at en sr h fun w st1 _ H1 μ1 s1 r1 h1 v hv => ?_
  cases w with
  | dat d =>
    cases d with
    | int i =>
      refine tx_at (en.stp s1) r1 h1 fun w2 st2 _ H2 μ2 s2 r2 h2 u hu => ?_
      cases w2 with
      | dat d2 =>
        cases d2 with
        | int j =>
          refine tx_at (en.stp (s1.trans s2)) r2 h2 fun w3 st3 _ H3 μ3 s3 r3 h3 y hy => ?_
          cases w3 with
          | dat d3 =>
            cases d3 with
            | int c =>
              by_cases z : (okR i && okR j && c == -1) = true
              · simp only [z, if_true] at h3
                cases hv
                cases hu
                cases hy
                simp only [Bool.and_eq_true, beq_iff_eq] at z
                obtain ⟨⟨z1, z2⟩, rfl⟩ := z
                exact ⟨i, j, -1, (i - j).toNat, rfl, RgC.neg (okR_iff z1).1 (okR_iff z1).2 (okR_iff z2).1 (okR_iff z2).2, h3.ok r3 _ wok_rngC⟩
              · simp only [z] at h3; exact h3.elim
            | _ => exact h3.elim
          | _ => exact h3.elim
        | _ => exact h2.elim
      | _ => exact h2.elim
    | _ => exact h1.elim
  | _ => exact h1.elim
theorem pI_zp {p tpos : Pos} {elts : List Expr} {kk : Nat} (hg : Gl X "zip") (hm : X.mg "zip" = none) (ha : PE X a (TX C cA X Wx xa)) (hb : PE X b (TX C cA X Wx xb)) (hs : starEach [a, b] X.env = (false, eval a X.env) :: starEach [b] X.env)
    (hs2 : starEach [b] X.env = (false, eval b X.env) :: starEach [] X.env) (hpl : (backTo pos (starEach [b] X.env)).any (·.1) = false) : PI X (.Tuple elts kk tpos) (.Call (.Name "zip" p) [a, b] [] pos) (TIt C cA X Wx (.zp xa xb)) := by
  refine ⟨fun pins s σ H R I ⟨ρ, st, μ, en, sr, h⟩ => (RZ.pi_zipA hg hm (pa_cons ha (pa_cons hb pa_nil hs2) hs) hs hpl).run pins s σ H R I ?_⟩
  simp only [evIt] at h
  refine tx_at en sr h fun w st1 _ H1 μ1 s1 r1 h1 v hv => ?_
  refine tx_at (en.stp s1) r1 h1 fun w2 st2 _ H2 μ2 s2 r2 h2 u hu => ?_
  have hv := RW.stp s2 _ _ hv
  cases w with
  | dat d =>
    cases w2 with
    | dat d2 =>
      cases d with
      | tup ds =>
        cases d2 with
        | tup es =>
          obtain ⟨a, xs, rfl, ht, hr⟩ := hv
          obtain ⟨b, ys, rfl, ht', hr'⟩ := hu
          exact ⟨a, b, xs, ys, rfl, .inr ⟨ht.sq, ht'.sq, h2.ok r2 _ (wok_zipT ht.sq ht'.sq hr hr')⟩⟩
        | _ => exact h2.elim
      | lst ds =>
        cases d2 with
        | lst es =>
          obtain ⟨a, o, xs, rfl, ht, hr⟩ := hv
          obtain ⟨b, o', ys, rfl, ht', hr'⟩ := hu
          exact ⟨a, b, xs, ys, rfl, .inl ⟨.inl (.inr ⟨o, ht⟩), .inl (.inr ⟨o', ht'⟩), h2.ok r2 _ (wok_zipL ht ht' hr hr')⟩⟩
        | _ => exact h2.elim
      | _ => cases d2 <;> exact h2.elim
    | _ => cases d <;> exact h2.elim
  | _ => exact h2.elim
theorem pI_en {p tpos : Pos} {elts : List Expr} {kk : Nat} (hg : Gl X "enumerate") (hm : X.mg "enumerate" = none) (ha : PE X a (TX C cA X Wx xa)) (hs : starEach [a] X.env = [(false, eval a X.env)]) :
    PI X (.Tuple elts kk tpos) (.Call (.Name "enumerate" p) [a] [] pos) (TIt C cA X Wx (.en xa)) := by
  refine ⟨fun pins s σ H R I ⟨ρ, st, μ, en, sr, h⟩ => (pi_enum hg hm (pa_cons ha pa_nil hs) hs).run pins s σ H R I ?_⟩
  simp only [evIt] at h
  refine tx_at en sr h fun w st1 _ H1 μ1 s1 r1 h1 v hv => ?_
  have h2 : Aft (kw X) cA Wx H1 μ1 ((match vw w st1 with | .dat (.lst xs) => pure (enumW 0 (xs.map .dat), refOf w) | _ => stk : M (List W × Option Nat)) st1) _ := h1
  cases w with
  | dat d =>
    cases d with
    | lst ds =>
      obtain ⟨a, o, xs, rfl, ht, hr⟩ := hv
      exact ⟨a, xs, rfl, .inl (.inr ⟨o, ht⟩), h2.ok r1 _ (wok_enum (wok_lst ht hr))⟩
    | _ => exact h2.elim
  | ref n =>
    obtain ⟨a, em, rfl⟩ := hv
    obtain ⟨c, ec, q⟩ := r1.cell em
    cases c with
    | dic t kvs =>
      have hv : vw (.ref n) st1 = .fdi t kvs := by simp only [vw, ec]
      rw [hv] at h2
      exact h2.elim
    | lst ds =>
      obtain ⟨xs, hH, hr⟩ := q
      have hv : vw (.ref n) st1 = .dat (.lst ds) := by simp only [vw, ec]
      rw [hv] at h2
      exact ⟨a, xs, rfl, .inl (.inl hH), h2.ok r1 _ (wok_enum (wok_ref ec em))⟩
  | _ => exact h2.elim
end
end Ev

/-! EvH: targets, list comprehensions. -/
namespace Ev
open PySem PySem.Spec PyProof.Rows L2 PySem.W

def Pt.slots : Pt → List Nat
  | .n i => [i]
  | .t ps => ps
theorem wipe_get {σ : L2.St} {j : Nat} : ∀ {vs : List Nat}, (L2.wipe σ vs)[j]? = if j ∈ vs then (σ[j]?).map (fun _ => none) else σ[j]?
  | [] => by simp [L2.wipe]
  | v :: vs => by
    unfold L2.wipe
    by_cases hv : v = j
    · subst hv
      rw [if_pos List.mem_cons_self]
      by_cases hl : v < σ.length
      · rw [List.getElem?_set_self (by rw [L2.wipe_length]; exact hl), List.getElem?_eq_getElem hl]; rfl
      · rw [List.getElem?_eq_none (by rw [List.length_set, L2.wipe_length]; omega), List.getElem?_eq_none (by omega)]; rfl
    · rw [List.getElem?_set_ne hv, wipe_get (vs := vs)]
      have : (j ∈ v :: vs) ↔ (j ∈ vs) := by simp [Ne.symm hv]
      simp only [this]
theorem wipe_set {σ : L2.St} {i : Nat} {x : Option V} {vs : List Nat} (h : i ∈ vs) : L2.wipe (σ.set i x) vs = L2.wipe σ vs := by
  refine List.ext_getElem? fun j => ?_
  rw [wipe_get, wipe_get]
  by_cases hj : j ∈ vs
  · rw [if_pos hj, if_pos hj]
    by_cases e : i = j
    · subst e
      by_cases hl : i < σ.length
      · rw [List.getElem?_set_self hl, List.getElem?_eq_getElem hl]; rfl
      · rw [List.getElem?_eq_none (by rw [List.length_set]; omega), List.getElem?_eq_none (by omega)]
    · rw [List.getElem?_set_ne e]
  · rw [if_neg hj, if_neg hj, List.getElem?_set_ne (fun e => hj (by rw [← e]; exact h))]

theorem wipe_idem {σ : L2.St} {vs : List Nat} : L2.wipe (L2.wipe σ vs) vs = L2.wipe σ vs := by
  refine List.ext_getElem? fun j => ?_
  rw [wipe_get, wipe_get]
  by_cases hj : j ∈ vs
  · rw [if_pos hj, if_pos hj]; cases σ[j]? <;> rfl
  · rw [if_neg hj, if_neg hj]

/-! ### targets -/
def gP (K : KW) (p : Pt) : TG := fun v σ H N => ∃ w ρ ρ' μ, RW K H μ w v ∧ EnvR K H μ ρ σ ∧ bindP p w ρ = some ρ' ∧ ∀ σ', EnvR K H μ ρ' σ' → (∀ vs, (∀ i ∈ p.slots, i ∈ vs) → L2.wipe σ' vs = L2.wipe σ vs) → N σ' H
theorem pg_imp {X : Cx} {e : Expr} {t t' : TG} (h : PG X e t) (i : ∀ v σ H Q, t' v σ H Q → t v σ H Q) : PG X e t' := ⟨fun pins s σ H v u Q I r q => h.run pins s σ H v u Q I r (i v σ H Q q)⟩
/-- several names, one after another -/
def setAll (σ : L2.St) : List Nat → List V → L2.St
  | i :: is, v :: vs => setAll (σ.set i (some v)) is vs
  | _, _ => σ
def gNs (ps : List Nat) : TGs := fun vs σ H Q => vs.length = ps.length ∧ Q (setAll σ ps vs) H
section
variable {X : Cx} {pos : Pos}
theorem pG_n {i : Nat} {x : Str} (hN : X.N.Nodup) (hi : X.N[i]? = some x) (hx : Loc X.env.scope x) (hf : X.fn x = true ∨ X.env.scope.names.lookup x = some .local) : PG X (.Name x pos) (gP (kw X) (.n i)) := by
  refine pg_imp (pg_name hN hi hx hf) fun v σ H Q ⟨w, ρ, ρ', μ, hv, e, hb, q⟩ => ?_
  cases hb
  exact q _ (e.set hv) fun vs hvs => wipe_set (hvs i (by simp [Pt.slots]))
def NamesOk (X : Cx) : List Expr → List Nat → Prop
  | [], [] => True
  | .Name x _ :: es, i :: is => X.N[i]? = some x ∧ Loc X.env.scope x ∧ (X.fn x = true ∨ X.env.scope.names.lookup x = some .local) ∧ NamesOk X es is
  | _, _ => False
theorem pGs_ns (hN : X.N.Nodup) : ∀ (es : List Expr) (ps : List Nat), NamesOk X es ps → PGs X es (gNs ps) ∧ (assignEach es X.env).length = ps.length ∧ (assignEach es X.env).findIdx? (·.1) = none
  | [], [], _ => ⟨⟨fun pins s σ H vs us Q I r h => pgs_nil.run pins s σ H vs us Q I r ⟨List.eq_nil_of_length_eq_zero h.1, by cases vs <;> first | exact h.2 | exact (by cases h.1)⟩⟩, rfl, rfl⟩
  | .Name x p :: es, i :: is, h => by
    obtain ⟨h1, h2, h3, h4⟩ := h
    obtain ⟨g, n, f⟩ := pGs_ns hN es is h4
    have e0 : assignEach (.Name x p :: es) X.env = (false, assign (.Name x p) X.env) :: assignEach es X.env := rfl
    refine ⟨⟨fun pins s σ H vs us Q I r h => ?_⟩, by rw [e0]; simp [n], by rw [e0, List.findIdx?_cons, f]; rfl⟩
    refine (pgs_cons (pg_name (pos := p) hN h1 h2 h3) g (by rw [e0]; rfl)).run pins s σ H vs us Q I r ?_
    cases vs with
    | nil => cases h.1
    | cons v vs => exact ⟨v, vs, rfl, by simpa using h.1, h.2⟩
  | [], _ :: _, h => h.elim
  | .Name _ _ :: _, [], h => h.elim
theorem setAll_wipe : ∀ {ps : List Nat} {xs : List V} {σ : L2.St} {vs : List Nat}, (∀ i ∈ ps, i ∈ vs) → L2.wipe (setAll σ ps xs) vs = L2.wipe σ vs
  | [], _, _, _, _ => rfl
  | _ :: _, [], _, _, _ => rfl
  | i :: is, x :: xs, σ, vs, h => by
    show L2.wipe (setAll (σ.set i (some x)) is xs) vs = _
    rw [setAll_wipe fun j hj => h j (List.mem_cons_of_mem _ hj), wipe_set (h i List.mem_cons_self)]
theorem EnvR.setAll {K : KW} {H : Hp} {μ : List Addr} : ∀ {ps : List Nat} {ws : List W} {xs : List V} {ρ : Env} {σ : L2.St}, EnvR K H μ ρ σ → RWs K H μ ws xs → EnvR K H μ (bindP.go ps ws ρ) (Ev.setAll σ ps xs)
  | [], [], _, _, _, e, _ => e
  | [], _ :: _, _, _, _, e, _ => e
  | _ :: _, [], _, _, _, e, h => by cases h; exact e
  | i :: is, w :: ws, _, ρ, σ, e, h => by
    obtain ⟨x, r, rfl, h1, h2⟩ := h
    exact EnvR.setAll (ps := is) (e.set h1) h2
theorem pG_t {es : List Expr} {k : Nat} {ps : List Nat} (hc : X.calm = true) (hN : X.N.Nodup) (h : NamesOk X es ps) : PG X (.Tuple es k pos) (gP (kw X) (.t ps)) := by
  obtain ⟨g, n, f⟩ := pGs_ns hN es ps h
  refine ⟨fun pins s σ H v u Q I r ⟨w, ρ, ρ', μ, hv, e, hb, q⟩ => ?_⟩
  have fin : ∀ {ws : List W} {xs : List V}, RWs (kw X) H μ ws xs → ws.length = ps.length → ρ' = bindP.go ps ws ρ → Q (Ev.setAll σ ps xs) H := fun hr hl e2 => by
    subst e2
    exact q _ (e.setAll hr) fun vs hvs => setAll_wipe hvs
  have len : ∀ {ws : List W} {xs : List V}, RWs (kw X) H μ ws xs → ws.length = ps.length → xs.length = ps.length := fun hr hl => hr.length.trans hl
  cases w with
  | dat d =>
    cases d with
    | tup ds =>
      obtain ⟨a, xs, rfl, ht, hr⟩ := hv
      simp only [bindP] at hb
      by_cases z : ds.length = ps.length
      · rw [if_pos z] at hb
        have zl : (ds.map W.dat).length = ps.length := by rw [List.length_map]; exact z
        exact (pg_tup hc g n f).run pins s σ H _ u Q I r ⟨a, xs, rfl, ht.sq, len hr.rws zl, len hr.rws zl, fin hr.rws zl (Option.some.inj hb).symm⟩
      · rw [if_neg z] at hb; cases hb
    | lst ds =>
      obtain ⟨a, o, xs, rfl, ht, hr⟩ := hv
      simp only [bindP] at hb
      by_cases z : ds.length = ps.length
      · rw [if_pos z] at hb
        have zl : (ds.map W.dat).length = ps.length := by rw [List.length_map]; exact z
        exact (pg_lst hc g n f).run pins s σ H _ u Q I r ⟨a, xs, rfl, .inl (.inr ⟨o, ht⟩), len hr.rws zl, len hr.rws zl, fin hr.rws zl (Option.some.inj hb).symm⟩
      · rw [if_neg z] at hb; cases hb
    | _ => cases hb
  | tup ws =>
    obtain ⟨a, xs, rfl, ht, hr⟩ := hv
    simp only [bindP] at hb
    by_cases z : ws.length = ps.length
    · rw [if_pos z] at hb
      exact (pg_tup hc g n f).run pins s σ H _ u Q I r ⟨a, xs, rfl, ht, len hr z, len hr z, fin hr z (Option.some.inj hb).symm⟩
    · rw [if_neg z] at hb; cases hb
  | _ => cases hb
end

/-! ### list comprehensions -/
abbrev WF : Value → Option Addr → Hp → Prop := fun _ _ _ => False
theorem ext_updC {D : Addr} {H : Hp} {o u0 : HO} (h : H D = some u0) (ic : isCell u0) : Ext [D] H (upd H D o) := fun b u hb hc => by
  by_cases e : b = D
  · subst e
    rw [h] at hb; cases hb
    rcases hc with hc | hc
    · exact absurd List.mem_cons_self hc
    · exact absurd ic hc
  · rw [upd_ne e]; exact hb
theorem ext_upd {D : Addr} {H : Hp} {o : HO} {xs : List V} (h : H D = some (.lst xs)) : Ext [D] H (upd H D o) := ext_updC h trivial
theorem StR.offC {K : KW} {H : Hp} {st : Store} {μ : List Addr} {D : Addr} {o u0 : HO} (s : StR K H st μ) (hD : D ∉ μ) (h : H D = some u0) (ic : Ev.isCell u0) : StR K (upd H D o) st μ :=
  ⟨s.len, s.nd, fun n c hn => by
    obtain ⟨a, e, q⟩ := s.at_ n c hn
    have na : a ≠ D := fun z => hD (z ▸ List.mem_of_getElem? e)
    refine ⟨a, e, ?_⟩
    exact q.of (ext_updC h ic) fun o h => by rw [upd_ne na]; exact h⟩
theorem StR.off {K : KW} {H : Hp} {st : Store} {μ : List Addr} {D : Addr} {o : HO} {xs : List V} (s : StR K H st μ) (hD : D ∉ μ) (h : H D = some (.lst xs)) : StR K (upd H D o) st μ := s.offC hD h trivial
/-- a thing that is not yet there at H1 is written -/
theorem Stp.late {H1 H : Hp} {μ1 μ : List Addr} {D : Addr} {o : HO} (s : Stp H1 μ1 H μ) (hn : H1 D = none) : Stp H1 μ1 (upd H D o) μ := by
  refine ⟨fun b u hb hc => ?_, s.more, fun b hb => ?_⟩
  · have : b ≠ D := fun e => by rw [e, hn] at hb; cases hb
    rw [upd_ne this]; exact s.ext b u hb hc
  · by_cases e : b = D
    · rw [e]; exact hn
    · rw [upd_ne e] at hb; exact s.there b hb
/-- one turn -/
theorem lcGo_step {n : Option Nat} {st0 : Store} {f : W → M (Option D)} {w : W} {ws : List W} {acc : List D} {st : Store} {K : KW} {cA : Nat → Addr} {Wx : Value → Option Addr → Hp → Prop} {H1 : Hp} {μ1 : List Addr} {P : List D → Store → Hp → List Addr → Prop}
    (h : Aft K cA Wx H1 μ1 (lcGo n st0 f (w :: ws) acc st) P) :
    ∃ r st', f w st = .ok r st' ∧ stays n st0 st' = true ∧ Aft K cA Wx H1 μ1 (lcGo n st0 f ws (match r with | some d => acc ++ [d] | none => acc) st') P := by
  unfold lcGo at h
  cases q : f w st with
  | ok r st' =>
    rw [q] at h
    by_cases z : stays n st0 st' = true
    · simp only [z, if_true] at h
      refine ⟨r, st', rfl, z, ?_⟩
      cases r <;> exact h
    · simp only [z] at h; exact h.elim
  | exn x st' => rw [q] at h; exact h.elim
  | stuck => rw [q] at h; exact h.elim
theorem aft_of {α : Type} {K : KW} {cA : Nat → Addr} {Wx : Value → Option Addr → Hp → Prop} {H : Hp} {μ : List Addr} {r : Res α} {a : α} {st : Store} {P : α → Store → Hp → List Addr → Prop} (e : r = .ok a st) (h : ∀ H' μ', Stp H μ H' μ' → StR K H' st μ' → P a st H' μ') : Aft K cA Wx H μ r P := by
  rw [e]; exact h
section
variable {C : Nat → List W → M W} {cA : Nat → Addr} {X : Cx} {Wx : Value → Option Addr → Hp → Prop} {tg iter elt : Expr} {ifs : List Expr} {pos : Pos} {xe : Ex} {xc : Ox} {it : Wk} {p : Pt} {own : List Nat}
/-- the body of a comprehension's turn -/
def lcBody (C : Nat → List W → M W) (xe : Ex) (p : Pt) (xc : Ox) (own : List Nat) (ρ : Env) (w : W) : M (Option D) := do
  let ρ' ← lift (bindP p w (wipeE ρ own))
  match ← evC C xc ρ' with
  | true => do
    let d ← lift ∘ dat? =<< evX C xe ρ'
    pure (some d)
  | false => pure none
theorem lc_main {σ : L2.St} {H : Hp} {Q Q' : VK} (hsl : ∀ i ∈ p.slots, i ∈ own) (hQ : ∀ v H', (∃ q H0 zs, H0 q = none ∧ v = .ref q ∧ H' = upd H0 q (.lst zs) ∧ ∀ o, Q v (upd H0 q (.frz o (.lst zs)))) → Q' v H') (h : TX C cA X Wx (.lc xe p it xc own) σ H Q) :
    tLc (TIt C cA X Wx it) (gP (kw X) p) (tT (kw X) cA WF (evC C xc)) (tX (kw X) cA WF (evX C xe)) own σ H Q' := by
  obtain ⟨ρ, st, μ, en, sr, h⟩ := h
  simp only [evX] at h
  refine ⟨ρ, st, μ, en, sr, h.bind.imp fun pr st1 H1 μ1 s1 r1 h1 J hJ D hD => ?_⟩
  obtain ⟨ws, n⟩ := pr
  have h1 : Aft (kw X) cA Wx H1 μ1 (if ws.length ≤ bigLine then (lcGo n st1 (lcBody C xe p xc own ρ) ws [] >>= fun ds => pure (W.dat (.lst ds))) st1 else .stuck) _ := h1
  by_cases hbig : ws.length ≤ bigLine
  case neg => rw [if_neg hbig] at h1; exact h1.elim
  rw [if_pos hbig] at h1
  have hJ : WOk (kw X) H1 μ1 st1 J ws n := hJ
  have en1 := en.stp s1
  -- the loop's result at the base
  have hb : Aft (kw X) cA Wx H1 μ1 (lcGo n st1 (lcBody C xe p xc own ρ) ws [] st1) fun ds st2 H2 μ2 => ∀ v, RW (kw X) H2 μ2 (.dat (.lst ds)) v → Q v H2 := by
    rw [bind_eq] at h1
    cases q : lcGo n st1 (lcBody C xe p xc own ρ) ws [] st1 with
    | ok ds st2 => rw [q] at h1; exact h1
    | exn x st2 => rw [q] at h1; exact h1
    | stuck => rw [q] at h1; exact h1
  refine ⟨fun i m H => m = ws.length - i ∧ i ≤ ws.length ∧ ∃ st μ acc xs, acc.length ≤ i ∧ Stp H1 μ1 H μ ∧ StR (kw X) H st μ ∧ D ∉ μ ∧ H D = some (.lst xs) ∧ Rps (kw X) H acc xs ∧ stays n st1 st = true ∧ Aft (kw X) cA Wx H1 μ1 (lcGo n st1 (lcBody C xe p xc own ρ) (ws.drop i) acc st) fun ds st2 H2 μ2 => ∀ v, RW (kw X) H2 μ2 (.dat (.lst ds)) v → Q v H2, ⟨ws.length, by simp, Nat.zero_le _, st1, μ1, [], [], ?_⟩, ?_⟩
  · have nD : D ∉ μ1 := fun z => by obtain ⟨o, e, _⟩ := r1.isCell z; rw [hD] at e; cases e
    exact ⟨Nat.le_refl _, .keep (Keep.upd hD), r1.keep (Keep.upd hD), nD, upd_same, rfl, hJ.self, by rw [List.drop_zero]; exact hb⟩
  · rintro i m H2 ⟨rfl, hi, st2, μ2, acc, xs, hal, s2, r2, nD, hH, hr, hst, ha⟩
    by_cases hlt : i < ws.length
    · refine .inr ⟨hJ.goes i H2 μ2 st2 s2 r2 hst hlt, fun H' => i + 1 ≤ ws.length ∧ ∃ st μ acc xs, acc.length ≤ i + 1 ∧ Stp H1 μ1 H' μ ∧ StR (kw X) H' st μ ∧ D ∉ μ ∧ H' D = some (.lst xs) ∧ Rps (kw X) H' acc xs ∧ stays n st1 st = true ∧ Aft (kw X) cA Wx H1 μ1 (lcGo n st1 (lcBody C xe p xc own ρ) (ws.drop (i + 1)) acc st) fun ds st2 H2 μ2 => ∀ v, RW (kw X) H2 μ2 (.dat (.lst ds)) v → Q v H2, ?_, ?_⟩
      · rintro H' ⟨hi', q⟩
        exact ⟨ws.length - (i + 1), by omega, rfl, hi', q⟩
      · intro x H3 hy
        obtain ⟨k3, w, hw, hx⟩ := hJ.yields i x H2 H3 μ2 st2 s2 r2 hst hlt hy
        have s3 : Stp H2 μ2 H3 μ2 := .keep k3
        have hdrop : ws.drop i = w :: ws.drop (i + 1) := by
          obtain ⟨hl, e⟩ := List.getElem?_eq_some_iff.mp hw
          rw [← e]; exact List.drop_eq_getElem_cons hl
        rw [hdrop] at ha
        obtain ⟨r, st3, hf, hst3, ha⟩ := lcGo_step ha
        -- what the body does
        have hbody : Aft (kw X) cA WF H3 μ2 (lcBody C xe p xc own ρ w st2) fun r' st3' H4 μ4 => r' = r ∧ st3' = st3 ∧ Stp H3 μ2 H4 μ4 := aft_of hf fun H' μ' s' _ => ⟨rfl, rfl, s'⟩
        obtain ⟨ρ', hρ, hbody⟩ := hbody.liftB
        have en3 : EnvR (kw X) H3 μ2 (wipeE ρ own) (L2.wipe σ own) := ((en1.stp s2).stp s3).wipe own
        refine ⟨w, wipeE ρ own, ρ', μ2, hx, en3, hρ, fun σ' en' hwp => ⟨by rw [hwp own hsl, wipe_idem], ?_⟩⟩
        have r3 : StR (kw X) H3 st2 μ2 := r2.keep k3
        have nD3 : D ∉ μ2 := nD
        have hH3 : H3 D = some (.lst xs) := k3 _ _ hH
        refine ⟨ρ', st2, μ2, en', r3, hbody.bind.imp fun b st4 H4 μ4 s4 r4 h4 => ?_⟩
        have hH4 : H4 D = some (.lst xs) := s4.ext _ _ hH3 (.inl nD3)
        have nD4 : D ∉ μ4 := s4.notin hH3 nD3
        have hr4 : Rps (kw X) H4 acc xs := Rps.ext (s3.trans s4).ext _ _ hr
        cases b with
        | false =>
          obtain ⟨er, es, _⟩ := h4.ok r4
          subst er es
          simp only [Bool.false_eq_true, if_false]
          exact ⟨hlt, st4, μ4, acc, xs, by omega, (s2.trans s3).trans s4, r4, nD4, hH4, hr4, hst3, ha⟩
        | true =>
          simp only [if_true]
          have h4 : Aft (kw X) cA WF H4 μ4 (((evX C xe ρ' >>= fun w => lift (dat? w)) >>= fun d => pure (some d)) st4) _ := h4
          rw [m_assoc] at h4
          refine ⟨ρ', st4, μ4, en'.stp s4, r4, h4.bind.imp fun w5 st5 H5 μ5 s5 r5 h5 y hy5 => ?_⟩
          obtain ⟨d, hd, h5⟩ := h5.liftB
          cases w5 with
          | dat d' =>
            cases hd
            obtain ⟨er, es, s6⟩ := h5.ok r5
            subst er es
            have hH5 : H5 D = some (.lst xs) := s5.ext _ _ hH4 (.inl nD4)
            have nD5 : D ∉ μ5 := s5.notin hH4 nD4
            have hr5 : Rps (kw X) H5 acc xs := Rps.ext s5.ext _ _ hr4
            have sAll : Stp H1 μ1 H5 μ5 := ((s2.trans s3).trans s4).trans s5
            refine ⟨xs, hH5, ?_, hlt, st5, μ5, acc ++ [_], xs ++ [y], by rw [List.length_append]; simp; omega, sAll.late hD, r5.off nD5 hH5, nD5, upd_same, ?_, hst3, ha⟩
            · rw [hr5.length, sizeLine_eq]
              have : bigLine = 16777216 := rfl
              omega
            · exact (Rps.ext (ext_upd hH5) _ _ hr5).append (Rps.one (Rp.ext (ext_upd hH5) _ _ hy5))
          | _ => cases hd
    · have e : i = ws.length := by omega
      subst e
      refine .inl ⟨hJ.stops H2 μ2 st2 s2 r2 hst, ?_⟩
      rw [List.drop_length] at ha
      refine hQ _ _ ⟨D, fun b => if b = D then none else H2 b, xs, by simp, rfl, ?_, fun o => ?_⟩
      · funext b
        by_cases e : b = D
        · subst e; rw [upd_same]; exact hH
        · rw [upd_ne e]; simp [e]
      · have hu : (upd (fun b => if b = D then none else H2 b) D (.frz o (.lst xs))) = upd H2 D (.frz o (.lst xs)) := by
          funext b
          by_cases e : b = D
          · subst e; rw [upd_same, upd_same]
          · rw [upd_ne e, upd_ne e]; simp [e]
        rw [hu]
        exact ha (upd H2 D (.frz o (.lst xs))) μ2 (s2.late hD) (r2.off nD hH) _ ⟨D, o, xs, rfl, upd_same, Rps.ext (ext_upd hH) _ _ hr⟩
end
end Ev

/-! EvI: statements. -/
namespace Ev
open PySem PySem.Spec PyProof.Rows L2 PySem.W

section
variable {C : Nat → List W → M W} {cA : Nat → Addr} {X : Cx} {Wx : Value → Option Addr → Hp → Prop} {F : Nat} {tg iter elt e a b c : Expr} {ifs : List Expr} {pos : Pos} {xe xa xb xi xo : Ex} {xc : Ox} {it : Wk} {p : Pt} {own : List (Str × Nat)} {scope : Scope}
theorem pX_lc (hc : X.calm = true) (hN : X.N.Nodup) (hi : PI X tg iter (TIt C cA X Wx it)) (ok : BlkOk X.N X.env.scope scope own) (hsl : ∀ i ∈ p.slots, i ∈ own.map (·.2))
    (hg : ∀ (s : Shared) (H : Hp) (C : Addr) (cl : List (Str × Addr)) (fp : List Addr), PG (X.blk s H scope (compEnvC scope cl C X.env) fp) tg (gP (kw X) p))
    (ht : ∀ (s : Shared) (H : Hp) (C' : Addr) (cl : List (Str × Addr)) (fp : List Addr), PTs (X.blk s H scope (compEnvC scope cl C' X.env) fp) ifs (tT (kw X) cA WF (evC C xc)))
    (he : ∀ (s : Shared) (H : Hp) (C' : Addr) (cl : List (Str × Addr)) (fp : List Addr), PE (X.blk s H scope (compEnvC scope cl C' X.env) fp) elt (tX (kw X) cA WF (evX C xe)))
    (hs : ∀ x, foldedSetIterable iter X.env x = pure x) : PE X (.ListComp elt [⟨tg, iter, ifs, 0⟩] scope pos) (TX C cA X Wx (.lc xe p it xc (own.map (·.2)))) :=
  pe_imp (pe_frz (pe_lc hc hN hi ok hg ht he hs)) fun _ _ _ h => lc_main hsl (fun _ _ q => q) h
theorem pTs_no : PTs X [] (tT (kw X) cA Wx (evC C .no)) := by
  refine ⟨fun pins s σ H Q I ⟨ρ, st, μ, e, sr, h⟩ => pts_nil.run pins s σ H Q I ?_⟩
  simp only [evC] at h
  exact h.ok sr
theorem pTs_so (h : PT X c (TT' C cA X Wx xe)) : PTs X [c] (tT (kw X) cA Wx (evC C (.so xe))) := by
  refine ⟨fun pins s σ H Q I hw => (pts_one h).run pins s σ H Q I ?_⟩
  obtain ⟨ρ, st, μ, e, sr, q⟩ := hw
  simp only [evC] at q
  exact ⟨ρ, st, μ, e, sr, q⟩

/-! ### statements -/
def PF (K : KW) (D : Ends) : Fl → Store → Hp → List Addr → Prop := fun fl _ H' μ' => match fl with
  | .nx ρ' => ∀ σ', EnvR K H' μ' ρ' σ' → D.nx σ' H'
  | .ret w => ∀ v, RW K H' μ' w v → D.rt v H'
  | .brk ρ' => ∀ σ', EnvR K H' μ' ρ' σ' → D.bk σ' H'
  | .ct ρ' => ∀ σ', EnvR K H' μ' ρ' σ' → D.ct σ' H'
def tS (K : KW) (cA : Nat → Addr) (Wx : Value → Option Addr → Hp → Prop) (m : Env → M Fl) : TS := fun D σ H => ∃ ρ st μ, EnvR K H μ ρ σ ∧ StR K H st μ ∧ Aft K cA Wx H μ (m ρ st) (PF K D)
abbrev TS' (C : Nat → List W → M W) (F : Nat) (cA : Nat → Addr) (X : Cx) (Wx : Value → Option Addr → Hp → Prop) (x : St) : TS := tS (kw X) cA Wx (evS C F x)
abbrev TSs (C : Nat → List W → M W) (F : Nat) (cA : Nat → Addr) (X : Cx) (Wx : Value → Option Addr → Hp → Prop) (x : Ss) : TS := tS (kw X) cA Wx (evSs C F x)
theorem ps_imp {st : Stmt} {t t' : TS} (h : PS X st t) (i : ∀ D σ H, t' D σ H → t D σ H) : PS X st t' := ⟨fun pins s σ H D I q => h.run pins s σ H D I (i D σ H q)⟩
theorem pss_imp {st : List Stmt} {t t' : TS} (h : PSs X st t) (i : ∀ D σ H, t' D σ H → t D σ H) : PSs X st t' := ⟨fun pins s σ H D I q => h.run pins s σ H D I (i D σ H q)⟩
theorem pS_pas : PS X (.Pass pos) (TS' C F cA X Wx .pas) := ps_imp ps_pass fun D σ H ⟨ρ, st, μ, e, s, h⟩ => by
  simp only [evS] at h
  exact h.ok s σ e
theorem pS_brk : PS X (.Break pos) (TS' C F cA X Wx .brk) := ps_imp ps_break fun D σ H ⟨ρ, st, μ, e, s, h⟩ => by
  simp only [evS] at h
  exact h.ok s σ e
theorem pS_cnt : PS X (.Continue pos) (TS' C F cA X Wx .cnt) := ps_imp ps_continue fun D σ H ⟨ρ, st, μ, e, s, h⟩ => by
  simp only [evS] at h
  exact h.ok s σ e
theorem pS_retn : PS X (.Return none pos) (TS' C F cA X Wx .retn) := ps_imp ps_retN fun D σ H ⟨ρ, st, μ, e, s, h⟩ => by
  simp only [evS] at h
  exact h.ok s .non rfl
theorem pS_ret (he : PE X e (TX C cA X Wx xe)) : PS X (.Return (some e) pos) (TS' C F cA X Wx (.ret xe)) := ps_imp (ps_ret he) fun D σ H ⟨ρ, st, μ, en, s, h⟩ => by
  simp only [evS] at h
  exact ⟨ρ, st, μ, en, s, h.bind.imp fun w st1 H1 μ1 s1 r1 h1 v hv => h1.ok r1 v hv⟩
theorem pS_ex (he : PE X e (TX C cA X Wx xe)) (hs : swapsWith e none pos.line X.env = pure false) : PS X (.Expr e pos) (TS' C F cA X Wx (.ex xe)) := ps_imp (ps_expr he hs) fun D σ H ⟨ρ, st, μ, en, s, h⟩ => by
  simp only [evS] at h
  exact ⟨ρ, st, μ, en, s, h.bind.imp fun w st1 H1 μ1 s1 r1 h1 v hv => h1.ok r1 σ (en.stp s1)⟩
theorem pS_ife {sa sb : List Stmt} {ya yb : Ss} (hc : PT X c (TT' C cA X Wx xe)) (ha : PSs X sa (TSs C F cA X Wx ya)) (hb : PSs X sb (TSs C F cA X Wx yb)) : PS X (.If c sa sb pos) (TS' C F cA X Wx (.ife xe ya yb)) := ps_imp (ps_if hc ha hb) fun D σ H ⟨ρ, st, μ, en, s, h⟩ => by
  simp only [evS] at h
  have h : Aft (kw X) cA Wx H μ ((evT C xe ρ >>= _) st) _ := h
  refine ⟨ρ, st, μ, en, s, h.bind.imp fun b st1 H1 μ1 s1 r1 h1 => ?_⟩
  cases b with
  | true => exact ⟨ρ, st1, μ1, en.stp s1, r1, h1⟩
  | false => exact ⟨ρ, st1, μ1, en.stp s1, r1, h1⟩
theorem pSs_nil : PSs X [] (TSs C F cA X Wx .nil) := pss_imp pss_nil fun D σ H ⟨ρ, st, μ, e, s, h⟩ => by
  simp only [evSs] at h
  exact h.ok s σ e
theorem pSs_cons {st : Stmt} {sts : List Stmt} {y : St} {ys : Ss} (h1 : PS X st (TS' C F cA X Wx y)) (h2 : PSs X sts (TSs C F cA X Wx ys)) : PSs X (st :: sts) (TSs C F cA X Wx (.cons y ys)) := pss_imp (pss_cons h1 h2) fun D σ H ⟨ρ, st, μ, e, s, h⟩ => by
  simp only [evSs] at h
  refine ⟨ρ, st, μ, e, s, h.bind.imp fun fl st1 H1 μ1 s1 r1 h1 => ?_⟩
  cases fl with
  | nx ρ' => exact fun σ' e' => ⟨ρ', st1, μ1, e', r1, h1⟩
  | ret w => exact h1.ok r1
  | brk ρ' => exact h1.ok r1
  | ct ρ' => exact h1.ok r1
/-- a docstring -/
theorem pS_doc {x : Str} {j : Nat} {pos' : Pos} : PS X (.Expr (.Constant (.str x) j pos) pos') (TS' C F cA X Wx .pas) := ps_imp ps_doc fun D σ H ⟨ρ, st, μ, e, s, h⟩ => by
  simp only [evS] at h
  exact h.ok s σ e
theorem pS_asg (he : PE X e (TX C cA X Wx xe)) (hg : PG X tg (gP (kw X) p)) (hs : swapsWithSole [tg] e pos.line X.env = pure false) (hw : swappedStores [tg] e X.env = pure none)
    (h1 : (assignEach [tg] X.env).map (·.2) = [assign tg X.env]) : PS X (.Assign [tg] e pos) (TS' C F cA X Wx (.asg p xe)) := ps_imp (ps_asg he hg hs hw h1) fun D σ H ⟨ρ, st, μ, en, s, h⟩ => by
  simp only [evS] at h
  refine ⟨ρ, st, μ, en, s, h.bind.imp fun w st1 H1 μ1 s1 r1 h1 v hv => ?_⟩
  obtain ⟨ρ', hρ, h1⟩ := h1.liftB
  exact ⟨w, ρ, ρ', μ1, hv, en.stp s1, hρ, fun σ' en' _ => h1.ok r1 σ' en'⟩
theorem ps_frzL {st : Stmt} {t : TS} (h : PS X st t) : PS X st (fun D σ H => t { D with nx := fun σ' H' => ∃ p H0 zs, H0 p = none ∧ H' = upd H0 p (.lst zs) ∧ ∀ o, D.nx σ' (upd H0 p (.frz o (.lst zs))) } σ H) := by
  refine ⟨fun pins s σ H D I q => thn (h.run pins s σ H _ I q) fun f s1 z => ?_⟩
  cases f with
  | next =>
    obtain ⟨σ', H', I', p, H0, zs, hn, rfl, q⟩ := z
    obtain ⟨o, I2⟩ := I'.lock (d := p) (u := .lst zs) upd_same trivial
    rw [upd_upd] at I2
    exact ⟨σ', _, I2, q o⟩
  | ret v => exact z
  | brk => exact z
  | cont => exact z
/-- name = [..] on one line -/
theorem pS_asgLc {i : Nat} {y : Str} {py spos : Pos} (hc : X.calm = true) (hN : X.N.Nodup) (hy : X.N[i]? = some y) (hyl : X.env.scope.names.lookup y = some .local)
    (hsw : swapsWith (.ListComp elt [⟨tg, iter, ifs, 0⟩] scope pos) (some (.Name y py)) spos.line X.env = pure true) (hi : PI X tg iter (TIt C cA X Wx it)) (ok : BlkOk X.N X.env.scope scope own) (hsl : ∀ i ∈ p.slots, i ∈ own.map (·.2))
    (hg : ∀ (s : Shared) (H : Hp) (C : Addr) (cl : List (Str × Addr)) (fp : List Addr), PG (X.blk s H scope (compEnvC scope cl C X.env) fp) tg (gP (kw X) p))
    (ht : ∀ (s : Shared) (H : Hp) (C' : Addr) (cl : List (Str × Addr)) (fp : List Addr), PTs (X.blk s H scope (compEnvC scope cl C' X.env) fp) ifs (tT (kw X) cA WF (evC C xc)))
    (he : ∀ (s : Shared) (H : Hp) (C' : Addr) (cl : List (Str × Addr)) (fp : List Addr), PE (X.blk s H scope (compEnvC scope cl C' X.env) fp) elt (tX (kw X) cA WF (evX C xe)))
    (hs : ∀ x, foldedSetIterable iter X.env x = pure x) : PS X (.Assign [.Name y py] (.ListComp elt [⟨tg, iter, ifs, 0⟩] scope pos) spos) (TS' C F cA X Wx (.asg (.n i) (.lc xe p it xc (own.map (·.2))))) :=
  ps_imp (ps_frzL (ps_setLc hc hN hy hyl hsw hi ok hg ht he hs)) fun D σ H ⟨ρ, st, μ, en, sr, h⟩ => by
    simp only [evS] at h
    have h2 : TX C cA X Wx (.lc xe p it xc (own.map (·.2))) σ H fun v H' => D.nx (σ.set i (some v)) H' :=
      ⟨ρ, st, μ, en, sr, h.bind.imp fun w st1 H1 μ1 s1 r1 h1 v hv => by
        obtain ⟨ρ', hρ, h1⟩ := h1.liftB
        cases hρ
        exact h1.ok r1 _ ((en.stp s1).set hv)⟩
    exact lc_main hsl (fun v H' ⟨q, H0, zs, hn, _, e2, q1⟩ => ⟨q, H0, zs, hn, e2, q1⟩) h2
end
end Ev

/-! EvDc: dict comprehensions, keys ints or texts. -/
namespace Ev
open PySem PySem.Spec PyProof.Rows L2
theorem dcGo_step {n : Option Nat} {st0 : Store} {f : W → M (Option (D × D))} {w : W} {ws : List W} {acc : List (D × D)} {st : Store} {K : KW} {cA : Nat → Addr} {Wx : Value → Option Addr → Hp → Prop} {H1 : Hp} {μ1 : List Addr} {P : List (D × D) → Store → Hp → List Addr → Prop}
    (h : Aft K cA Wx H1 μ1 (dcGo n st0 f (w :: ws) acc st) P) :
    ∃ r st', f w st = .ok r st' ∧ stays n st0 st' = true ∧ Aft K cA Wx H1 μ1 (dcGo n st0 f ws (match r with | some d => putKey acc d.1 d.2 | none => acc) st') P := by
  unfold dcGo at h
  cases q : f w st with
  | ok r st' =>
    rw [q] at h
    by_cases z : stays n st0 st' = true
    · simp only [z, if_true] at h
      refine ⟨r, st', rfl, z, ?_⟩
      cases r <;> exact h
    · simp only [z] at h; exact h.elim
  | exn x st' => rw [q] at h; exact h.elim
  | stuck => rw [q] at h; exact h.elim
theorem putKey_len (kvs : List (D × D)) (k v : D) : (putKey kvs k v).length ≤ kvs.length + 1 := by
  unfold putKey
  split <;> simp
section
variable {C : Nat → List W → M W} {cA : Nat → Addr} {X : Cx} {Wx : Value → Option Addr → Hp → Prop} {tg iter kx vx : Expr} {ifs : List Expr} {pos : Pos} {xk xv : Ex} {xc : Ox} {it : Wk} {p : Pt} {own : List Nat}
def dcBody (C : Nat → List W → M W) (xk xv : Ex) (p : Pt) (xc : Ox) (own : List Nat) (ρ : Env) (w : W) : M (Option (D × D)) := do
  let ρ' ← lift (bindP p w (wipeE ρ own))
  match ← evC C xc ρ' with
  | true => do
    let a ← lift ∘ dat? =<< evX C xk ρ'
    let b ← lift ∘ dat? =<< evX C xv ρ'
    if isLeaf a then pure (some (a, b)) else stk
  | false => pure none
theorem dc_main {σ : L2.St} {H : Hp} {Q : VK} (hsl : ∀ i ∈ p.slots, i ∈ own) (h : TX C cA X Wx (.dc xk xv p it xc own) σ H Q) :
    tDc (TIt C cA X Wx it) (gP (kw X) p) (tT (kw X) cA WF (evC C xc)) (tX (kw X) cA WF (evX C xk)) (tX (kw X) cA WF (evX C xv)) own σ H Q := by
  obtain ⟨ρ, st, μ, en, sr, h⟩ := h
  simp only [evX] at h
  refine ⟨ρ, st, μ, en, sr, h.bind.imp fun pr st1 H1 μ1 s1 r1 h1 J hJ D hD => ?_⟩
  obtain ⟨ws, n⟩ := pr
  have h1 : Aft (kw X) cA Wx H1 μ1 (if ws.length ≤ bigLine then (dcGo n st1 (dcBody C xk xv p xc own ρ) ws [] >>= fun ds => pure (W.fdi false ds)) st1 else .stuck) _ := h1
  by_cases hbig : ws.length ≤ bigLine
  case neg => rw [if_neg hbig] at h1; exact h1.elim
  rw [if_pos hbig] at h1
  have hJ : WOk (kw X) H1 μ1 st1 J ws n := hJ
  have en1 := en.stp s1
  have hb : Aft (kw X) cA Wx H1 μ1 (dcGo n st1 (dcBody C xk xv p xc own ρ) ws [] st1) fun ds st2 H2 μ2 => ∀ v, RW (kw X) H2 μ2 (.fdi false ds) v → Q v H2 := by
    rw [bind_eq] at h1
    cases q : dcGo n st1 (dcBody C xk xv p xc own ρ) ws [] st1 with
    | ok ds st2 => rw [q] at h1; exact h1
    | exn x st2 => rw [q] at h1; exact h1
    | stuck => rw [q] at h1; exact h1
  refine ⟨fun i m H => m = ws.length - i ∧ i ≤ ws.length ∧ ∃ st μ acc xs, acc.length ≤ i ∧ Stp H1 μ1 H μ ∧ StR (kw X) H st μ ∧ D ∉ μ ∧ H D = some (.dK xs) ∧ KvR (kw X) H acc xs ∧ stays n st1 st = true ∧ Aft (kw X) cA Wx H1 μ1 (dcGo n st1 (dcBody C xk xv p xc own ρ) (ws.drop i) acc st) fun ds st2 H2 μ2 => ∀ v, RW (kw X) H2 μ2 (.fdi false ds) v → Q v H2, ⟨ws.length, by simp, Nat.zero_le _, st1, μ1, [], [], ?_⟩, ?_⟩
  · have nD : D ∉ μ1 := fun z => by obtain ⟨o, e, _⟩ := r1.isCell z; rw [hD] at e; cases e
    exact ⟨Nat.le_refl _, .keep (Keep.upd hD), r1.keep (Keep.upd hD), nD, upd_same, rfl, hJ.self, by rw [List.drop_zero]; exact hb⟩
  · rintro i m H2 ⟨rfl, hi, st2, μ2, acc, xs, hal, s2, r2, nD, hH, hr, hst, ha⟩
    by_cases hlt : i < ws.length
    · refine .inr ⟨hJ.goes i H2 μ2 st2 s2 r2 hst hlt, fun H' => i + 1 ≤ ws.length ∧ ∃ st μ acc xs, acc.length ≤ i + 1 ∧ Stp H1 μ1 H' μ ∧ StR (kw X) H' st μ ∧ D ∉ μ ∧ H' D = some (.dK xs) ∧ KvR (kw X) H' acc xs ∧ stays n st1 st = true ∧ Aft (kw X) cA Wx H1 μ1 (dcGo n st1 (dcBody C xk xv p xc own ρ) (ws.drop (i + 1)) acc st) fun ds st2 H2 μ2 => ∀ v, RW (kw X) H2 μ2 (.fdi false ds) v → Q v H2, ?_, ?_⟩
      · rintro H' ⟨hi', q⟩
        exact ⟨ws.length - (i + 1), by omega, rfl, hi', q⟩
      · intro x H3 hy
        obtain ⟨k3, w, hw, hx⟩ := hJ.yields i x H2 H3 μ2 st2 s2 r2 hst hlt hy
        have s3 : Stp H2 μ2 H3 μ2 := .keep k3
        have hdrop : ws.drop i = w :: ws.drop (i + 1) := by
          obtain ⟨hl, e⟩ := List.getElem?_eq_some_iff.mp hw
          rw [← e]; exact List.drop_eq_getElem_cons hl
        rw [hdrop] at ha
        obtain ⟨r, st3, hf, hst3, ha⟩ := dcGo_step ha
        have hbody : Aft (kw X) cA WF H3 μ2 (dcBody C xk xv p xc own ρ w st2) fun r' st3' H4 μ4 => r' = r ∧ st3' = st3 ∧ Stp H3 μ2 H4 μ4 := aft_of hf fun H' μ' s' _ => ⟨rfl, rfl, s'⟩
        obtain ⟨ρ', hρ, hbody⟩ := hbody.liftB
        have en3 : EnvR (kw X) H3 μ2 (wipeE ρ own) (L2.wipe σ own) := ((en1.stp s2).stp s3).wipe own
        refine ⟨w, wipeE ρ own, ρ', μ2, hx, en3, hρ, fun σ' en' hwp => ⟨by rw [hwp own hsl, wipe_idem], ?_⟩⟩
        have r3 : StR (kw X) H3 st2 μ2 := r2.keep k3
        have hH3 : H3 D = some (.dK xs) := k3 _ _ hH
        refine ⟨ρ', st2, μ2, en', r3, hbody.bind.imp fun b st4 H4 μ4 s4 r4 h4 => ?_⟩
        have hH4 : H4 D = some (.dK xs) := s4.ext _ _ hH3 (.inl nD)
        have nD4 : D ∉ μ4 := s4.notin hH3 nD
        have hr4 : KvR (kw X) H4 acc xs := hr.ext (s3.trans s4).ext
        cases b with
        | false =>
          obtain ⟨er, es, _⟩ := h4.ok r4
          subst er es
          simp only [Bool.false_eq_true, if_false]
          exact ⟨hlt, st4, μ4, acc, xs, by omega, (s2.trans s3).trans s4, r4, nD4, hH4, hr4, hst3, ha⟩
        | true =>
          simp only [if_true]
          have h4 : Aft (kw X) cA WF H4 μ4 (((evX C xk ρ' >>= fun w => lift (dat? w)) >>= fun a => ((evX C xv ρ' >>= fun w => lift (dat? w)) >>= fun b => if isLeaf a then pure (some (a, b)) else stk)) st4) _ := h4
          rw [m_assoc] at h4
          refine ⟨ρ', st4, μ4, en'.stp s4, r4, h4.bind.imp fun w5 st5 H5 μ5 s5 r5 h5 y hy5 => ?_⟩
          obtain ⟨a, hda, h5⟩ := h5.liftB
          rw [m_assoc] at h5
          refine ⟨ρ', st5, μ5, (en'.stp s4).stp s5, r5, h5.bind.imp fun w6 st6 H6 μ6 s6 r6 h6 z hz6 => ?_⟩
          obtain ⟨b, hdb, h8⟩ := h6.liftB
          clear h6
          cases w5 with
          | dat a' =>
            cases hda
            cases w6 with
            | dat b' =>
              cases hdb
              by_cases hla : isLeaf a = true
              case neg => rw [if_neg hla] at h8; exact h8.elim
              rw [if_pos hla] at h8
              obtain ⟨er, es, s7⟩ := h8.ok r6
              subst er es
              obtain ⟨j, rfl⟩ := leaf_key hla
              have hyk : y = kV j := leaf_rv (Rp.rv hy5)
              have hH5 : H5 D = some (.dK xs) := s5.ext _ _ hH4 (.inl nD4)
              have nD5 : D ∉ μ5 := s5.notin hH4 nD4
              have hH6 : H6 D = some (.dK xs) := s6.ext _ _ hH5 (.inl nD5)
              have nD6 : D ∉ μ6 := s6.notin hH5 nD5
              have hr6 : KvR (kw X) H6 acc xs := hr4.ext (s5.trans s6).ext
              have sAll : Stp H1 μ1 H6 μ6 := (((s2.trans s3).trans s4).trans s5).trans s6
              have eC : Ext [D] H6 (upd H6 D (.dK (putK xs j z))) := ext_updC hH6 trivial
              refine ⟨xs, j, hyk, hH6, ?_, hlt, st6, μ6, putKey acc (keyD j) _, putK xs j z, Nat.le_trans (putKey_len _ _ _) (by omega), sAll.late hD, r6.offC nD6 hH6 trivial, nD6, upd_same, ?_, hst3, ha⟩
              · rw [hr6.length, sizeLine_eq]
                have : bigLine = 16777216 := rfl
                omega
              · exact KvR.put (hr6.ext eC) j (Rp.ext eC _ _ hz6)
            | _ => cases hdb
          | _ => cases hda
    · have e : i = ws.length := by omega
      subst e
      refine .inl ⟨hJ.stops H2 μ2 st2 s2 r2 hst, ?_⟩
      rw [List.drop_length] at ha
      exact ha H2 μ2 s2 r2 _ ⟨D, rfl, nD, xs, hH, hr⟩
theorem pX_dc {scope : Scope} {own : List (Str × Nat)} (hc : X.calm = true) (hN : X.N.Nodup) (hi : PI X tg iter (TIt C cA X Wx it)) (ok : BlkOk X.N X.env.scope scope own) (hsl : ∀ i ∈ p.slots, i ∈ own.map (·.2))
    (hg : ∀ (s : Shared) (H : Hp) (C : Addr) (cl : List (Str × Addr)) (fp : List Addr), PG (X.blk s H scope (compEnvC scope cl C X.env) fp) tg (gP (kw X) p))
    (ht : ∀ (s : Shared) (H : Hp) (C' : Addr) (cl : List (Str × Addr)) (fp : List Addr), PTs (X.blk s H scope (compEnvC scope cl C' X.env) fp) ifs (tT (kw X) cA WF (evC C xc)))
    (hk : ∀ (s : Shared) (H : Hp) (C' : Addr) (cl : List (Str × Addr)) (fp : List Addr), PE (X.blk s H scope (compEnvC scope cl C' X.env) fp) kx (tX (kw X) cA WF (evX C xk)))
    (he : ∀ (s : Shared) (H : Hp) (C' : Addr) (cl : List (Str × Addr)) (fp : List Addr), PE (X.blk s H scope (compEnvC scope cl C' X.env) fp) vx (tX (kw X) cA WF (evX C xv)))
    (hs : ∀ x, foldedSetIterable iter X.env x = pure x) : PE X (.DictComp kx vx [⟨tg, iter, ifs, 0⟩] scope pos) (TX C cA X Wx (.dc xk xv p it xc (own.map (·.2)))) :=
  pe_imp (pe_dc hc hN hi ok hg ht hk he hs) fun _ _ _ h => dc_main hsl h
end
end Ev

/-! EvJ: more statements: swapped stores, op=, o[i] = v, for, while. -/
namespace Ev
open PySem PySem.Spec PyProof.Rows L2 PySem.W

theorem dats_map : ∀ {ws : List W} {ds : List D}, dats? ws = some ds → ws = ds.map .dat
  | [], ds, h => by cases h; rfl
  | w :: ws, ds, h => by
    cases w with
    | dat d =>
      simp only [dats?] at h
      cases q : dats? ws with
      | none => rw [q] at h; cases h
      | some r => rw [q] at h; cases h; rw [dats_map q]; rfl
    | _ => cases h
theorem bindP_mkTup {ps : List Nat} {ws : List W} {ρ : Env} : bindP (.t ps) (mkTup ws) ρ = if ws.length = ps.length then some (bindP.go ps ws ρ) else none := by
  unfold mkTup
  cases q : dats? ws with
  | none => rfl
  | some ds =>
    have := dats_map q
    subst this
    simp only [bindP, List.length_map]
section
variable {C : Nat → List W → M W} {cA : Nat → Addr} {X : Cx} {Wx : Value → Option Addr → Hp → Prop} {F : Nat} {tg iter elt e a b c o : Expr} {ifs : List Expr} {pos : Pos} {xe xa xb xi xo : Ex} {xc : Ox} {it : Wk} {p : Pt} {own : List (Str × Nat)} {scope : Scope}
/-- a, b = x, y with plain local names -/
theorem pS_par2 {i j : Nat} {x y : Str} {px py pt : Pos} {kt k2 : Nat} {pt2 : Pos} {xs : Exs} (hc : X.calm = true) (hN : X.N.Nodup) (hi : X.N[i]? = some x) (hj : X.N[j]? = some y) (hij : i ≠ j)
    (hx : X.env.scope.names.lookup x = some .local) (hy : X.env.scope.names.lookup y = some .local) (ha : PA X [a, b] (tXs (kw X) cA Wx (evXs C xs)))
    (hw : swappedStores [.Tuple [.Name x px, .Name y py] kt pt] (.Tuple [a, b] k2 pt2) X.env = pure (some [x, y])) :
    PS X (.Assign [.Tuple [.Name x px, .Name y py] kt pt] (.Tuple [a, b] k2 pt2) pos) (TS' C F cA X Wx (.asg (.t [i, j]) (.tup xs))) := ps_imp (ps_par hc hN hi hj hij hx hy ha hw rfl) fun D σ H ⟨ρ, st, μ, en, s, h⟩ => by
  simp only [evS, evX] at h
  rw [m_assoc] at h
  refine ⟨ρ, st, μ, en, s, h.bind.imp fun ws st1 H1 μ1 s1 r1 h1 vs hvs => ?_⟩
  have h1 : Aft (kw X) cA Wx H1 μ1 ((lift (bindP (.t [i, j]) (mkTup ws) ρ) >>= fun ρ' => pure (Fl.nx ρ')) st1) _ := h1
  obtain ⟨ρ', hρ, h1⟩ := h1.liftB
  rw [bindP_mkTup] at hρ
  by_cases z : ws.length = [i, j].length
  case neg => rw [if_neg z] at hρ; cases hρ
  rw [if_pos z] at hρ
  obtain ⟨w1, w2, rfl⟩ : ∃ w1 w2, ws = [w1, w2] := by match ws, z with | [w1, w2], _ => exact ⟨_, _, rfl⟩
  obtain ⟨v1, _, rfl, hv1, v2, _, rfl, hv2, rfl⟩ := hvs
  cases hρ
  exact ⟨v1, v2, rfl, h1.ok r1 _ (((en.stp s1).set hv1).set hv2)⟩
theorem pS_par3 {i j l : Nat} {x y z : Str} {px py pz pt : Pos} {kt k2 : Nat} {pt2 : Pos} {xs : Exs} (hc : X.calm = true) (hN : X.N.Nodup) (hi : X.N[i]? = some x) (hj : X.N[j]? = some y) (hl : X.N[l]? = some z) (hij : i ≠ j) (hil : i ≠ l) (hjl : j ≠ l)
    (hx : X.env.scope.names.lookup x = some .local) (hy : X.env.scope.names.lookup y = some .local) (hz : X.env.scope.names.lookup z = some .local) (ha : PA X [a, b, c] (tXs (kw X) cA Wx (evXs C xs)))
    (hw : swappedStores [.Tuple [.Name x px, .Name y py, .Name z pz] kt pt] (.Tuple [a, b, c] k2 pt2) X.env = pure (some [x, y, z])) :
    PS X (.Assign [.Tuple [.Name x px, .Name y py, .Name z pz] kt pt] (.Tuple [a, b, c] k2 pt2) pos) (TS' C F cA X Wx (.asg (.t [i, j, l]) (.tup xs))) := ps_imp (ps_par3 hc hN hi hj hl hij hil hjl hx hy hz ha hw rfl) fun D σ H ⟨ρ, st, μ, en, s, h⟩ => by
  simp only [evS, evX] at h
  rw [m_assoc] at h
  refine ⟨ρ, st, μ, en, s, h.bind.imp fun ws st1 H1 μ1 s1 r1 h1 vs hvs => ?_⟩
  have h1 : Aft (kw X) cA Wx H1 μ1 ((lift (bindP (.t [i, j, l]) (mkTup ws) ρ) >>= fun ρ' => pure (Fl.nx ρ')) st1) _ := h1
  obtain ⟨ρ', hρ, h1⟩ := h1.liftB
  rw [bindP_mkTup] at hρ
  by_cases z : ws.length = [i, j, l].length
  case neg => rw [if_neg z] at hρ; cases hρ
  rw [if_pos z] at hρ
  obtain ⟨w1, w2, w3, rfl⟩ : ∃ w1 w2 w3, ws = [w1, w2, w3] := by match ws, z with | [w1, w2, w3], _ => exact ⟨_, _, _, rfl⟩
  obtain ⟨v1, _, rfl, hv1, v2, _, rfl, hv2, v3, _, rfl, hv3, rfl⟩ := hvs
  cases hρ
  exact ⟨v1, v2, v3, rfl, h1.ok r1 _ ((((en.stp s1).set hv1).set hv2).set hv3)⟩
/-! ### op= -/
theorem iop_ext3 : OpR X (inplaceOp .Add) (fun x y H Q => ∃ l b xs zs, x = .ref l ∧ y = .ref b ∧ H l = some (.lst xs) ∧ Rd H b (.lst zs) ∧ xs.length + zs.length ≤ sizeLine ∧ Q (.ref l) (upd H l (.lst (xs ++ zs)))) := by
  intro pins s σ H x y v u Q I rx ry h
  obtain ⟨l, b, xs, zs, rfl, rfl, hH, hB, hz, q⟩ := h
  cases rx
  cases ry
  obtain ⟨z, its, n, r, hl, e⟩ := I.lstM hH
  obtain ⟨z2, its2, n2, r2, e2⟩ := hB.ok I.hok
  have hl2 := r2.length
  have hsz : its.toArray.size + its2.toArray.size ≤ sizeLine := by rw [List.size_toArray, List.size_toArray]; omega
  have hlong : ¬ (!its.toArray.isEmpty && Builtin.List.listTooLong (its.toArray.size + its2.toArray.size)) = true := by
    rw [notLongL hsz, Bool.and_false]
    exact Bool.false_ne_true
  refine iadd_road ⟨_, e, rfl⟩ ⟨_, e2, rfl⟩ (call_meets PySem.F.slot_list_iadd ⟨_, e, rfl⟩ PySem.F.entry_list_iadd (PySem.F.args_list_iadd_2 _ _)
    (AutoSeq1.list___iadd___list_list_0 l its.toArray n b its2.toArray n2 hlong (by rw [List.size_toArray]; omega) (by omega)) ⟨e, e2, ?_⟩)
  refine ⟨.ref l, _, I.lset (its' := its ++ its2) (t' := s.toks) hH e (by simp) (r.append r2) ?_, rfl, q⟩
  rw [List.length_append]
  omega
/-- x op= y by values -/
def rAug (K : KW) (op : Operator) : TIp := fun x y H Q => (∃ a b d, Rv K H a x ∧ Rv K H b y ∧ augD op a b = some d ∧ NewD K H d Q) ∨
  (op = .Add ∧ ∃ l b xs zs, x = .ref l ∧ y = .ref b ∧ H l = some (.lst xs) ∧ Rd H b (.lst zs) ∧ xs.length + zs.length ≤ sizeLine ∧ Q (.ref l) (upd H l (.lst (xs ++ zs))))
theorem ip_W {op : Operator} : PIp X op (rAug (kw X) op) := by
  intro pins s σ H x y v u Q I rx ry h
  rcases h with ⟨a, b, d, ha, hb, e, n⟩ | ⟨rfl, h⟩
  · cases op with
    | Add =>
      cases a with
      | int i =>
        cases b with
        | int j => cases e; exact iop_add pins s σ H x y v u Q I rx ry ⟨i, j, ha, hb, n.same rfl⟩
        | _ => cases e
      | str i =>
        cases b with
        | str j =>
          simp only [augD, binD] at e
          split at e
          · rename_i hz
            cases e
            exact iop_add_str pins s σ H x y v u Q I rx ry ⟨i, j, ha, hb, hz, n.same rfl⟩
          · cases e
        | _ => cases e
      | _ => cases e
    | Sub =>
      cases a with
      | int i =>
        cases b with
        | int j => cases e; exact iop_sub pins s σ H x y v u Q I rx ry ⟨i, j, ha, hb, n.same rfl⟩
        | _ => cases e
      | _ => cases e
    | _ => cases e
  · exact iop_ext3 pins s σ H x y v u Q I rx ry h
theorem pS_aug {op : Operator} {i : Nat} {x : Str} {pos' : Pos} (hN : X.N.Nodup) (hi : X.N[i]? = some x) (hx : Loc X.env.scope x) (hf : X.fn x = true ∨ X.env.scope.names.lookup x = some .local) (he : PE X e (TX C cA X Wx xe)) :
    PS X (.AugAssign (.Name x pos') op e pos) (TS' C F cA X Wx (.aug op i xe)) := ps_imp (ps_aug hN hi hx he ip_W hf) fun D σ H ⟨ρ, st, μ, en, s, h⟩ => by
  simp only [evS] at h
  obtain ⟨w, hw, h⟩ := h.liftB
  rw [Option.join_eq_some_iff] at hw
  obtain ⟨v, hv, rv⟩ := en.at_ i w hw
  refine ⟨v, hv, ρ, st, μ, en, s, h.bind.imp fun wy st1 H1 μ1 s1 r1 h1 y hy => ?_⟩
  have rv1 := RW.stp s1 _ _ rv
  have ry := RW.vw r1 hy
  have en1 := en.stp s1
  have h1 : Aft (kw X) cA Wx H1 μ1 ((augM op w (vw wy st1) >>= fun w => pure (Fl.nx (ρ.set i (some w)))) st1) (PF (kw X) D) := h1
  have h2 := h1.bind
  cases w with
  | ref n =>
    obtain ⟨l, hl, rfl⟩ := rv1
    obtain ⟨c, ec, qc⟩ := r1.cell hl
    simp only [augM, ec] at h2
    cases c with
    | dic _ _ =>
      revert h2
      cases vw wy st1 with
      | dat d => cases d <;> cases op <;> exact fun h => False.elim h
      | _ => cases op <;> exact fun h => False.elim h
    | lst xs =>
      obtain ⟨vs, hH, hr⟩ := qc
      obtain ⟨rfl, ys, q1⟩ : op = .Add ∧ ∃ ys, vw wy st1 = .dat (.lst ys) := by
        revert h2
        cases vw wy st1 with
        | dat d => cases d <;> cases op <;> first | exact fun _ => ⟨rfl, _, rfl⟩ | exact fun h => False.elim h
        | _ => cases op <;> exact fun h => False.elim h
      rw [q1] at h2 ry
      obtain ⟨b, zs, rfl, hb, hz⟩ := ry
      by_cases z : xs.length + ys.length ≤ bigLine
      · simp only [z, if_true] at h2
        refine .inr ⟨rfl, l, b, vs, zs, rfl, rfl, hH, hb, by rw [hr.length, hz.length]; exact z, ?_⟩
        have stp := Stp.write (o := .lst (vs ++ zs)) r1 (List.mem_of_getElem? hl)
        have r2 := r1.put hl (c := .lst (xs ++ ys)) ⟨_, upd_same, (Rps.ext stp.ext _ _ hr).append (Rps.ext stp.ext _ _ hz)⟩
        exact (h2 _ _ stp r2).ok r2 _ ((en1.stp stp).set (w := .ref n) ⟨l, hl, rfl⟩)
      · simp only [z, if_false] at h2; exact h2.elim
  | dat dx =>
    obtain ⟨w2, e2, h3⟩ := Aft.lift (o := (dat? (vw wy st1)).bind fun dy => (augD op dx dy).map W.dat) h2 r1
    cases q : vw wy st1 with
    | dat dy =>
      rw [q] at e2 ry
      cases ed : augD op dx dy with
      | none => simp [dat?, ed] at e2
      | some d =>
        simp only [dat?, ed, Option.bind_some, Option.map_some, Option.some.injEq] at e2
        subst e2
        exact .inl ⟨dx, dy, d, Rp.rv rv1, ry, ed, fun v' H' k hv' => h3 _ _ (.keep k) (r1.keep k) _ ((en1.stp (.keep k)).set hv')⟩
    | _ => rw [q] at e2; cases e2
  | _ => exact h2.elim
/-! ### o[i] = e -/
/-- a cell's item is set -/
def rSetW (K : KW) (H : Hp) (μ : List Addr) (st : Store) (Q : Hp → Store → Prop) (n : Nat) (di dw : D) (o i v : V) : Prop := ∃ a c c', o = .ref a ∧ μ[n]? = some a ∧ StR K H st μ ∧ st[n]? = some c ∧ setC c di dw = some c' ∧ Rp K H di i ∧ Rp K H dw v ∧
  ∀ u, Stp H μ (upd H a u) μ → StR K (upd H a u) (st.set n c') μ → Q (upd H a u) (st.set n c')
theorem set_W (hu : X.A.units + 100 < cLine) : PSet X (fun o i v H Q => ∃ μ st n di dw, rSetW (kw X) H μ st (fun H' _ => Q H') n di dw o i v) := by
  intro pins s σ H o i v ov iv u Q I ro ri rv h
  obtain ⟨μ, st, n, di, dw, a, c, c', rfl, hμ, sr, hc, hs, hi, hv, q⟩ := h
  obtain ⟨c2, ec, qc⟩ := sr.cell hμ
  rw [hc] at ec; cases ec
  cases c with
  | lst xs =>
    obtain ⟨vs, hH, hr⟩ := qc
    cases di with
    | int k =>
      simp only [setC, Option.map_eq_some_iff] at hs
      obtain ⟨j, hj, rfl⟩ := hs
      refine set_list pins s σ H _ _ v ov iv u Q I ro ri rv ⟨a, vs, k, j, rfl, hi, hH, by rw [hr.length]; exact hj, ?_⟩
      have stp := Stp.write (o := .lst (vs.set j v)) sr (List.mem_of_getElem? hμ)
      exact q _ stp (sr.put hμ ⟨_, upd_same, (Rps.ext stp.ext _ _ hr).set j (Rp.ext stp.ext _ _ hv)⟩)
    | _ => cases hs
  | dic t kvs =>
    simp only [setC, Bool.and_eq_true, decide_eq_true_eq] at hs
    split at hs
    · rename_i hk
      cases hs
      cases ro
      refine dc_setItem (by omega) I qc hk.1 hk.2 hi ri hv rv fun ob s' ic I' hd => ⟨_, I', ?_⟩
      have stp := Stp.write (o := ob) sr (List.mem_of_getElem? hμ)
      exact q _ stp (sr.put hμ (hd fun b u hb hne => by rw [upd_ne hne]; exact hb))
    · cases hs
theorem pS_sst {i : Expr} {tpos : Pos} (hu : X.A.units + 100 < cLine) (he : PE X e (TX C cA X Wx xe)) (ho : PE X o (TX C cA X Wx xo)) (hi : PE X i (TX C cA X Wx xi)) (ha : ∀ v, assign (.Subscript o i tpos) X.env v = (do
      let ov ← holding [v] (eval o X.env)
      let iv ← holding [v, ov] (eval i X.env)
      standAt tpos
      holding [v, ov, iv] (setItem ov iv v)
      release [v, ov, iv] [])) (hs : swapsWithSole [.Subscript o i tpos] e pos.line X.env = pure false) (hw : swappedStores [.Subscript o i tpos] e X.env = pure none)
    (h1 : (assignEach [.Subscript o i tpos] X.env).map (·.2) = [assign (.Subscript o i tpos) X.env]) : PS X (.Assign [.Subscript o i tpos] e pos) (TS' C F cA X Wx (.sst xo xi xe)) := ps_imp (ps_asg he (pg_sub ho hi (set_W hu) ha) hs hw h1) fun D σ H ⟨ρ, st, μ, en, s, h⟩ => by
  simp only [evS] at h
  refine ⟨ρ, st, μ, en, s, h.bind.imp fun we st1 H1 μ1 s1 r1 h1 v hv => ⟨ρ, st1, μ1, en.stp s1, r1, h1.bind.imp fun wo st2 H2 μ2 s2 r2 h2 u hu => ⟨ρ, st2, μ2, en.stp (s1.trans s2), r2, h2.bind.imp fun wi st3 H3 μ3 s3 r3 h3 y hy => ?_⟩⟩⟩
  unfold evPut at h3
  rw [m_assoc] at h3
  obtain ⟨n, en', h4⟩ := h3.liftB
  clear h3
  rw [m_assoc] at h4
  obtain ⟨di, ei, h5⟩ := h4.liftB
  clear h4
  rw [m_assoc] at h5
  obtain ⟨dw, ew, h3⟩ := h5.liftB
  clear h5
  rw [bind_eq] at h3
  cases wo with
  | ref m =>
    obtain rfl : m = n := Option.some.inj en'
    cases wi with
    | dat di' =>
      cases ei
      cases we with
      | dat dw' =>
        cases ew
        obtain ⟨l, hl, rfl⟩ := RW.stp s3 _ _ hu
        obtain ⟨c, ec, qc⟩ := r3.cell hl
        rw [ec] at h3
        simp only [Option.bind_some] at h3
        cases q : setC c di dw with
        | none => rw [q] at h3; exact h3.elim
        | some c' =>
          rw [q] at h3
          have hv3 : Rp (kw X) H3 dw v := RW.stp (s2.trans s3) (.dat dw) _ hv
          exact ⟨μ3, st3, m, di, dw, l, c, c', rfl, hl, r3, ec, q, hy, hv3, fun u stp r4 => h3 _ _ stp r4 _ (en.stp (((s1.trans s2).trans s3).trans stp))⟩
      | _ => cases ew
    | _ => cases ei
  | _ => cases en'
/-! ### for -/
theorem forGo_step {n : Option Nat} {st0 : Store} {f : W → Env → M Fl} {w : W} {ws : List W} {ρ : Env} {st : Store} {H1 H2 : Hp} {μ1 μ2 : List Addr} {P : Fl → Store → Hp → List Addr → Prop} (s : Stp H1 μ1 H2 μ2)
    (h : Aft (kw X) cA Wx H1 μ1 (forGo n st0 f (w :: ws) ρ st) P) : Aft (kw X) cA Wx H2 μ2 (f w ρ st) fun fl st' H' μ' => match fl with
      | .nx ρ' => stays n st0 st' = true ∧ Aft (kw X) cA Wx H1 μ1 (forGo n st0 f ws ρ' st') P
      | .ct ρ' => stays n st0 st' = true ∧ Aft (kw X) cA Wx H1 μ1 (forGo n st0 f ws ρ' st') P
      | .brk ρ' => P (.nx ρ') st' H' μ'
      | .ret w => P (.ret w) st' H' μ' := by
  unfold forGo at h
  cases q : f w ρ st with
  | ok fl st' =>
    rw [q] at h
    intro H' μ' s' r'
    cases fl with
    | nx ρ' =>
      by_cases z : stays n st0 st' = true
      · simp only [z, if_true] at h; exact ⟨z, h⟩
      · simp only [z] at h; exact h.elim
    | ct ρ' =>
      by_cases z : stays n st0 st' = true
      · simp only [z, if_true] at h; exact ⟨z, h⟩
      · simp only [z] at h; exact h.elim
    | brk ρ' => exact h H' μ' (s.trans s') r'
    | ret w => exact h H' μ' (s.trans s') r'
  | exn x st' => rw [q] at h; exact fun c d H' μ' s' r' => h c d H' μ' (s.trans s') r'
  | stuck => rw [q] at h; exact h.elim
theorem pS_for {body : List Stmt} {ys : Ss} (hp : PassesOwn (model X.prog X.w) X.A X.env X.xe) (hc : X.calm = true) (hi : PI X tg iter (TIt C cA X Wx it)) (hg : PG X tg (gP (kw X) p)) (hb : PSs X body (TSs C F cA X Wx ys))
    (hs : ∀ x, foldedSetIterable iter X.env x = pure x) : PS X (.For tg iter body [] pos) (TS' C F cA X Wx (.for p it ys)) := ps_imp (ps_for hp hc hi hg hb hs) fun D σ H ⟨ρ, st, μ, en, sr, h⟩ => by
  simp only [evS] at h
  refine ⟨ρ, st, μ, en, sr, h.bind.imp fun pr st1 H1 μ1 s1 r1 h1 J hJ => ?_⟩
  obtain ⟨ws, n⟩ := pr
  have hJ : WOk (kw X) H1 μ1 st1 J ws n := hJ
  have h1 : Aft (kw X) cA Wx H1 μ1 (forGo n st1 (fun w ρ => lift (bindP p w ρ) >>= fun ρ' => evSs C F ys ρ') ws ρ st1) (PF (kw X) D) := h1
  refine ⟨fun i m σ H => m = ws.length - i ∧ i ≤ ws.length ∧ ∃ ρ st μ, EnvR (kw X) H μ ρ σ ∧ Stp H1 μ1 H μ ∧ StR (kw X) H st μ ∧ stays n st1 st = true ∧ Aft (kw X) cA Wx H1 μ1 (forGo n st1 (fun w ρ => lift (bindP p w ρ) >>= fun ρ' => evSs C F ys ρ') (ws.drop i) ρ st) (PF (kw X) D), ⟨ws.length, by simp, Nat.zero_le _, ρ, st1, μ1, en.stp s1, .refl, r1, hJ.self, by rw [List.drop_zero]; exact h1⟩, ?_⟩
  rintro i m σ2 H2 ⟨rfl, hi, ρ2, st2, μ2, en2, s2, r2, hst, ha⟩
  by_cases hlt : i < ws.length
  · refine .inr ⟨hJ.goes i H2 μ2 st2 s2 r2 hst hlt, fun σ' H' => i + 1 ≤ ws.length ∧ ∃ ρ st μ, EnvR (kw X) H' μ ρ σ' ∧ Stp H1 μ1 H' μ ∧ StR (kw X) H' st μ ∧ stays n st1 st = true ∧ Aft (kw X) cA Wx H1 μ1 (forGo n st1 (fun w ρ => lift (bindP p w ρ) >>= fun ρ' => evSs C F ys ρ') (ws.drop (i + 1)) ρ st) (PF (kw X) D), ?_, ?_⟩
    · rintro σ' H' ⟨hi', q⟩
      exact ⟨ws.length - (i + 1), by omega, rfl, hi', q⟩
    · intro x H3 hy
      obtain ⟨k3, w, hw, hx⟩ := hJ.yields i x H2 H3 μ2 st2 s2 r2 hst hlt hy
      have s3 : Stp H2 μ2 H3 μ2 := .keep k3
      have hdrop : ws.drop i = w :: ws.drop (i + 1) := by
        obtain ⟨hl, e⟩ := List.getElem?_eq_some_iff.mp hw
        rw [← e]; exact List.drop_eq_getElem_cons hl
      rw [hdrop] at ha
      have ha := forGo_step (s2.trans s3) ha
      obtain ⟨ρ', hρ, ha⟩ := ha.liftB
      refine ⟨w, ρ2, ρ', μ2, hx, en2.stp s3, hρ, fun σ' en' _ => ⟨ρ', st2, μ2, en', r2.keep k3, ha.imp fun fl st4 H4 μ4 s4 r4 h4 => ?_⟩⟩
      cases fl with
      | nx ρ4 => exact fun σ4 en4 => ⟨hlt, ρ4, st4, μ4, en4, (s2.trans s3).trans s4, r4, h4.1, h4.2⟩
      | ct ρ4 => exact fun σ4 en4 => ⟨hlt, ρ4, st4, μ4, en4, (s2.trans s3).trans s4, r4, h4.1, h4.2⟩
      | brk ρ4 => exact h4
      | ret w => exact h4
  · have e : i = ws.length := by omega
    subst e
    refine .inl ⟨hJ.stops H2 μ2 st2 s2 r2 hst, ?_⟩
    rw [List.drop_length] at ha
    exact ha H2 μ2 s2 r2 σ2 en2
theorem pS_wh {body : List Stmt} {ys : Ss} (hp : PassesOwn (model X.prog X.w) X.A X.env X.xe) (hc : PT X c (TT' C cA X Wx xe)) (hb : PSs X body (TSs C F cA X Wx ys)) : PS X (.While c body [] pos) (TS' C F cA X Wx (.wh xe ys)) := ps_imp (ps_while hp hc hb) fun D σ H ⟨ρ, st, μ, en, sr, h⟩ => by
  simp only [evS] at h
  refine ⟨fun m σ' H' => ∃ ρ' st' μ', EnvR (kw X) H' μ' ρ' σ' ∧ StR (kw X) H' st' μ' ∧ Aft (kw X) cA Wx H' μ' (whGo (evX C xe) (evSs C F ys) m ρ' st') (PF (kw X) D), ⟨F, ρ, st, μ, en, sr, h⟩, ?_⟩
  rintro m σ1 H1 ⟨ρ1, st1, μ1, en1, r1, h1⟩
  cases m with
  | zero => exact h1.elim
  | succ k =>
    have h1 : Aft (kw X) cA Wx H1 μ1 ((evT C xe ρ1 >>= fun b => match b with
      | false => pure (Fl.nx ρ1)
      | true => evSs C F ys ρ1 >>= fun fl => match fl with
        | .nx ρ' => whGo (evX C xe) (evSs C F ys) k ρ'
        | .ct ρ' => whGo (evX C xe) (evSs C F ys) k ρ'
        | .brk ρ' => pure (.nx ρ')
        | .ret w => pure (.ret w)) st1) (PF (kw X) D) := h1
    refine ⟨ρ1, st1, μ1, en1, r1, h1.bind.imp fun b st2 H2 μ2 s2 r2 h2 => ?_⟩
    cases b with
    | false =>
      simp only [Bool.false_eq_true, if_false]
      exact h2.ok r2 _ (en1.stp s2)
    | true =>
      simp only [if_true]
      refine ⟨fun σ' H' => ∃ ρ' st' μ', EnvR (kw X) H' μ' ρ' σ' ∧ StR (kw X) H' st' μ' ∧ Aft (kw X) cA Wx H' μ' (whGo (evX C xe) (evSs C F ys) k ρ' st') (PF (kw X) D), fun σ' H' q => ⟨k, Nat.lt_succ_self _, q⟩, ρ1, st2, μ2, en1.stp s2, r2, ?_⟩
      have h2 : Aft (kw X) cA Wx H2 μ2 ((evSs C F ys ρ1 >>= fun fl => match fl with
        | .nx ρ' => whGo (evX C xe) (evSs C F ys) k ρ'
        | .ct ρ' => whGo (evX C xe) (evSs C F ys) k ρ'
        | .brk ρ' => pure (.nx ρ')
        | .ret w => pure (.ret w)) st2) (PF (kw X) D) := h2
      refine h2.bind.imp fun fl st3 H3 μ3 s3 r3 h3 => ?_
      cases fl with
      | nx ρ3 => exact fun σ3 en3 => ⟨ρ3, st3, μ3, en3, r3, h3⟩
      | ct ρ3 => exact fun σ3 en3 => ⟨ρ3, st3, μ3, en3, r3, h3⟩
      | brk ρ3 => exact h3.ok r3
      | ret w => exact h3.ok r3
end
end Ev

/-! EvK: chains of two comparisons; a choice as a test. -/
namespace Ev
open PySem PySem.Spec PyProof.Rows L2 PySem.W
section
variable {C : Nat → List W → M W} {cA : Nat → Addr} {X : Cx} {Wx : Value → Option Addr → Hp → Prop} {a b c e : Expr} {pos : Pos} {xa xb xc xe : Ex}
theorem pX_cmp2 {op op' : CmpOp} (hu : X.A.units + 100 < cLine) (hm : lastMarks [op, op'] [b, c] = false) (ha : PE X a (TX C cA X Wx xa)) (hb : PE X b (TX C cA X Wx xb)) (hc : PE X c (TX C cA X Wx xc)) : PE X (.Compare a [op, op'] [b, c] pos) (TX C cA X Wx (.cmp2 op op' xa xb xc)) := by
  refine pe_imp (pe_chain (op_cmpW hu) (op_cmpW hu) ha hb hc hm) fun σ H Q ⟨ρ, st, μ, e, s, h⟩ => ?_
  simp only [evX] at h
  refine ⟨ρ, st, μ, e, s, h.bind.imp fun wa st1 H1 μ1 s1 r1 h1 v hv => ⟨ρ, st1, μ1, e.stp s1, r1, h1.bind.imp fun wb st2 H2 μ2 s2 r2 h2 u hu => ?_⟩⟩
  have h3 : Aft (kw X) cA Wx H2 μ2 ((lift (cmpW op (vw wa st2) (vw wb st2)) >>= fun k => match k with
    | false => pure (W.dat (.bl false))
    | true => evX C xc ρ >>= fun z => (fun st => Res.ok (vw wb st) st) >>= fun y' => (fun st => Res.ok (vw z st) st) >>= fun z' => lift (cmpW op' y' z') >>= fun r => pure (W.dat (.bl r))) st2) _ := h2
  obtain ⟨k, ek, h4⟩ := h3.liftB
  refine ⟨μ2, vw wa st2, vw wb st2, k, RW.vw r2 (RW.stp s2 _ _ hv), RW.vw r2 hu, ek, k, rfl, ?_⟩
  cases k with
  | false =>
    simp only [Bool.false_eq_true, if_false]
    exact h4.ok r2 _ rfl
  | true =>
    simp only [if_true]
    have h4 : Aft (kw X) cA Wx H2 μ2 ((evX C xc ρ >>= fun z => (fun st => Res.ok (vw wb st) st) >>= fun y' => (fun st => Res.ok (vw z st) st) >>= fun z' => lift (cmpW op' y' z') >>= fun r => pure (W.dat (.bl r))) st2) _ := h4
    refine ⟨ρ, st2, μ2, e.stp (s1.trans s2), r2, h4.bind.imp fun wc st3 H3 μ3 s3 r3 h5 y hy => ?_⟩
    have h6 : Aft (kw X) cA Wx H3 μ3 ((lift (cmpW op' (vw wb st3) (vw wc st3)) >>= fun r => pure (W.dat (.bl r))) st3) _ := h5
    obtain ⟨r, er2, h7⟩ := h6.liftB
    exact ⟨μ3, vw wb st3, vw wc st3, r, RW.vw r3 (RW.stp s3 _ _ hu), RW.vw r3 hy, er2, h7.ok r3 _ rfl⟩
theorem pT_cmp2 {op op' : CmpOp} (hu : X.A.units + 100 < cLine) (hm : lastMarks [op, op'] [b, c] = false) (ha : PE X a (TX C cA X Wx xa)) (hb : PE X b (TX C cA X Wx xb)) (hc : PE X c (TX C cA X Wx xc)) : PT X (.Compare a [op, op'] [b, c] pos) (TT' C cA X Wx (.cmp2 op op' xa xb xc)) := by
  refine pt_imp (pt_chain (op_cmpW hu) (op_cmpW hu) ha hb hc hm) fun σ H Q h => ?_
  have h0 : TX C cA X Wx (.cmp2 op op' xa xb xc) σ H (fun v H' => ∃ k, v = .bl k ∧ Q k H') := tB_of h
  obtain ⟨ρ, st, μ, e, s, h⟩ := h0
  simp only [evX] at h
  refine ⟨ρ, st, μ, e, s, h.bind.imp fun wa st1 H1 μ1 s1 r1 h1 v hv => ⟨ρ, st1, μ1, e.stp s1, r1, h1.bind.imp fun wb st2 H2 μ2 s2 r2 h2 u hu => ?_⟩⟩
  have h3 : Aft (kw X) cA Wx H2 μ2 ((lift (cmpW op (vw wa st2) (vw wb st2)) >>= fun k => match k with
    | false => pure (W.dat (.bl false))
    | true => evX C xc ρ >>= fun z => (fun st => Res.ok (vw wb st) st) >>= fun y' => (fun st => Res.ok (vw z st) st) >>= fun z' => lift (cmpW op' y' z') >>= fun r => pure (W.dat (.bl r))) st2) _ := h2
  obtain ⟨k, ek, h4⟩ := h3.liftB
  refine ⟨μ2, vw wa st2, vw wb st2, k, RW.vw r2 (RW.stp s2 _ _ hv), RW.vw r2 hu, ek, k, rfl, ?_⟩
  cases k with
  | false =>
    simp only [Bool.false_eq_true, if_false]
    exact h4.ok r2 _ rfl
  | true =>
    simp only [if_true]
    have h4 : Aft (kw X) cA Wx H2 μ2 ((evX C xc ρ >>= fun z => (fun st => Res.ok (vw wb st) st) >>= fun y' => (fun st => Res.ok (vw z st) st) >>= fun z' => lift (cmpW op' y' z') >>= fun r => pure (W.dat (.bl r))) st2) _ := h4
    refine ⟨ρ, st2, μ2, e.stp (s1.trans s2), r2, h4.bind.imp fun wc st3 H3 μ3 s3 r3 h5 y hy => ?_⟩
    have h6 : Aft (kw X) cA Wx H3 μ3 ((lift (cmpW op' (vw wb st3) (vw wc st3)) >>= fun r => pure (W.dat (.bl r))) st3) _ := h5
    obtain ⟨r, er2, h7⟩ := h6.liftB
    exact ⟨μ3, vw wb st3, vw wc st3, r, RW.vw r3 (RW.stp s3 _ _ hu), RW.vw r3 hy, er2, h7.ok r3 _ rfl⟩
theorem pT_ite (hc : PT X c (TT' C cA X Wx xc)) (ha : PT X a (TT' C cA X Wx xa)) (hb : PT X b (TT' C cA X Wx xb)) : PT X (.IfExp c a b pos) (TT' C cA X Wx (.ite xc xa xb)) := by
  refine ⟨fun pins s σ H Q I ⟨ρ, st, μ, e, sr, h⟩ => ?_⟩
  have e2 : evT C (.ite xc xa xb) ρ = (evT C xc ρ >>= fun k => match k with | true => evT C xa ρ | false => evT C xb ρ) := by
    unfold evT
    simp only [evX]
    show (((evX C xc ρ >>= fun w => lift (truth w)) >>= _) >>= fun w => lift (truth w)) = _
    rw [m_assoc]
    congr 1; funext k
    cases k <;> rfl
  rw [e2] at h
  have hc' := hc.run pins s σ H (fun k H1 => if k = true then TT' C cA X Wx xa σ H1 Q else TT' C cA X Wx xb σ H1 Q) I ⟨ρ, st, μ, e, sr, h.bind.imp fun k st1 H1 μ1 s1 r1 h1 => by
    cases k with
    | true => exact ⟨ρ, st1, μ1, e.stp s1, r1, h1⟩
    | false => exact ⟨ρ, st1, μ1, e.stp s1, r1, h1⟩⟩
  show wpAny _ _ (isTrue c X.env (eval c X.env) >>= fun k => if k = true then isTrue a X.env (eval a X.env) else isTrue b X.env (eval b X.env)) _ _ _
  refine wpAny_bind (thn hc' fun k s1 ⟨H1, I1, q1⟩ => ?_)
  cases k with
  | true => exact ha.run pins s1 σ H1 Q I1 q1
  | false => exact hb.run pins s1 σ H1 Q I1 q1
end
end Ev

/-! EvKa: dicts made, asked; a text in capitals. -/
namespace Ev
open PySem PySem.Spec PyProof.Rows L2 PySem.W
section
variable {C : Nat → List W → M W} {cA : Nat → Addr} {X : Cx} {Wx : Value → Option Addr → Hp → Prop} {a b c e o : Expr} {pos apos cpos : Pos} {xa xb xc xe xo : Ex}
/-! ### displays -/
def Kvs.len : Kvs → Nat
  | .nil => 0
  | .cons _ _ r => r.len + 1
def kvTr (C : Nat → List W → M W) (cA : Nat → Addr) (X : Cx) (Wx : Value → Option Addr → Hp → Prop) : Kvs → List (TE × TE)
  | .nil => []
  | .cons k v r => (TX C cA X Wx k, TX C cA X Wx v) :: kvTr C cA X Wx r
/-- the pairs by values -/
def KpR (K : KW) (H : Hp) : List (D × D) → List (V × V) → Prop
  | [], ps => ps = []
  | p :: r, ps => ∃ k v r', ps = (kV k, v) :: r' ∧ p.1 = keyD k ∧ Rp K H p.2 v ∧ KpR K H r r'
theorem KpR.ext {K : KW} {H H' : Hp} {μ : List Addr} (x : Ext μ H H') : ∀ {kvs : List (D × D)} {ps : List (V × V)}, KpR K H kvs ps → KpR K H' kvs ps
  | [], _, h => h
  | p :: r, _, h => by
    obtain ⟨k, v, r', rfl, h1, h2, h3⟩ := h
    exact ⟨k, v, r', rfl, h1, Rp.ext x _ _ h2, KpR.ext x h3⟩
theorem KpR.kv {K : KW} {H : Hp} : ∀ {kvs : List (D × D)} {ps : List (V × V)}, KpR K H kvs ps → ∃ ks : List (Key × V), ps = ks.map (fun kv => (kV kv.1, kv.2)) ∧ KvR K H kvs ks
  | [], _, h => by cases h; exact ⟨[], rfl, rfl⟩
  | p :: r, _, h => by
    obtain ⟨k, v, r', rfl, h1, h2, h3⟩ := h
    obtain ⟨ks, rfl, q⟩ := KpR.kv h3
    exact ⟨(k, v) :: ks, rfl, k, v, ks, rfl, h1, h2, q⟩
theorem pairs_run {σ : L2.St} : ∀ (ps : Kvs) {ρ : Env} {st : Store} {μ : List Addr} {H : Hp} {Q : List (V × V) → Hp → Prop}, EnvR (kw X) H μ ρ σ → StR (kw X) H st μ →
    Aft (kw X) cA Wx H μ (evDi C ps ρ st) (fun kvs _ H' μ' => ∀ vps, KpR (kw X) H' kvs vps → Q vps H') → tPairs (kvTr C cA X Wx ps) σ H Q
  | .nil, ρ, st, μ, H, Q, en, s, h => by
    simp only [evDi] at h
    exact h.ok s [] rfl
  | .cons k v r, ρ, st, μ, H, Q, en, s, h => by
    simp only [evDi] at h
    have h : Aft (kw X) cA Wx H μ (((evX C k ρ >>= fun w => lift (dat? w)) >>= fun a => (evX C v ρ >>= fun w => lift (dat? w)) >>= fun b => evDi C r ρ >>= fun r => if isLeaf a = true then pure ((a, b) :: r) else stk) st) _ := h
    rw [m_assoc] at h
    refine ⟨ρ, st, μ, en, s, h.bind.imp fun wk st1 H1 μ1 s1 r1 h1 x hx => ?_⟩
    obtain ⟨da, ea, h2⟩ := h1.liftB
    rw [m_assoc] at h2
    refine ⟨ρ, st1, μ1, en.stp s1, r1, h2.bind.imp fun wv st2 H2 μ2 s2 r2 h3 y hy => ?_⟩
    obtain ⟨db, eb, h4⟩ := h3.liftB
    refine pairs_run r (en.stp (s1.trans s2)) r2 (h4.bind.imp fun kvs st3 H3 μ3 s3 r3 h5 vps hvps => ?_)
    cases wk with
    | dat d =>
      cases ea
      cases wv with
      | dat d' =>
        cases eb
        by_cases hl : isLeaf da = true
        · rw [if_pos hl] at h5
          obtain ⟨j, rfl⟩ := leaf_key hl
          have e : x = kV j := leaf_rv (Rp.rv hx)
          exact h5.ok r3 _ ⟨j, y, vps, by rw [e], rfl, RW.stp s3 (.dat db) _ hy, hvps⟩
        · rw [if_neg hl] at h5; exact h5.elim
      | _ => cases eb
    | _ => cases ea
theorem KvR.foldl {K : KW} {H : Hp} : ∀ {kvs : List (D × D)} {ks : List (Key × V)} {acc : List (D × D)} {ak : List (Key × V)}, KvR K H kvs ks → KvR K H acc ak → KvR K H (kvs.foldl (fun acc p => putKey acc p.1 p.2) acc) (mergeK ak ks)
  | [], _, _, _, h, ha => by cases h; exact ha
  | p :: r, _, _, _, h, ha => by
    obtain ⟨k, v, r', rfl, h1, h2, h3⟩ := h
    show KvR K H (r.foldl _ (putKey _ p.1 p.2)) (mergeK (putK _ k v) r')
    rw [h1]
    exact KvR.foldl h3 (ha.put k h2)
theorem evDi_len : ∀ (ps : Kvs) (ρ : Env) (st : Store) (kvs : List (D × D)) (st' : Store), evDi C ps ρ st = .ok kvs st' → kvs.length = ps.len
  | .nil, ρ, st, kvs, st', h => by
    simp only [evDi] at h
    cases h; rfl
  | .cons k v r, ρ, st, kvs, st', h => by
    simp only [evDi] at h
    have h : ((evX C k ρ >>= fun w => lift (dat? w)) >>= fun a => (evX C v ρ >>= fun w => lift (dat? w)) >>= fun b => evDi C r ρ >>= fun r => if isLeaf a = true then pure ((a, b) :: r) else stk) st = .ok kvs st' := h
    rw [m_assoc, bind_eq] at h
    cases q : evX C k ρ st with
    | ok w st1 =>
      rw [q] at h
      cases q2 : dat? w with
      | none => simp only [q2, bind_eq, lift_none] at h; cases h
      | some da =>
        simp only [q2, bind_eq, lift_some] at h
        cases q3 : evX C v ρ st1 with
        | ok w2 st2 =>
          simp only [q3] at h
          cases q4 : dat? w2 with
          | none => simp only [q4, lift_none] at h; cases h
          | some db =>
            simp only [q4, lift_some] at h
            cases q5 : evDi C r ρ st2 with
            | ok kvs2 st3 =>
              simp only [q5] at h
              split at h
              · cases h
                simp only [List.length_cons, Kvs.len, evDi_len r ρ st2 kvs2 _ q5]
              · cases h
            | exn _ _ => simp only [q5] at h; cases h
            | stuck => simp only [q5] at h; cases h
        | exn _ _ => simp only [q3] at h; cases h
        | stuck => simp only [q3] at h; cases h
    | exn _ _ => rw [q] at h; cases h
    | stuck => rw [q] at h; cases h
theorem Stp.add {H1 H : Hp} {μ1 μ : List Addr} {D : Addr} (s : Stp H1 μ1 H μ) (hn : H1 D = none) : Stp H1 μ1 H (μ ++ [D]) := by
  obtain ⟨ν, rfl, hν⟩ := s.more
  exact ⟨s.ext, ⟨ν ++ [D], by simp, fun b hb => (List.mem_append.mp hb).elim (hν b) fun z => by simp at z; subst z; exact hn⟩, s.there⟩
theorem StR.add {K : KW} {H : Hp} {st : Store} {μ : List Addr} {D : Addr} {c : Cell} (s : StR K H st μ) (hn : D ∉ μ) (hc : CellR K H c D) : StR K H (st ++ [c]) (μ ++ [D]) := by
  refine ⟨by simp [s.len], List.nodup_append.mpr ⟨s.nd, by simp, fun x hx y hy z => by simp at hy; subst hy; subst z; exact hn hx⟩, fun m c' hm => ?_⟩
  by_cases hl : m < st.length
  · rw [List.getElem?_append_left hl] at hm
    obtain ⟨b, e', q⟩ := s.at_ m c' hm
    exact ⟨b, by rw [List.getElem?_append_left (by rw [s.len]; exact hl)]; exact e', q⟩
  · rw [List.getElem?_append_right (by omega)] at hm
    have e : m = st.length := by
      have := (List.getElem?_eq_some_iff.mp hm).1
      simp at this; omega
    subst e
    simp at hm; subst hm
    exact ⟨D, by rw [List.getElem?_append_right (by rw [s.len]; exact Nat.le_refl _)]; simp [s.len], hc⟩
/-- a display's run, to the new dict -/
theorem disp_run {ps : Kvs} {σ : L2.St} {H : Hp} {Q : VK} (h15 : ps.len ≤ 15) {ρ : Env} {st : Store} {μ : List Addr} (en : EnvR (kw X) H μ ρ σ) (s : StR (kw X) H st μ)
    (h : Aft (kw X) cA Wx H μ (evDi C ps ρ st) (fun kvs st' H' μ' => ∀ p ks, p ∉ μ' → H p = none → H' p = some (.dK []) → KvR (kw X) H' (kvs.foldl (fun acc p => putKey acc p.1 p.2) []) (mergeK [] ks) → Q (.ref p) (upd H' p (.dK (mergeK [] ks))))) : tDisp (kvTr C cA X Wx ps) σ H Q := by
  intro p hp
  have k1 : Keep H (upd H p (.dK [])) := Keep.upd hp
  have s1 : Stp H μ (upd H p (.dK [])) μ := .keep k1
  have np : p ∉ μ := fun z => by obtain ⟨o, e, _⟩ := s.isCell z; rw [hp] at e; cases e
  refine pairs_run ps (en.stp s1) (s.keep k1) ?_
  cases q : evDi C ps ρ st with
  | ok kvs st' =>
    rw [q] at h
    intro H2 μ2 s2 r2 vps hv
    have e2 : H2 p = some (.dK []) := s2.ext _ _ upd_same (.inl np)
    obtain ⟨ks, rfl, hk⟩ := hv.kv
    refine ⟨e2, ks, rfl, by rw [hk.length, evDi_len _ _ _ _ _ q]; exact h15, ?_⟩
    exact h H2 μ2 (s1.trans s2) r2 p ks (s2.notin upd_same np) hp e2 (KvR.foldl hk rfl)
  | exn x st' => rw [q] at h; exact fun c d H' μ' s' r => h c d H' μ' (s1.trans s') r
  | stuck => rw [q] at h; exact h.elim
theorem pX_dic {ps : Kvs} {keys : List (Option Expr)} {values : List Expr} (h : PPs X pos keys values (kvTr C cA X Wx ps)) (hall : keys.all (·.isSome) = true) (hl : keys.length = values.length) (h0 : keys ≠ []) (h15 : keys.length ≤ 15) (hlen : ps.len = keys.length) :
    PE X (.Dict keys values pos) (TX C cA X Wx (.dic ps)) := by
  refine pe_imp (pe_disp h hall hl h0 h15) fun σ H Q ⟨ρ, st, μ, en, s, h⟩ => ?_
  simp only [evX] at h
  refine disp_run (by omega) en s ?_
  cases q : evDi C ps ρ st with
  | ok kvs st' =>
    intro H2 μ2 s2 r2 p ks np hp e2 hk
    rw [bind_eq, q] at h
    have h2 : Aft (kw X) cA Wx H μ (Res.ok (W.fdi false (kvs.foldl (fun acc p => putKey acc p.1 p.2) [])) st') (fun w _ H' μ' => ∀ v, RW (kw X) H' μ' w v → Q v H') := h
    have s3 : Stp H μ (upd H2 p (.dK (mergeK [] ks))) μ2 := s2.late hp
    have r3 : StR (kw X) (upd H2 p (.dK (mergeK [] ks))) st' μ2 := r2.offC np e2 trivial
    exact h2 _ _ s3 r3 _ ⟨p, rfl, np, _, upd_same, hk.ext (ext_updC e2 trivial)⟩
  | exn x st' => rw [bind_eq, q] at h; exact h
  | stuck => rw [bind_eq, q] at h; exact h
theorem pX_nlDic {ps : Kvs} {keys : List (Option Expr)} {values : List Expr} (h : PPs X pos keys values (kvTr C cA X Wx ps)) (hall : keys.all (·.isSome) = true) (hl : keys.length = values.length) (h0 : keys ≠ []) (h15 : keys.length ≤ 15) (hlen : ps.len = keys.length) :
    PE X (.Dict keys values pos) (TX C cA X Wx (.nl (.dic ps))) := by
  refine pe_imp (pe_disp h hall hl h0 h15) fun σ H Q ⟨ρ, st, μ, en, s, h⟩ => ?_
  simp only [evX] at h
  have h : Aft (kw X) cA Wx H μ (((((evDi C ps ρ >>= fun kvs => pure (W.fdi false (kvs.foldl (fun acc p => putKey acc p.1 p.2) []))) >>= fun w => lift (toCell w)) >>= fun c st => Res.ok (W.ref st.length) (st ++ [c]))) st) _ := h
  rw [m_assoc, m_assoc] at h
  refine disp_run (by omega) en s ?_
  cases q : evDi C ps ρ st with
  | ok kvs st' =>
    intro H2 μ2 s2 r2 p ks np hp e2 hk
    rw [bind_eq, q] at h
    have h2 : Aft (kw X) cA Wx H μ (Res.ok (W.ref st'.length) (st' ++ [Cell.dic false (kvs.foldl (fun acc p => putKey acc p.1 p.2) [])])) (fun w _ H' μ' => ∀ v, RW (kw X) H' μ' w v → Q v H') := h
    have s3 : Stp H μ (upd H2 p (.dK (mergeK [] ks))) μ2 := s2.late hp
    have r3 : StR (kw X) (upd H2 p (.dK (mergeK [] ks))) st' μ2 := r2.offC np e2 trivial
    have hc : CellR (kw X) (upd H2 p (.dK (mergeK [] ks))) (.dic false (kvs.foldl (fun acc p => putKey acc p.1 p.2) [])) p := ⟨_, upd_same, hk.ext (ext_updC e2 trivial)⟩
    exact h2 _ (μ2 ++ [p]) (s3.add hp) (r3.add np hc) _ ⟨p, by rw [List.getElem?_append_right (by rw [r2.len]; exact Nat.le_refl _)]; simp [r2.len], rfl⟩
  | exn x st' => rw [bind_eq, q] at h; exact h
  | stuck => rw [bind_eq, q] at h; exact h
theorem pX_ndt : PE X (.Dict [] [] pos) (TX C cA X Wx .ndt) := by
  refine ⟨fun pins s σ H Q I ⟨ρ, st, μ, en, sr, h⟩ => ?_⟩
  simp only [evX] at h
  have h : Aft (kw X) cA Wx H μ (Res.ok (W.ref st.length) (st ++ [Cell.dic true []])) (fun w _ H' μ' => ∀ v, RW (kw X) H' μ' w v → Q v H') := h
  have hp := I.hok.fresh (Nat.le_refl s.heap.objs.size)
  have np : s.heap.objs.size ∉ μ := fun z => by obtain ⟨o, e, _⟩ := sr.isCell z; rw [hp] at e; cases e
  have ok : ObjOk X.prog X.w (upd H s.heap.objs.size (ndO X.w s.heap.objs.size [])) (s.heap.push { cls := .type "dict", data := .dict #[] }) s.heap.objs.size (ndO X.w s.heap.objs.size []) :=
    ndO_ok (Heap.get?_push_size _ rfl) ⟨rfl, rfl, rfl⟩ rfl rfl
  refine wpAny_Dict_empty ⟨.ref s.heap.objs.size, _, I.laid (a := s.heap.objs.size) (o := ndO X.w s.heap.objs.size []) (t' := s.toks) (fun _ _ q => Heap.get?_push_of_some _ q) (Nat.le_refl _) ok, rfl, ?_⟩
  have k : Keep H (upd H s.heap.objs.size (ndO X.w s.heap.objs.size [])) := Keep.upd hp
  have hs : (s.heap.objs.size == sysModules) = false := beq_eq_false_iff_ne.mpr (Nat.ne_of_gt I.big)
  refine h _ (μ ++ [s.heap.objs.size]) (Stp.push hp) (sr.push hp ⟨[], upd_same, hs, Nat.zero_le _, List.nodup_nil, rfl⟩) _ ⟨_, ?_, rfl⟩
  rw [List.getElem?_append_right (by rw [sr.len]; exact Nat.le_refl _)]
  simp [sr.len]
/-! ### methods that ask -/
theorem mt_open {m : Mt} {es : Exs} {σ : L2.St} {H : Hp} {Q : VK} (hm : m.muts = false) (h : TX C cA X Wx (.mt m xo es) σ H Q) : TX C cA X Wx xo σ H fun x H1 => ∃ wo ρ st1 μ1, EnvR (kw X) H1 μ1 ρ σ ∧ StR (kw X) H1 st1 μ1 ∧ RW (kw X) H1 μ1 wo x ∧ m.fits (vw wo st1) = true ∧
    Aft (kw X) cA Wx H1 μ1 (evXs C es ρ st1) fun ws st2 H2 μ2 => ∃ w, mtW m (vw wo st2) ws = some w ∧ RV (kw X) H2 μ2 (vw wo st2) x ∧ ∀ v H' (_ : Keep H2 H'), RW (kw X) H' μ2 w v → Q v H' := by
  obtain ⟨ρ, st, μ, en, sr, h⟩ := h
  simp only [evX, hm, Bool.false_eq_true, if_false] at h
  refine ⟨ρ, st, μ, en, sr, h.bind.imp fun wo st1 H1 μ1 s1 r1 h1 x hx => ?_⟩
  have h2 : Aft (kw X) cA Wx H1 μ1 (if m.fits (vw wo st1) = true then (evXs C es ρ >>= fun ws => (fun st => Res.ok (vw wo st) st) >>= fun x => lift (mtW m x ws)) st1 else .stuck) (fun w _ H' μ' => ∀ v, RW (kw X) H' μ' w v → Q v H') := h1
  by_cases hf : m.fits (vw wo st1) = true
  · rw [if_pos hf] at h2
    refine ⟨wo, ρ, st1, μ1, en.stp s1, r1, hx, hf, h2.bind.imp fun ws st2 H2 μ2 s2 r2 h3 => ?_⟩
    have h4 : Aft (kw X) cA Wx H2 μ2 (lift (mtW m (vw wo st2) ws) st2) (fun w _ H' μ' => ∀ v, RW (kw X) H' μ' w v → Q v H') := h3
    cases q : mtW m (vw wo st2) ws with
    | none => rw [q] at h4; exact h4.elim
    | some w =>
      rw [q] at h4
      exact ⟨w, rfl, RW.vw r2 (RW.stp s2 _ _ hx), fun v H' k hv => h4 H' μ2 (.keep k) (r2.keep k) v hv⟩
  · rw [if_neg hf] at h2; exact h2.elim
theorem pX_get1 {e : Expr} (hu : X.A.units + 100 < cLine) (ho : PE X o (TX C cA X Wx xo)) (he : PE X e (TX C cA X Wx xe)) (hbase : attributeBase o "get" X.env (eval o X.env) = eval o X.env) (hline : (apos.endLine == cpos.line) = true)
    (hs : starEach [e] X.env = [(false, eval e X.env)]) : PE X (.Call (.Attribute o "get" apos) [e] [] cpos) (TX C cA X Wx (.mt .get xo (.cons xe .nil))) := by
  have m : M1 X o "get" apos e cpos := ⟨hbase, by rw [hs]; rfl, hline, by rw [hs]; rfl⟩
  refine ⟨fun pins s σ H Q I h => ?_⟩
  have h := mt_open rfl h
  refine wpAny_Call_method m.base m.few m.line PySem.F.plainAttrs_dict PySem.F.slot_dict_get PySem.F.type_dict_get (thn (ho.run pins s σ H _ I h) fun u s1 ⟨x, H1, I1, rx, wo, ρ, st1, μ1, en1, r1, hx, hf, h2⟩ => ?_)
  have rv := RW.vw r1 hx
  obtain ⟨t, kvs, a, rfl, hd⟩ : ∃ t kvs a, x = .ref a ∧ DcR (kw X) H1 t kvs a := by
    cases q : vw wo st1 with
    | fdi t kvs => rw [q] at rv; obtain ⟨a, e, hd⟩ := rv; exact ⟨t, kvs, a, e, hd⟩
    | _ => rw [q] at hf; cases hf
  cases rx
  refine ⟨dc_typeIs I1 hd, dc_noDict I1 hd, ?_⟩
  rw [m.trees]
  simp only [evXs] at h2
  refine Calls.callWith_builtin rfl (Calls.evalArgs_plain (Calls.spliced_cons (thn (he.run pins s1 σ H1 (fun y H2 => ∃ μ2 w wy t kvs, RW (kw X) H2 μ2 wy y ∧ RV (kw X) H2 μ2 (.fdi t kvs) (.ref a) ∧ mtW .get (.fdi t kvs) [wy] = some w ∧ ∀ v H' (_ : Keep H2 H'), RW (kw X) H' μ2 w v → Q v H') I1 ⟨ρ, st1, μ1, en1, r1, h2.bind.imp fun wy st2 H2 μ2 s2 r2 h3 y hy => ?_⟩) fun iv s2 ⟨y, H2, I2, ry, μ2, w, wy, t, kvs, hy, hD, hw, q2⟩ => Calls.spliced_nil ?_)))
  · obtain ⟨w, hw, hD, q2⟩ := h3.ok r2
    cases q : vw wo st2 with
    | fdi t' kvs' => rw [q] at hw hD; exact ⟨μ2, w, wy, t', kvs', hy, hD, hw, q2⟩
    | _ => rw [q] at hw; cases hw
  · obtain ⟨a', ea, hd2⟩ := hD
    cases ea
    cases wy with
    | dat k =>
      simp only [mtW] at hw
      by_cases hk : isKeyT t k = true
      · rw [if_pos hk] at hw
        cases hw
        exact dc_get1 (by omega) I2 hd2 hk (Rp.rv hy) ry fun v w' s' I' hv rv' => ⟨v, H2, I', rv', q2 v H2 .refl hv⟩
      · rw [if_neg hk] at hw; cases hw
    | _ => cases hw
theorem pX_get2 {e f : Expr} {xf : Ex} (hu : X.A.units + 100 < cLine) (ho : PE X o (TX C cA X Wx xo)) (he : PE X e (TX C cA X Wx xe)) (hf' : PE X f (TX C cA X Wx xf)) (hbase : attributeBase o "get" X.env (eval o X.env) = eval o X.env) (hline : (apos.endLine == cpos.line) = true)
    (hs : starEach [e, f] X.env = [(false, eval e X.env), (false, eval f X.env)]) : PE X (.Call (.Attribute o "get" apos) [e, f] [] cpos) (TX C cA X Wx (.mt .get xo (.cons xe (.cons xf .nil)))) := by
  have m : M2 X o "get" apos e f cpos := ⟨hbase, by rw [hs]; rfl, hline, by rw [hs]; rfl⟩
  refine ⟨fun pins s σ H Q I h => ?_⟩
  have h := mt_open rfl h
  refine wpAny_Call_method m.base m.few m.line PySem.F.plainAttrs_dict PySem.F.slot_dict_get PySem.F.type_dict_get (thn (ho.run pins s σ H _ I h) fun u s1 ⟨x, H1, I1, rx, wo, ρ, st1, μ1, en1, r1, hx, hf, h2⟩ => ?_)
  have rv := RW.vw r1 hx
  obtain ⟨t, kvs, a, rfl, hd⟩ : ∃ t kvs a, x = .ref a ∧ DcR (kw X) H1 t kvs a := by
    cases q : vw wo st1 with
    | fdi t kvs => rw [q] at rv; obtain ⟨a, e, hd⟩ := rv; exact ⟨t, kvs, a, e, hd⟩
    | _ => rw [q] at hf; cases hf
  cases rx
  refine ⟨dc_typeIs I1 hd, dc_noDict I1 hd, ?_⟩
  rw [m.trees]
  simp only [evXs] at h2
  refine Calls.callWith_builtin rfl (Calls.evalArgs_plain (Calls.spliced_cons (thn (he.run pins s1 σ H1 (fun y H2 => ∃ st2 μ2 wy, EnvR (kw X) H2 μ2 ρ σ ∧ StR (kw X) H2 st2 μ2 ∧ RW (kw X) H2 μ2 wy y ∧ Aft (kw X) cA Wx H2 μ2 (evX C xf ρ st2) fun wz st3 H3 μ3 => ∀ z, RW (kw X) H3 μ3 wz z → ∃ w t kvs, RV (kw X) H3 μ3 (.fdi t kvs) (.ref a) ∧ mtW .get (.fdi t kvs) [wy, wz] = some w ∧ RW (kw X) H3 μ3 wy y ∧ ∀ v H' (_ : Keep H3 H'), RW (kw X) H' μ3 w v → Q v H') I1 ⟨ρ, st1, μ1, en1, r1, h2.bind.imp fun wy st2 H2 μ2 s2 r2 h3 y hy => ?_⟩) fun iv s2 ⟨y, H2, I2, ry, st2, μ2, wy, en2, r2, hy, h4⟩ =>
    Calls.spliced_cons (thn (hf'.run pins s2 σ H2 (fun z H3 => ∃ μ3 wz w t kvs, RW (kw X) H3 μ3 wz z ∧ RV (kw X) H3 μ3 (.fdi t kvs) (.ref a) ∧ mtW .get (.fdi t kvs) [wy, wz] = some w ∧ RW (kw X) H3 μ3 wy y ∧ ∀ v H' (_ : Keep H3 H'), RW (kw X) H' μ3 w v → Q v H') I2 ⟨ρ, st2, μ2, en2, r2, h4.imp fun wz st3 H3 μ3 s3 r3 h5 z hz => ?_⟩) fun fv s3 ⟨z, H3, I3, rz, μ3, wz, w, t, kvs, hz, hD, hw, hy3, q2⟩ => Calls.spliced_nil ?_))))
  · refine ⟨st2, μ2, wy, en1.stp s2, r2, hy, ?_⟩
    rw [m_assoc] at h3
    refine h3.bind.imp fun wz st3 H3 μ3 s3 r3 h5 z hz => ?_
    obtain ⟨w, hw, hD, q2⟩ := h5.ok r3
    cases q : vw wo st3 with
    | fdi t' kvs' => rw [q] at hw hD; exact ⟨w, t', kvs', hD, hw, RW.stp s3 _ _ hy, q2⟩
    | _ => rw [q] at hw; cases hw
  · obtain ⟨w, t, kvs, a1, a2, a3, a4⟩ := h5 z hz
    exact ⟨μ3, wz, w, t, kvs, hz, a1, a2, a3, a4⟩
  · obtain ⟨a', ea, hd2⟩ := hD
    cases ea
    cases wy with
    | dat k =>
      cases wz with
      | dat df =>
        simp only [mtW] at hw
        by_cases hk : isKeyT t k = true
        · rw [if_pos hk] at hw
          cases hw
          exact dc_get2 (by omega) I3 hd2 hk (Rp.rv hy3) ry hz rz fun v w' s' I' hv rv' => ⟨v, H3, I', rv', q2 v H3 .refl hv⟩
        · rw [if_neg hk] at hw; cases hw
      | _ => cases hw
    | _ => cases wz <;> cases hw
theorem pX_upper (ho : PE X o (TX C cA X Wx xo)) (hbase : attributeBase o "upper" X.env (eval o X.env) = eval o X.env) (hline : (apos.endLine == cpos.line) = true) : PE X (.Call (.Attribute o "upper" apos) [] [] cpos) (TX C cA X Wx (.mt .upper xo .nil)) := by
  refine pe_imp (pe_upper ho hbase hline) fun σ H Q h => ?_
  have h := mt_open rfl h
  obtain ⟨ρ, st, μ, en, sr, h⟩ := h
  refine ⟨ρ, st, μ, en, sr, h.imp fun w st1 H1 μ1 s1 r1 h1 x hx => ?_⟩
  obtain ⟨wo, ρ', st2, μ2, en2, r2, hx2, hf, h2⟩ := h1 x hx
  simp only [evXs] at h2
  obtain ⟨w, hw, hD, q2⟩ := h2.ok r2
  cases q : vw wo st2 with
  | dat d =>
    rw [q] at hw hD
    cases d with
    | str z =>
      have hw : (if z.length ≤ 5592405 then some (W.dat (.str (Txt.upper z))) else none) = some w := hw
      by_cases hl : z.length ≤ 5592405
      · rw [if_pos hl] at hw; cases hw
        exact ⟨⟨z, hD⟩, z, hD, rfl, hl, q2 _ H1 .refl rfl⟩
      · rw [if_neg hl] at hw; cases hw
    | _ => cases hw
  | _ => rw [q] at hw; cases hw
end
end Ev

/-! EvQ: len(set(xs)). -/
namespace Ev
open PySem PySem.Spec PyProof.Rows L2 PySem.W
theorem leaf_keys : ∀ {xs : List D}, xs.all isLeaf = true → ∃ ks : List Key, xs = ks.map keyD
  | [], _ => ⟨[], rfl⟩
  | x :: xs, h => by
    simp only [List.all_cons, Bool.and_eq_true] at h
    obtain ⟨k, rfl⟩ := leaf_key h.1
    obtain ⟨ks, rfl⟩ := leaf_keys h.2
    exact ⟨k :: ks, rfl⟩
theorem anyEq_keys (k : Key) : ∀ ks : List Key, anyEq (keyD k) (ks.map keyD) = decide (k ∈ ks)
  | [] => (decide_eq_false (fun h => nomatch h)).symm
  | j :: ks => by
    show (eqD (keyD j) (keyD k) || anyEq (keyD k) (ks.map keyD)) = _
    rw [eqD_keyD, anyEq_keys k ks]
    by_cases hj : j = k
    · rw [decide_eq_true hj, Bool.true_or]
      exact (decide_eq_true (by rw [hj]; exact List.mem_cons_self)).symm
    · rw [decide_eq_false hj, Bool.false_or]
      by_cases hk : k ∈ ks
      · rw [decide_eq_true hk]
        exact (decide_eq_true (List.mem_cons_of_mem _ hk)).symm
      · rw [decide_eq_false hk]
        exact (decide_eq_false fun z => (List.mem_cons.mp z).elim (fun e => hj e.symm) hk).symm
theorem nubD_keys (ks : List Key) : nubD (ks.map keyD) = (nubK ks).map keyD := by
  suffices h : ∀ (ks acc : List Key), (ks.map keyD).foldl (fun acc x => if anyEq x acc then acc else acc ++ [x]) (acc.map keyD) = (ks.foldl (fun acc k => if k ∈ acc then acc else acc ++ [k]) acc).map keyD from h ks []
  intro ks
  induction ks with
  | nil => intro acc; rfl
  | cons k r ih =>
    intro acc
    rw [List.map_cons, List.foldl_cons, List.foldl_cons, anyEq_keys]
    by_cases hk : k ∈ acc
    · rw [if_pos hk, if_pos (decide_eq_true hk)]; exact ih acc
    · rw [if_neg hk, if_neg (by rw [decide_eq_false hk]; exact Bool.false_ne_true)]
      have := ih (acc ++ [k])
      rw [List.map_append] at this
      exact this
theorem keys_are {P : Program} {w : World} {K : KW} {H : Hp} : ∀ {ks : List Key} {xs : List V} {us : List Value}, Rps K H (ks.map keyD) xs → Vals xs us → KeysAre P w us ks
  | [], _, _, h, r => by cases h; cases r; exact ⟨rfl, fun i v e => by simp at e⟩
  | k :: ks, _, _, h, r => by
    obtain ⟨x, xs, rfl, h1, h2⟩ := h
    cases r with
    | @cons _ u _ us r1 r2 =>
      obtain ⟨a, b⟩ := keys_are (P := P) (w := w) h2 r2
      have ex : x = kV k := leaf_rv (Rp.rv h1)
      subst ex
      refine ⟨by simp [a], fun i v e => ?_⟩
      cases i with
      | zero => simp at e; subst e; exact ⟨k, rfl, kV_is r1, key_scan r1⟩
      | succ j => exact b j v (by simpa using e)
section
variable {C : Nat → List W → M W} {cA : Nat → Addr} {X : Cx} {Wx : Value → Option Addr → Hp → Prop} {a : Expr} {xa : Ex}
theorem pX_lenset {p p2 q pos : Pos} (hc : X.calm = true) (hg : Gl X "len") (hm : X.mg "len" = none) (hg2 : Gl X "set") (hm2 : X.mg "set" = none) (ha : PE X a (TX C cA X Wx xa))
    (na : starEach [a] X.env = (false, eval a X.env) :: starEach [] X.env) : PE X (.Call (.Name "len" p) [.Call (.Name "set" p2) [a] [] q] [] pos) (TX C cA X Wx (.lens xa)) := by
  refine ⟨fun pins s σ H Q I h => ?_⟩
  have h1 : TX C cA X Wx xa σ H fun v H1 => ∃ μ, rBi (kw X) μ .lenset [v] H1 Q := by
    obtain ⟨ρ, st, μ, en, sr, h⟩ := h
    simp only [evX] at h
    refine ⟨ρ, st, μ, en, sr, h.bind.imp fun w st1 H1 μ1 s1 r1 h1 v hv => ?_⟩
    have h2 : Aft (kw X) cA Wx H1 μ1 (match biW .lenset [vw w st1] with | some w => Res.ok w st1 | none => Res.stuck) _ := h1
    cases z : biW .lenset [vw w st1] with
    | none => rw [z] at h2; exact h2.elim
    | some w' =>
      rw [z] at h2
      exact ⟨μ1, [vw w st1], w', ⟨v, [], rfl, RW.vw r1 hv, rfl⟩, z, fun v H' k hv => h2 H' μ1 (.keep k) (r1.keep k) v hv⟩
  refine Call_ (ld_blt I hg hm boot_len ?_)
  refine PyProof.Rows.callWith_builtin1 (PyProof.Rows.args_cons ?_ rfl) rfl rfl
  refine Call_ (ld_blt I hg2 hm2 boot_set ?_)
  refine PyProof.Rows.callWith_type1 (PyProof.Rows.args_cons (thn (ha.run pins s σ H _ I h1) fun v s1 ⟨x, H1, I1, r1, q1⟩ => PyProof.Rows.args_nil ?_) na) na rfl
  obtain ⟨μ, ws, w, hw, e, n⟩ := q1
  have fin : ∀ (ks : List Key), (nubK ks).length < scanBound → w = .dat (.int (nubK ks).length) → ∀ (h' : Heap) (tk : Nat), SetSo X.prog X.w h' s1.heap.objs.size ks → (∀ b o, b < s1.heap.objs.size → s1.heap.get? b = some o → h'.get? b = some o) →
      wpAny (model X.prog X.w) X.A (spliced (backTo pos (starEach [] X.env))) (fun vs s₂ => wpAny (model X.prog X.w) X.A (call (.builtin "len") (Value.ref s1.heap.objs.size :: vs)) (EP X pins σ Q) X.xe s₂) X.xe { s1 with heap := h', toks := tk } := fun ks hb ew h' tk hS hk => by
    refine PyProof.Rows.args_nil ?_
    obtain ⟨o, es, ep, t, ho, hex, hd, _, _, _, hf, hn⟩ := hS
    have I2 : Inv X pins σ H1 { s1 with heap := h', toks := tk } := I1.kept fun b o e => hk b o (Heap.lt_size e) e
    subst ew
    exact call_len_set ho hex hd hf (by rw [hn]; have : scanBound = 4096 := rfl; omega) ⟨.int (nubK ks).length, H1, I2.tok _, ⟨_, by rw [hn]⟩, n.same rfl⟩
  obtain ⟨w0, rfl⟩ : ∃ w0, ws = [w0] := by
    match ws, hw with
    | [w0], _ => exact ⟨w0, rfl⟩
    | [], hw => cases hw
    | _ :: _ :: _, ⟨_, _, e1, _, _, _, e2, _⟩ => subst e2; cases e1
  obtain ⟨x', r', ex, hx, hr'⟩ := hw
  cases hr'
  cases ex
  have small : scanBound = 4096 := rfl
  cases w0 with
  | dat d =>
    cases d with
    | tup ds =>
      simp only [biW] at e
      split at e
      · rename_i hk
        cases e
        simp only [Bool.and_eq_true] at hk
        obtain ⟨ks, rfl⟩ := leaf_keys hk.1
        have hl := Nat.le_of_ble_eq_true hk.2
        rw [List.length_map] at hl
        obtain ⟨a', xs, rfl, ht, hr⟩ := hx
        cases r1
        obtain ⟨its, rv, pl, hz⟩ := I1.tuple ht.sq
        have hlen : its.length = ks.length := by rw [← rv.length, hr.length, List.length_map]
        have le := nubK_le ks
        exact call_set_tuple (I1.ok.hd hc) pl (by simpa using keys_are hr rv) (by simp only [List.size_toArray]; omega) fun h' tk hS hk' => fin ks (by omega) (by rw [nubD_keys, List.length_map]) h' tk hS hk'
      · cases e
    | lst ds =>
      simp only [biW] at e
      split at e
      · rename_i hk
        cases e
        simp only [Bool.and_eq_true] at hk
        obtain ⟨ks, rfl⟩ := leaf_keys hk.1
        have hl := Nat.le_of_ble_eq_true hk.2
        rw [List.length_map] at hl
        obtain ⟨a', xs, rfl, ht, hr⟩ := hx
        cases r1
        obtain ⟨its, rv, pl, hz⟩ := I1.list (.inl ht)
        have hlen : its.length = ks.length := by rw [← rv.length, hr.length, List.length_map]
        have le := nubK_le ks
        exact call_set_list (I1.ok.hd hc) pl.isList (by simpa using keys_are hr rv) (by simp only [List.size_toArray]; omega) fun h' tk hS hk' => fin ks (by omega) (by rw [nubD_keys, List.length_map]) h' tk hS hk'
      · cases e
    | _ => cases e
  | _ => cases e
end
end Ev

/-! EvRa: lists of tuples that hold an empty tuple can be sorted. -/
namespace Ev
open PySem PySem.Spec PySem.Calls PyProof.Rows L2 PySem.W PySem.SeqAt

section
variable {prog : Program} {w : World} {A : Around} {E : Value → Shared → Prop} {s : Shared}

theorem call_tup_lt {Q : Value → Shared → Prop} {l b : Addr} {items items2 : Array Value} {e r : Nat → Bool} (hl : s.heap.IsTuple l items) (hb : s.heap.IsTuple b items2)
    (he : ∀ j (h1 : j < items.size) (h2 : j < items2.size), EqAt A.in1 s items[j] items2[j] (e j)) (hr : ∀ j (h1 : j < items.size) (h2 : j < items2.size), e j = false → RcLt A.in1 s items[j] items2[j] (r j))
    (h : Q (.bool (firstLt e r (decide (items.size < items2.size)) (List.range (min items.size items2.size)))) s) : wpAny (model prog w) A (call (.builtin "tuple.__lt__") [.ref l, .ref b]) Q E s := by
  obtain ⟨⟨cls, dd, data, sl⟩, ho, hc, n, hd⟩ := id hl
  obtain ⟨⟨cls2, dd2, data2, sl2⟩, ho2, hc2, n2, hd2⟩ := id hb
  simp only at hc hd hc2 hd2
  subst hc hd hc2 hd2
  exact call_meets F.slot_tuple_lt ⟨_, ho, rfl⟩ F.entry_tuple_lt (F.args_tuple_lt_2 _ _) (tuple_ltAt l b items items2 n n2 dd dd2 sl sl2 e r) ⟨ho, ho2, he, hr, h⟩

/-- a key against another as one type, tuples too -/
theorem oneLtT {f : Bool} {da db : PyData} {a b : Value} {as bs : List Addr} {Q : Bool → Shared → Prop} (ra : Reads s.heap a da as) (rb : Reads s.heap b db bs) (h : alike da db = true) (hn : da ≠ .none)
    (hu : A.units + min da.depth db.depth < cLine) (hq : Q (dataLt da db) s) : wpAny (model prog w) A (oneLt' f a b) Q E s := by
  cases f with
  | false => exact oneLt_alike (fun x => nomatch x) ra rb h hn hu hq
  | true =>
    cases da with
    | tuple xs =>
      cases db with
      | tuple ys =>
        have hal : alikeAll xs ys = true := by simpa [alike] using h
        cases ra with
        | @tuple l o vs n _ as₁ h1 h2 h3 h4 =>
          cases rb with
          | @tuple l' o' vs' n' _ bs₁ k1 k2 k3 k4 =>
            have n1 : vs.size = xs.length := by simpa using ReadsAll.length _ _ _ h4
            have n2 : vs'.size = ys.length := by simpa using ReadsAll.length _ _ _ k4
            rw [dataLt_tuple, ← firstLt_toks xs ys hal, ← n1, ← n2] at hq
            rw [oneLt'_eq]
            simp only [if_true]
            refine wpAny_bind (wpAny_cRoomFor (room_here hu) ?_)
            refine wpAny_bind (wpAny_callSpecialIfBound?_slot (T := "tuple") ⟨_, h1, h2⟩ F.slot_tuple_lt (call_tup_lt (e := pairEq xs ys) (r := fun j => dataLt (xs.getD j .none) (ys.getD j .none)) ⟨_, h1, h2, _, h3⟩ ⟨_, k1, k2, _, k3⟩ (fun j j1 j2 => ?_) (fun j j1 j2 hj => ?_) ?_))
            · have := eqAt_alikeAll xs ys A.in1 s vs.toList vs'.toList _ _ h4 k4 hal (room_in hu) j (by simpa using j1) (by simpa using j2)
              simpa using this
            · have := rcLt_alikeAll xs ys A.in1 s vs.toList vs'.toList _ _ h4 k4 hal (room_in hu) j (by simpa using j1) (by simpa using j2) hj
              simpa using this
            · exact wpAny_truthy_bool hq
      | _ => exact absurd h (by simp [alike])
    | _ => exact oneLt_alike (fun _ _ e => by cases e) ra rb h hn hu hq

theorem mapM_each {β : Type} {M : Model} {f : Value → Sem β} {S : Value → PyData → Prop} {R : PyData → β → Prop} {vs : List Value} {ds : List PyData} (e : EachIs S vs ds) (hf : ∀ v d, S v d → ∃ b, R d b ∧ ∀ (Q' : β → Shared → Prop), Q' b s → wpAny M A (f v) Q' E s) :
    ∀ {Q : List β → Shared → Prop}, (∀ bs, EachIs R ds bs → Q bs s) → wpAny M A (vs.mapM f) Q E s := by
  induction e with
  | nil => intro Q h; rw [List.mapM_nil]; exact wpAny_pure (h _ .nil)
  | cons h1 _ ih =>
    intro Q h
    rw [List.mapM_cons]
    obtain ⟨b, hb, k⟩ := hf _ _ h1
    exact wpAny_bind (k _ (wpAny_bind (ih fun bs hbs => wpAny_pure (h _ (.cons hb hbs)))))

/-- the first item of a tuple xs -/
def FirstR (d : PyData) (o : Option Value) : Prop := ∃ xs, d = .tuple xs ∧ o.isSome = !xs.isEmpty
theorem first_tup {v : Value} {xs : List PyData} {as : List Addr} (r : Reads s.heap v (.tuple xs) as) : ∃ o, FirstR (.tuple xs) o ∧ ∀ (Q' : Option Value → Shared → Prop), Q' o s → wpAny (model prog w) A (firstOfTuple' v) Q' E s := by
  have r0 := r
  cases r with
  | @tuple l o vs n _ as₁ h1 h2 h3 h4 =>
    have n1 : vs.size = xs.length := by simpa using ReadsAll.length _ _ _ h4
    refine ⟨vs[0]?, ⟨xs, rfl, ?_⟩, fun Q' hq => ?_⟩
    · cases xs with
      | nil => have : vs = #[] := Array.eq_empty_of_size_eq_zero n1; subst this; rfl
      | cons x xs =>
        have : 0 < vs.size := by rw [n1]; exact Nat.succ_pos _
        simp [this]
    · rw [kas_first_eq]
      refine wpAny_bind ((looks_reads (M := model prog w) r0).here ?_)
      rw [if_neg (by simp [dataType])]
      exact wpAny_bind (listItems_at h1 h3 (wpAny_pure hq))

theorem some_none {ds : List PyData} {bs : List (Option Value)} (e : EachIs FirstR ds bs) (h0 : PyData.tuple [] ∈ ds) : (bs.all fun b => b.isSome) = false := by
  induction e with
  | nil => cases h0
  | cons h _ ih =>
    rcases List.mem_cons.mp h0 with rfl | h0
    · obtain ⟨xs, e, hb⟩ := h
      cases e
      simp only [List.all_cons, hb, List.isEmpty_nil, Bool.not_true, Bool.false_and]
    · simp only [List.all_cons, ih h0, Bool.and_false]
theorem kind_tups {vs : List Value} {ds : List PyData} (e : EachIs (fun v d => ∃ as, Reads s.heap v d as) vs ds) (ht : ∀ d, d ∈ ds → ∃ xs, d = .tuple xs) (h0 : PyData.tuple [] ∈ ds) :
    ∃ kd : SortKind, (kd = general' ∨ kd = oneType') ∧ ∀ (E : Value → Shared → Prop) {Q : SortKind → Shared → Prop}, Q kd s → wpAny (model prog w) A (keyKind' vs.toArray) Q E s := by
  cases e with
  | nil => cases h0
  | @cons v d vs ds h t =>
    obtain ⟨x0, rfl⟩ := ht _ (List.mem_cons_self ..)
    have step : ∀ (E : Value → Shared → Prop) {Q : SortKind → Shared → Prop}, Q (if x0.isEmpty then oneType' else general') s → wpAny (model prog w) A (keyKind' (v :: vs).toArray) Q E s := by
      intro E Q hq
      rw [keyKind'_eq, List.mapM_toArray, map_eq_pure_bind]
      refine wpAny_bind (wpAny_bind (mapM_each (R := FirstR) (each_mem (EachIs.cons h t)) (fun v d ⟨⟨as, r⟩, hd⟩ => by obtain ⟨xs, rfl⟩ := ht d hd; exact first_tup r) fun bs hbs => wpAny_pure ?_))
      have na : ¬ ((bs.toArray.all fun b => b.isSome) = true) := by
        rw [List.all_toArray, some_none hbs h0]; exact Bool.noConfusion
      rw [if_neg na]
      cases hbs with
      | @cons _ b _ bs hb hbs =>
        obtain ⟨xs, ex, hb⟩ := hb
        cases ex
        have e0 : ((b :: bs).toArray[0]?.bind id) = b := by simp
        rw [e0, hb]
        cases x0 with
        | cons x r => exact wpAny_pure hq
        | nil =>
          rw [if_neg (by simp)]
          rw [oneTypeOnly'_eq, List.mapM_toArray, map_eq_pure_bind]
          refine wpAny_bind (wpAny_bind (wpAny_bind (kas_mapM (r := Value.type "tuple") _ (fun u hv Q' hq => ?_) (wpAny_pure ?_))))
          · obtain ⟨d, hd, as, r⟩ := (EachIs.cons h t).left u hv
            obtain ⟨xs, rfl⟩ := ht d hd
            exact (looks_reads (M := model prog w) r).here hq
          · have hall : ((List.map (fun _ => Value.type "tuple") (v :: vs)).toArray.all fun x => x == Value.type "tuple") = true := by
              simp only [List.all_toArray, List.all_map, List.all_eq_true]
              intro _ _
              exact beq_self_eq_true _
            have h0 : (List.map (fun _ => Value.type "tuple") (v :: vs)).toArray[0]? = some (Value.type "tuple") := by simp
            rw [h0]
            simp only [hall, if_true]
            exact wpAny_pure (wpAny_pure hq)
    cases x0 with
    | nil => exact ⟨_, .inr rfl, fun E {Q} hq => step E hq⟩
    | cons x r => exact ⟨_, .inl rfl, fun E {Q} hq => step E hq⟩

/-- tuples, of which one is empty, can be sorted -/
theorem sortsAt_tups {vs : List Value} {ds : List PyData} (e : EachIs (fun v d => ∃ as, Reads s.heap v d as) vs ds) (hal : AllAlike ds) (ht : ∀ d, d ∈ ds → ∃ xs, d = .tuple xs) (h0 : PyData.tuple [] ∈ ds) (hu : ∀ d, d ∈ ds → A.units + d.depth < cLine) : SortsAt prog w A s (dataKind s.heap ds) vs := by
  refine ⟨fun v hv => ?_, ?_⟩
  · obtain ⟨d, hd, as, r⟩ := e.left v hv
    exact ⟨_, dataKind_some hal hd r⟩
  · obtain ⟨kd, hk, step⟩ := kind_tups (prog := prog) (w := w) (A := A) e ht h0
    refine ⟨kd, ?_, fun _ E {Q} hq => step E hq⟩
    intro E x y a b Q ha hb hq
    obtain ⟨d, as, hd, ra, rfl⟩ := dataKind_inv ha
    obtain ⟨d', as', hd', rb, rfl⟩ := dataKind_inv hb
    have room : A.units + min d.depth d'.depth < cLine := Nat.lt_of_le_of_lt (Nat.add_le_add_left (Nat.min_le_left _ _) _) (hu d hd)
    have hn : d ≠ .none := by obtain ⟨xs, rfl⟩ := ht d hd; exact fun x => nomatch x
    have hq' : Q (dataLt d d') s := hq
    rcases hk with rfl | rfl
    · show wpAny (model prog w) A (oneLt' false x y) Q E s
      exact oneLtT ra rb (hal d hd d' hd') hn room hq'
    · rw [keyLt'_oneType]
      exact oneLtT ra rb (hal d hd d' hd') hn room hq'
end
end Ev

/-! EvR: sorted(xs) of data. -/
namespace Ev
open PySem PySem.Spec PyProof.Rows L2 PySem.W

theorem alike_sym {a b : D} (h : alikeD a b = true) : alikeD b a = true → ltD a b = dataLt a.toP b.toP := fun _ => (lt_toP a b h).symm
theorem mem_toPs : ∀ {xs : List D} {p : PyData}, p ∈ D.toPs xs → ∃ x, x ∈ xs ∧ p = x.toP
  | [], _, h => by cases h
  | x :: xs, p, h => by
    rcases List.mem_cons.mp (show p ∈ x.toP :: D.toPs xs from h) with rfl | h
    · exact ⟨x, List.mem_cons_self, rfl⟩
    · obtain ⟨y, hy, e⟩ := mem_toPs h
      exact ⟨y, List.mem_cons_of_mem _ hy, e⟩
theorem toP_mem : ∀ {xs : List D} {x : D}, x ∈ xs → x.toP ∈ D.toPs xs
  | y :: ys, x, h => by
    rcases List.mem_cons.mp h with rfl | h
    · exact List.mem_cons_self
    · exact List.mem_cons_of_mem _ (toP_mem h)
theorem depth_mem : ∀ {xs : List D} {x : D}, x ∈ xs → x.depth ≤ D.depths xs
  | y :: ys, x, h => by
    simp only [D.depths]
    rcases List.mem_cons.mp h with rfl | h
    · omega
    · have := depth_mem h; omega
/-- the values its stand for the data xs -/
def StandR (K : KW) (H : Hp) (v : Value) (d : D) : Prop := ∃ x, RelV x v ∧ Rp K H d x
theorem stand_of {K : KW} {H : Hp} : ∀ {ds : List D} {xs : List V} {us : List Value}, Rps K H ds xs → Vals xs us → EachIs (StandR K H) us ds
  | [], _, _, h, r => by cases h; cases r; exact .nil
  | d :: ds, _, _, h, r => by
    obtain ⟨x, xs, rfl, h1, h2⟩ := h
    cases r with
    | cons r1 r2 => exact .cons ⟨x, r1, h1⟩ (stand_of h2 r2)
theorem of_stand {K : KW} {H : Hp} {us : List Value} {ds : List D} (h : EachIs (StandR K H) us ds) : ∃ xs, Vals xs us ∧ Rps K H ds xs := by
  induction h with
  | nil => exact ⟨[], .nil, rfl⟩
  | cons h _ ih =>
    obtain ⟨x, r, p⟩ := h
    obtain ⟨xs, rs, ps⟩ := ih
    exact ⟨x :: xs, .cons r rs, x, xs, rfl, p, ps⟩
theorem each_map {α β γ : Type} {R : α → γ → Prop} (f : β → γ) {as : List α} {bs : List β} (h : EachIs (fun a b => R a (f b)) as bs) : EachIs R as (bs.map f) := by
  induction h with
  | nil => exact .nil
  | cons h _ ih => exact .cons h ih
theorem toPs_map : ∀ xs : List D, D.toPs xs = xs.map D.toP
  | [] => rfl
  | x :: xs => by rw [D.toPs, toPs_map xs]; rfl
/-- alike, none of them None -/
theorem alikeAll_of {xs : List D} (h : alikeAllD xs = true) : (∀ x ∈ xs, x.isNon = false ∧ ∀ y ∈ xs, alikeD x y = true) := by
  intro x hx
  unfold alikeAllD at h
  have := List.all_eq_true.mp h x hx
  simp only [Bool.and_eq_true, Bool.not_eq_true', List.all_eq_true] at this
  exact this
theorem sortsAt_of {prog : Program} {w : World} {A : Around} {s : Shared} {xs : List D} {vs : List Value} (al : alikeAllD xs = true) (so : sortOk xs = true) (e : EachIs (fun v d => ∃ as, Reads s.heap v d as) vs (xs.map D.toP)) (hal : AllAlike (xs.map D.toP)) (hu : ∀ d, d ∈ xs.map D.toP → A.units + d.depth < cLine) :
    SortsAt prog w A s (dataKind s.heap (xs.map D.toP)) vs := by
  have hal' := alikeAll_of al
  unfold sortOk at so
  rw [Bool.or_eq_true] at so
  rcases so with so | so
  · have ht : ∀ d, d ∈ xs.map D.toP → ∃ zs, d = .tuple zs := fun d hd => by
      obtain ⟨a, ha, rfl⟩ := List.mem_map.mp hd
      have := List.all_eq_true.mp so a ha
      cases a with
      | tup zs => exact ⟨D.toPs zs, rfl⟩
      | _ => cases this
    by_cases h0 : PyData.tuple [] ∈ xs.map D.toP
    · exact sortsAt_tups e hal ht h0 hu
    · refine SortsAt.data e hal (.inl fun d hd => ?_) hu
      obtain ⟨zs, rfl⟩ := ht d hd
      cases zs with
      | nil => exact absurd hd h0
      | cons z zs => exact ⟨z, zs, rfl⟩
  · refine SortsAt.data e hal (.inr fun d hd => ?_) hu
    obtain ⟨a, ha, rfl⟩ := List.mem_map.mp hd
    have := List.all_eq_true.mp so a ha
    refine ⟨toP_none (hal' a ha).1, fun zs e => ?_⟩
    cases a with
    | tup _ => cases this
    | _ => cases e
section
variable {X : Cx}
/-- sorted of a list of alike data -/
theorem sorted_dat {pins : List (Addr × Obj)} {s : Shared} {σ : L2.St} {H : Hp} {Q : VK} {p : Addr} {ys : List V} {xs : List D} (hu : X.A.units + 100 < cLine) (I : Inv X pins σ H s) (hl : SqL X.K H p ys) (hr : Rps (kw X) H xs ys) (al : alikeAllD xs = true) (so : sortOk xs = true) (dp : D.depths xs ≤ 50)
    (q : NewD (kw X) H (.lst (sortD xs)) Q) : wpAny (model X.prog X.w) X.A (call (.builtin "sorted") [.ref p]) (EP X pins σ Q) X.xe s := by
  obtain ⟨its, rv, pl, hz⟩ := I.list hl
  have hlen := rv.length
  have I2 : Inv X pins σ H { s with heap := sortingHeap (copyHeap s.heap its) (s.heap.objs.size + 1) its } := I.kept (t' := s.toks) fun b o e => sorting_copy_old e
  have reads : EachIs (fun v d => ∃ as, Reads (sortingHeap (copyHeap s.heap its) (s.heap.objs.size + 1) its) v (D.toP d) as) its xs := (stand_of hr rv).mono fun v d ⟨x, r, h⟩ => read2 I2 (Rp.rv h) r
  have hal := alikeAll_of al
  have allal : AllAlike (xs.map D.toP) := fun d hd d' hd' => by
    obtain ⟨a, ha, rfl⟩ := List.mem_map.mp hd
    obtain ⟨b, hb, rfl⟩ := List.mem_map.mp hd'
    rw [alike_toP]
    exact (hal a ha).2 b hb
  have S : SortsAt X.prog X.w X.A.in1.in1 { s with heap := sortingHeap (copyHeap s.heap its) (s.heap.objs.size + 1) its } (dataKind (sortingHeap (copyHeap s.heap its) (s.heap.objs.size + 1) its) (xs.map D.toP)) its :=
    sortsAt_of al so (each_map D.toP reads) allal fun d hd => by
      obtain ⟨a, ha, rfl⟩ := List.mem_map.mp hd
      rw [depth_toP]
      have := depth_mem ha
      show X.A.units + 1 + 1 + a.depth < cLine
      omega
  refine sorted_vals pl.isList S (by rw [← hlen]; exact hz) ?_
  have keys : EachIs (fun v d => (dataKind (sortingHeap (copyHeap s.heap its) (s.heap.objs.size + 1) its) (xs.map D.toP)).keyOf v = some (keyToks d.toP)) its xs :=
    (each_mem reads).mono fun v d ⟨⟨as, r⟩, hd⟩ => dataKind_some allal (List.mem_map.mpr ⟨d, hd, rfl⟩) r
  have out := sortVals_each (κ := dataKind (sortingHeap (copyHeap s.heap its) (s.heap.objs.size + 1) its) (xs.map D.toP)) (rev := false) (fun d : D => keyToks d.toP) (stand_of hr rv) keys
  have e : xs.mergeSort (sortLe (dataKind (sortingHeap (copyHeap s.heap its) (s.heap.objs.size + 1) its) (xs.map D.toP)).toKeyOrd false fun d : D => keyToks d.toP) = sortD xs := by
    refine sort_congr fun a ha b hb => ?_
    show (!dataLt b.toP a.toP) = !ltD b a
    rw [lt_toP b a ((hal b hb).2 a ha)]
  rw [e] at out
  obtain ⟨zs, rz, pz⟩ := of_stand out
  obtain ⟨ep, he'⟩ := PyProof.Rows.sortedAll_at s.heap its (sortVals (dataKind (sortingHeap (copyHeap s.heap its) (s.heap.objs.size + 1) its) (xs.map D.toP)) false its its).toArray
  have hzl : zs.length ≤ sizeLine := by
    rw [rz.length, sortVals_length false rfl, ← hlen]; exact hz
  have hn := I.hok.fresh (Nat.le_succ s.heap.objs.size)
  have I3 : Inv X pins σ (upd H (s.heap.objs.size + 1) (.lst zs)) { s with heap := sortedAll s.heap its (sortVals (dataKind (sortingHeap (copyHeap s.heap its) (s.heap.objs.size + 1) its) (xs.map D.toP)) false its its).toArray } :=
    I.laid (t' := s.toks) (fun _ _ => PyProof.Rows.sortedAll_old) (Nat.le_succ _) ⟨hzl, _, ep, rz, he'⟩
  exact ep_new I3 rfl fun o => q.lst hn pz
end
end Ev

/-! EvS: sorted(d): a dict's keys. -/
namespace Ev
open PySem PySem.Spec PyProof.Rows L2 PySem.W

section
variable {X : Cx} {pins : List (Addr × Obj)} {σ : L2.St} {H : Hp} {s : Shared}
theorem paired_at {α β : Type} {R : α → β → Prop} {as : List α} {bs : List β} (h : Paired R as bs) : ∀ {i : Nat} (ha : i < as.length) (hb : i < bs.length), R as[i] bs[i] := by
  induction h with
  | nil => intro i ha; cases ha
  | cons h _ ih =>
    intro i ha hb
    cases i with
    | zero => exact h
    | succ j => exact ih (by simpa using ha) (by simpa using hb)
theorem rel_of_is {k : Key} {v : Value} {P : Program} {w : World} (h : (mixKind P w).is k v = true) : RelV (kV k) v := by
  rcases keyIs_shape h with ⟨i, t, rfl, rfl⟩ | ⟨x, t, rfl, rfl⟩
  · exact ⟨t, rfl⟩
  · exact ⟨t, rfl⟩
theorem kv_at {K : KW} {H : Hp} : ∀ {kvs : List (D × D)} {ks : List (Key × V)} {i : Nat} {kv : Key × V}, KvR K H kvs ks → ks[i]? = some kv → ∃ p, kvs[i]? = some p ∧ p.1 = keyD kv.1 ∧ Rp K H p.2 kv.2
  | [], _, _, _, h, e => by cases h; simp at e
  | p :: r, _, i, kv, h, e => by
    obtain ⟨k, v, r', rfl, h1, h2, h3⟩ := h
    cases i with
    | zero => simp at e; subst e; exact ⟨p, rfl, h1, h2⟩
    | succ j =>
      obtain ⟨q, a, b⟩ := kv_at (i := j) h3 (by simpa using e)
      exact ⟨q, by simpa using a, b⟩
theorem nd_at {K : KW} {H : Hp} : ∀ {kvs : List (D × D)} {xs : List (NestedKey × Addr × Value)} {i : Nat} {y : NestedKey × Addr × Value}, NdR K H kvs xs → xs[i]? = some y → ∃ p v, kvs[i]? = some p ∧ Rp K H p.1 (.ref y.2.1) ∧ RelV v y.2.2 ∧ Rp K H p.2 v
  | [], _, _, _, h, e => by cases h; simp at e
  | p :: r, _, i, y, h, e => by
    obtain ⟨b, u, v, r', rfl, h0, h1, h2, h3, h4⟩ := h
    cases i with
    | zero => simp at e; subst e; exact ⟨p, v, rfl, h1, h2, h3⟩
    | succ j =>
      obtain ⟨q, w, a⟩ := nd_at (i := j) h4 (by simpa using e)
      exact ⟨q, w, by simpa using a.1, a.2⟩
/-- a dict's entries as they stand -/
theorem dc_raw {t : Bool} {kvs : List (D × D)} {a : Addr} (I : Inv X pins σ H s) (h : DcR (kw X) H t kvs a) :
    ∃ es ep, s.heap.DictRaw a es ep ∧ es.size = kvs.length ∧ (a == sysModules) = false ∧ kvs.length ≤ sizeLine ∧ ∀ i (hi : i < es.size), ∃ p x z, kvs[i]? = some p ∧ RelV x es[i].key ∧ Rp (kw X) H p.1 x ∧ RelV z es[i].val ∧ Rp (kw X) H p.2 z := by
  cases t with
  | false =>
    obtain ⟨ks, h1, h2⟩ := (show ScC (kw X) H kvs a from h)
    obtain ⟨z, lo, vs, rel, dd⟩ := dk_of I.hok h1
    obtain ⟨es, ep, raw, sz, at_⟩ := dd.raw
    have l1 := h2.length
    have l2 : ks.length = vs.length := rel.length
    refine ⟨es, ep, raw, by omega, lo, by omega, fun i hi => ?_⟩
    have hv : i < vs.length := by omega
    have hkk : i < ks.length := by omega
    obtain ⟨q1, q2⟩ := at_ i hi vs[i].1 vs[i].2 (List.getElem?_eq_getElem hv)
    obtain ⟨p, e1, e2, e3⟩ := kv_at h2 (List.getElem?_eq_getElem hkk)
    obtain ⟨r1, r2⟩ : ks[i].1 = vs[i].1 ∧ RelV ks[i].2 vs[i].2 := paired_at rel hkk hv
    refine ⟨p, kV ks[i].1, ks[i].2, e1, ?_, ?_, by rw [q2]; exact r2, e3⟩
    · rw [← r1] at q1
      exact rel_of_is q1
    · rw [e2]
      cases ks[i].1 <;> rfl
  | true =>
    obtain ⟨xs, h1, hm, lo, hz, hr⟩ := nd_dict I h
    obtain ⟨es, ep, raw, sz, at_⟩ := hm.raw
    have l1 := hr.length
    refine ⟨es, ep, raw, by omega, lo, by omega, fun i hi => ?_⟩
    obtain ⟨y, e1, e2, e3, _⟩ := at_ i hi
    obtain ⟨p, v, a1, a2, a3, a4⟩ := nd_at hr e1
    exact ⟨p, .ref y.2.1, v, a1, by rw [e2]; rfl, a2, by rw [e3]; exact a3, a4⟩
/-- the keys, collected -/
theorem stand_items {K : KW} {H : Hp} {acc : List Value} {ds : List D} (hl : acc.length = ds.length) (h : ∀ (i : Nat) (v : Value), acc[i]? = some v → ∃ d : D, ds[i]? = some d ∧ StandR K H v d) : EachIs (StandR K H) acc ds :=
  EachIs.of_zip hl fun p hp => by
    obtain ⟨i, hi⟩ := List.mem_iff_getElem?.mp hp
    rw [List.getElem?_zip_eq_some] at hi
    obtain ⟨d, e, st⟩ := h i p.1 hi.1
    rw [hi.2] at e
    cases e
    exact st
/-- a new list at the heap's end is sorted -/
theorem sort_new {A : Around} {E : Value → Shared → Prop} {vs : List Value} {xs : List D} {h0 : Heap} {Q : Value → Shared → Prop} {t0 : Nat} (hu : A.units + 60 < cLine) (I : Inv X pins σ H { s with heap := h0, toks := t0 }) (st : EachIs (StandR (kw X) H) vs xs) (hz : vs.length ≤ sizeLine) (al : alikeAllD xs = true) (so : sortOk xs = true) (dp : D.depths xs ≤ 50)
    (q : ∀ h', (∃ zs, Rps (kw X) H (sortD xs) zs ∧ Inv X pins σ (upd H h0.objs.size (.lst zs)) { s with heap := h', toks := t0 }) → Q .none { s with heap := h', toks := t0 }) :
    wpAny (model X.prog X.w) A (call (.builtin "list.sort") [.ref h0.objs.size]) Q E { s with heap := h0.push (seqObj "list" vs.toArray 0), toks := t0 } := by
  have ho : (h0.push (seqObj "list" vs.toArray 0)).get? h0.objs.size = some (seqObj "list" vs.toArray 0) := Heap.get?_push_size _ rfl
  have old : ∀ {b o}, h0.get? b = some o → b ≠ h0.objs.size ∧ (h0.push (seqObj "list" vs.toArray 0)).get? b = some o := fun e => ⟨Nat.ne_of_lt (Heap.lt_size e), Heap.get?_push_of_some _ e⟩
  have I2 : Inv X pins σ H { s with heap := sortingHeap (h0.push (seqObj "list" vs.toArray 0)) h0.objs.size vs, toks := t0 } := I.kept (t' := t0) fun b o e => sortingHeap_old (old e).1 (old e).2
  generalize hsh : sortingHeap (h0.push (seqObj "list" vs.toArray 0)) h0.objs.size vs = sh at I2
  have reads : EachIs (fun v d => ∃ as, Reads sh v (D.toP d) as) vs xs := st.mono fun v d ⟨x, r, h⟩ => read2 I2 (Rp.rv h) r
  have hal := alikeAll_of al
  have allal : AllAlike (xs.map D.toP) := fun d hd d' hd' => by
    obtain ⟨a, ha, rfl⟩ := List.mem_map.mp hd
    obtain ⟨b, hb, rfl⟩ := List.mem_map.mp hd'
    rw [alike_toP]
    exact (hal a ha).2 b hb
  have S : SortsAt X.prog X.w A.in1 { s with heap := sh, toks := t0 } (dataKind sh (xs.map D.toP)) vs :=
    sortsAt_of al so (each_map D.toP reads) allal fun d hd => by
      obtain ⟨a, ha, rfl⟩ := List.mem_map.mp hd
      rw [depth_toP]
      have := depth_mem ha
      show A.units + 1 + a.depth < cLine
      omega
  subst hsh
  refine wpAny_call_entry slot_list_sort ⟨_, ho, rfl⟩ entry_list_sort (list_sort_vals (s := { s with heap := h0.push (seqObj "list" vs.toArray 0), toks := t0 }) ho S hz ⟨.none, rfl, q _ ?_⟩) (args_list_sort _)
  have keys : EachIs (fun v d => (dataKind (sortingHeap (h0.push (seqObj "list" vs.toArray 0)) h0.objs.size vs) (xs.map D.toP)).keyOf v = some (keyToks d.toP)) vs xs :=
    (each_mem reads).mono fun v d ⟨⟨as, r⟩, hd⟩ => dataKind_some allal (List.mem_map.mpr ⟨d, hd, rfl⟩) r
  have out := sortVals_each (κ := dataKind (sortingHeap (h0.push (seqObj "list" vs.toArray 0)) h0.objs.size vs) (xs.map D.toP)) (rev := false) (fun d : D => keyToks d.toP) st keys
  have e : xs.mergeSort (sortLe (dataKind (sortingHeap (h0.push (seqObj "list" vs.toArray 0)) h0.objs.size vs) (xs.map D.toP)).toKeyOrd false fun d : D => keyToks d.toP) = sortD xs := by
    refine sort_congr fun a ha b hb => ?_
    show (!dataLt b.toP a.toP) = !ltD b a
    rw [lt_toP b a ((hal b hb).2 a ha)]
  rw [e] at out
  obtain ⟨zs, rz, pz⟩ := of_stand out
  obtain ⟨ep, he'⟩ := PyProof.Rows.sortedHeap_at (vs := vs) (out := (sortVals (dataKind (sortingHeap (h0.push (seqObj "list" vs.toArray 0)) h0.objs.size vs) (xs.map D.toP)) false vs vs).toArray) ho
  have hzl : zs.length ≤ sizeLine := by
    rw [rz.length, sortVals_length false rfl]; exact hz
  refine ⟨zs, pz, I.laid (t' := t0) (fun b o e => ?_) (Nat.le_refl _) ⟨hzl, _, ep, rz, he'⟩⟩
  rw [PyProof.Rows.sortedHeap_old (old e).1 (by rw [PyProof.Rows.size_push']; exact Nat.lt_succ_of_lt (Heap.lt_size e))]
  exact (old e).2
/-- sorted of a dict -/
theorem sorted_dc {t : Bool} {kvs : List (D × D)} {a : Addr} {Q : VK} (hc : X.calm = true) (hu : X.A.units + 100 < cLine) (I : Inv X pins σ H s) (h : DcR (kw X) H t kvs a) (al : alikeAllD (kvs.map (·.1)) = true) (so : sortOk (kvs.map (·.1)) = true) (dp : D.depths (kvs.map (·.1)) ≤ 50)
    (q : NewD (kw X) H (.lst (sortD (kvs.map (·.1)))) Q) : wpAny (model X.prog X.w) X.A (call (.builtin "sorted") [.ref a]) (EP X pins σ Q) X.xe s := by
  obtain ⟨es, ep, raw, sz, lo, hn, at_⟩ := dc_raw I h
  refine Calls.call_function_entry kind_sorted plain_sorted entry_sorted (args_sorted1 _) ?_
  unfold Builtin.«sorted»
  refine wpAny_bind (m := checkCount "sorted" 1 1 _) (wpAny_pure ?_)
  refine wpAny_bind (kdu_collect (A := X.A.in1) (KdlSrc.rawDict lo) (by simp [I.ok.hd hc]) raw (by omega) fun h' tk acc hk hacc => ?_)
  have I1 : Inv X pins σ H { s with heap := h', toks := tk } := I.kept hk
  have hl : acc.toList.length = (kvs.map (·.1)).length := by rw [Array.length_toList, hacc.1, List.length_map, sz]
  have st : EachIs (StandR (kw X) H) acc.toList (kvs.map (·.1)) := stand_items hl fun i v e => by
    obtain ⟨hi, rfl⟩ := hacc.2 i v (by rw [← Array.getElem?_toList]; exact e)
    obtain ⟨p, x, z, e1, r, rp, _⟩ := at_ i hi
    exact ⟨p.1, by rw [List.getElem?_map, e1]; rfl, x, r, rp⟩
  have hlz : acc.toList.length ≤ sizeLine := by rw [hl, List.length_map]; exact hn
  refine wpAny_bind (wpAny_newList ?_ hlz)
  refine wpAny_bind (wpAny_holding (sort_new (E := X.xe) (show X.A.units + 1 + 60 < cLine by omega) I1 st hlz al so dp fun h2 ⟨zs, pz, I3⟩ => ?_))
  exact wpAny_pure ⟨_, rfl, ep_new I3 rfl fun o => q.lst (I1.hok.fresh (Nat.le_refl _)) pz⟩
end
section
variable {X : Cx} {μ : List Addr}
theorem cb_sorted (hc : X.calm = true) (hu : X.A.units + 100 < cLine) : CallR X (.builtin "sorted") (rBi (kw X) μ .sorted) := by
  intro pins s σ H vs us Q I r h
  obtain ⟨ws, w, hw, e, n⟩ := h
  match ws, hw, e with
  | [], _, e => cases e
  | .dat (.lst xs) :: _ :: _, _, e => cases e
  | .dat .non :: _, _, e => cases e
  | .dat (.bl _) :: _, _, e => cases e
  | .dat (.int _) :: _, _, e => cases e
  | .dat (.str _) :: _, _, e => cases e
  | .dat (.tup _) :: _, _, e => cases e
  | .fdi _ _ :: _ :: _, _, e => cases e
  | .ref _ :: _, _, e => cases e
  | .tup _ :: _, _, e => cases e
  | .scr _ :: _, _, e => cases e
  | [.dat (.lst xs)], hw, e =>
    simp only [biW] at e
    split at e
    · rename_i hk
      cases e
      simp only [Bool.and_eq_true] at hk
      obtain ⟨x, r', rfl, ⟨p, ys, rfl, ht, hr⟩, h2⟩ := hw
      cases h2
      obtain ⟨u, rfl, ru⟩ := vals1 r
      cases ru
      exact sorted_dat hu I (.inl ht) hr hk.1.1 hk.1.2 (Nat.le_of_ble_eq_true hk.2) n.d
    · cases e
  | [.fdi t kvs], hw, e =>
    simp only [biW] at e
    split at e
    · rename_i hk
      cases e
      simp only [Bool.and_eq_true] at hk
      obtain ⟨x, r', rfl, ⟨p, rfl, hd⟩, h2⟩ := hw
      cases h2
      obtain ⟨u, rfl, ru⟩ := vals1 r
      cases ru
      exact sorted_dc hc hu I hd hk.1.1 hk.1.2 (Nat.le_of_ble_eq_true hk.2) n.d
    · cases e
end
/-! ### list(range(a, b)) -/
section
variable {C : Nat → List W → M W} {cA : Nat → Addr} {X : Cx} {Wx : Value → Option Addr → Hp → Prop} {a b : Expr} {xa xb : Ex}
theorem rgW_some {x y w : W} (h : rgW x y = some w) : ∃ i j, x = .dat (.int i) ∧ y = .dat (.int j) ∧ RgOk i j ∧ w = .dat (.lst ((List.range (j - i).toNat).map fun (k : Nat) => D.int (i + k))) := by
  unfold rgW at h
  split at h
  · rename_i i j
    split at h
    · rename_i hk
      simp only [Bool.and_eq_true] at hk
      obtain ⟨⟨h1, h2⟩, h3⟩ := hk
      have q1 := okR_iff h1
      have q2 := okR_iff h2
      have q3 := Nat.le_of_ble_eq_true h3
      cases h
      exact ⟨i, j, rfl, rfl, ⟨q1.1, q1.2, q2.1, q2.2, q3⟩, rfl⟩
    · cases h
  · cases h
theorem rg_rps {K : KW} {H : Hp} (i : Int) : ∀ (l : List Nat), Rps K H (l.map fun (k : Nat) => D.int (i + k)) (l.map fun (k : Nat) => V.int (i + k))
  | [] => rfl
  | _ :: l => ⟨_, _, rfl, rfl, rg_rps i l⟩
theorem rg_end {i j : Int} {Q : VK} {H1 : Hp} {μ1 : List Addr} {st1 : Store} (r1 : StR (kw X) H1 st1 μ1) (h : Aft (kw X) cA Wx H1 μ1 (Res.ok (W.dat (.lst ((List.range (j - i).toNat).map fun (k : Nat) => D.int (i + k)))) st1) fun w _ H' μ' => ∀ v, RW (kw X) H' μ' w v → Q v H') :
    ∀ q, H1 q = none → (∃ p H0 zs, H0 p = none ∧ (V.ref q) = .ref p ∧ (upd H1 q (.lst (rgV i j))) = upd H0 p (.lst zs) ∧ ∀ o, Q (.ref q) (upd H0 p (.frz o (.lst zs)))) := fun q hq =>
  ⟨q, H1, rgV i j, hq, rfl, rfl, fun o => h _ _ (.keep (Keep.upd hq)) (r1.keep (Keep.upd hq)) _ ⟨q, o, _, rfl, upd_same, rg_rps i _⟩⟩
theorem pX_lrg {p p2 q pos : Pos} (hc : X.calm = true) (hg : Gl X "list") (hm : X.mg "list" = none) (hg2 : Gl X "range") (hm2 : X.mg "range" = none) (ha : PE X a (TX C cA X Wx xa)) (hb : PE X b (TX C cA X Wx xb))
    (na : starEach [a, b] X.env = (false, eval a X.env) :: starEach [b] X.env) (nb : starEach [b] X.env = (false, eval b X.env) :: starEach [] X.env) (hpl : (backTo q (starEach [b] X.env)).any (·.1) = false) : PE X (.Call (.Name "list" p) [.Call (.Name "range" p2) [a, b] [] q] [] pos) (TX C cA X Wx (.lrg xa xb)) := by
  refine pe_imp (pe_frz (pe_listRg hc hg hm (prg_2 hg2 hm2 ha hb na nb (hp := hpl)) rfl)) fun σ H Q ⟨ρ, st, μ, en, s, h⟩ => ?_
  simp only [evX] at h
  refine ⟨ρ, st, μ, en, s, h.bind.imp fun wa st1 H1 μ1 s1 r1 h1 v hv => ⟨ρ, st1, μ1, en.stp s1, r1, h1.bind.imp fun wb st2 H2 μ2 s2 r2 h2 u hu => ?_⟩⟩
  have h2 : Aft (kw X) cA Wx H2 μ2 (lift (rgW wa wb) st2) _ := h2
  cases z : rgW wa wb with
  | none => rw [z] at h2; exact h2.elim
  | some w =>
    rw [z] at h2
    obtain ⟨i, j, rfl, rfl, ok, rfl⟩ := rgW_some z
    cases hv
    cases hu
    exact ⟨i, j, rfl, rfl, ok, rg_end r2 h2⟩
theorem pX_lrg0 {p p2 q pos : Pos} (hc : X.calm = true) (hg : Gl X "list") (hm : X.mg "list" = none) (hg2 : Gl X "range") (hm2 : X.mg "range" = none) (hb : PE X b (TX C cA X Wx xb))
    (nb : starEach [b] X.env = (false, eval b X.env) :: starEach [] X.env) : PE X (.Call (.Name "list" p) [.Call (.Name "range" p2) [b] [] q] [] pos) (TX C cA X Wx (.lrg0 xb)) := by
  refine pe_imp (pe_frz (pe_listRg hc hg hm (prg_1 hg2 hm2 hb nb) rfl)) fun σ H Q ⟨ρ, st, μ, en, s, h⟩ => ?_
  simp only [evX] at h
  refine ⟨ρ, st, μ, en, s, h.bind.imp fun wb st2 H2 μ2 s2 r2 h2 u hu => ?_⟩
  have h2 : Aft (kw X) cA Wx H2 μ2 (lift (rgW (.dat (.int 0)) wb) st2) _ := h2
  cases z : rgW (.dat (.int 0)) wb with
  | none => rw [z] at h2; exact h2.elim
  | some w =>
    rw [z] at h2
    obtain ⟨i, j, e, rfl, ok, rfl⟩ := rgW_some z
    cases e
    cases hu
    exact ⟨j, rfl, ok, rg_end r2 h2⟩
end
end Ev

/-! EvL: the checker of expressions, and that it is right. -/
namespace Ev
open PySem PySem.Spec PyProof.Rows L2 PySem.W

/-! ### what an expression is -/
def asName : Expr → Option (Str × Pos)
  | .Name x p => some (x, p)
  | _ => none
def asConst : Expr → Option (Const × Nat × Pos)
  | .Constant c k p => some (c, k, p)
  | _ => none
def asTuple : Expr → Option (List Expr × Nat × Pos)
  | .Tuple es k p => some (es, k, p)
  | _ => none
def asList : Expr → Option (List Expr × Pos)
  | .List es p => some (es, p)
  | _ => none
def asBin : Expr → Option (Expr × Operator × Expr × Pos)
  | .BinOp a op b p => some (a, op, b, p)
  | _ => none
def asUn : Expr → Option (UnaryOp × Expr × Pos)
  | .UnaryOp op a p => some (op, a, p)
  | _ => none
def asBool : Expr → Option (BoolOp × List Expr × Pos)
  | .BoolOp op es p => some (op, es, p)
  | _ => none
def asCmp : Expr → Option (Expr × List CmpOp × List Expr × Pos)
  | .Compare a ops bs p => some (a, ops, bs, p)
  | _ => none
def asIf : Expr → Option (Expr × Expr × Expr × Pos)
  | .IfExp c a b p => some (c, a, b, p)
  | _ => none
def asSub : Expr → Option (Expr × Expr × Pos)
  | .Subscript a i p => some (a, i, p)
  | _ => none
def asSlice : Expr → Option (Option Expr × Option Expr × Option Expr × Pos)
  | .Slice a b c p => some (a, b, c, p)
  | _ => none
/-- x(..), plain -/
def asCall : Expr → Option (Str × Pos × List Expr × Pos)
  | .Call (.Name x p) es [] q => some (x, p, es, q)
  | _ => none
def asDict : Expr → Option (List (Option Expr) × List Expr × Pos)
  | .Dict ks vs p => some (ks, vs, p)
  | _ => none
/-- o.m(..), plain -/
def asMeth : Expr → Option (Expr × Str × Pos × List Expr × Pos)
  | .Call (.Attribute o m p) es [] q => some (o, m, p, es, q)
  | _ => none
def asLc : Expr → Option (Expr × Expr × Expr × List Expr × Scope × Pos)
  | .ListComp elt [⟨tg, iter, ifs, 0⟩] sc p => some (elt, tg, iter, ifs, sc, p)
  | _ => none
def asDc : Expr → Option (Expr × Expr × Expr × Expr × List Expr × Scope × Pos)
  | .DictComp k v [⟨tg, iter, ifs, 0⟩] sc p => some (k, v, tg, iter, ifs, sc, p)
  | _ => none
theorem asName_eq {e : Expr} {r} (h : asName e = some r) : e = .Name r.1 r.2 := by cases e <;> cases h; rfl
theorem asConst_eq {e : Expr} {r} (h : asConst e = some r) : e = .Constant r.1 r.2.1 r.2.2 := by cases e <;> cases h; rfl
theorem asTuple_eq {e : Expr} {r} (h : asTuple e = some r) : e = .Tuple r.1 r.2.1 r.2.2 := by cases e <;> cases h; rfl
theorem asList_eq {e : Expr} {r} (h : asList e = some r) : e = .List r.1 r.2 := by cases e <;> cases h; rfl
theorem asBin_eq {e : Expr} {r} (h : asBin e = some r) : e = .BinOp r.1 r.2.1 r.2.2.1 r.2.2.2 := by cases e <;> cases h; rfl
theorem asUn_eq {e : Expr} {r} (h : asUn e = some r) : e = .UnaryOp r.1 r.2.1 r.2.2 := by cases e <;> cases h; rfl
theorem asBool_eq {e : Expr} {r} (h : asBool e = some r) : e = .BoolOp r.1 r.2.1 r.2.2 := by cases e <;> cases h; rfl
theorem asCmp_eq {e : Expr} {r} (h : asCmp e = some r) : e = .Compare r.1 r.2.1 r.2.2.1 r.2.2.2 := by cases e <;> cases h; rfl
theorem asIf_eq {e : Expr} {r} (h : asIf e = some r) : e = .IfExp r.1 r.2.1 r.2.2.1 r.2.2.2 := by cases e <;> cases h; rfl
theorem asSub_eq {e : Expr} {r} (h : asSub e = some r) : e = .Subscript r.1 r.2.1 r.2.2 := by cases e <;> cases h; rfl
theorem asSlice_eq {e : Expr} {r} (h : asSlice e = some r) : e = .Slice r.1 r.2.1 r.2.2.1 r.2.2.2 := by cases e <;> cases h; rfl
theorem asDict_eq {e : Expr} {r} (h : asDict e = some r) : e = .Dict r.1 r.2.1 r.2.2 := by cases e <;> cases h; rfl
theorem asCall_eq {e : Expr} {r} (h : asCall e = some r) : e = .Call (.Name r.1 r.2.1) r.2.2.1 [] r.2.2.2 := by
  unfold asCall at h
  split at h
  · cases h; rfl
  · cases h
theorem asMeth_eq {e : Expr} {r} (h : asMeth e = some r) : e = .Call (.Attribute r.1 r.2.1 r.2.2.1) r.2.2.2.1 [] r.2.2.2.2 := by
  unfold asMeth at h
  split at h
  · cases h; rfl
  · cases h
theorem asLc_eq {e : Expr} {r} (h : asLc e = some r) : e = .ListComp r.1 [⟨r.2.1, r.2.2.1, r.2.2.2.1, 0⟩] r.2.2.2.2.1 r.2.2.2.2.2 := by
  unfold asLc at h
  split at h
  · cases h; rfl
  · cases h
theorem asDc_eq {e : Expr} {r} (h : asDc e = some r) : e = .DictComp r.1 r.2.1 [⟨r.2.2.1, r.2.2.2.1, r.2.2.2.2.1, 0⟩] r.2.2.2.2.2.1 r.2.2.2.2.2.2 := by
  unfold asDc at h
  split at h
  · cases h; rfl
  · cases h
/-- a test that is its value's truth -/
def plainTest : Expr → Bool
  | .UnaryOp .. => false
  | .BoolOp .. => false
  | .IfExp .. => false
  | .Compare .. => false
  | _ => true
theorem isTrue_val {e : Expr} (h : plainTest e = true) (env : PySem.Env) : ∀ whole, isTrue e env whole = (do let v ← whole; standAt e.pos; holding [v] (truthy v)) := by
  intro whole
  cases e <;> first | rfl | cases h
def notStar : Expr → Bool
  | .Starred .. => false
  | _ => true
theorem star_cons {e : Expr} (h : notStar e = true) (es : List Expr) (env : PySem.Env) : starEach (e :: es) env = (false, eval e env) :: starEach es env := by
  cases e <;> first | rfl | cases h
theorem star_none {pos : Pos} {env : PySem.Env} : ∀ {es : List Expr}, es.all notStar = true → (backTo pos (starEach es env)).any (·.1) = false
  | [], _ => rfl
  | e :: es, h => by
    simp only [List.all_cons, Bool.and_eq_true] at h
    rw [star_cons h.1]
    have := star_none (pos := pos) (env := env) h.2
    show (false || (backTo pos (starEach es env)).any (·.1)) = false
    rw [this]; rfl
def notSet : Expr → Bool
  | .Set .. => false
  | _ => true
theorem fold_none {e : Expr} (h : notSet e = true) (env : PySem.Env) : ∀ x, foldedSetIterable e env x = pure x := by
  intro x
  cases e <;> first | rfl | cases h
theorem behind_none {op : CmpOp} {e : Expr} (h : notSet e = true) : behindInMarks op e = false := by
  cases e <;> first | rfl | cases h
def notSlice : Expr → Bool
  | .Slice .. => false
  | _ => true
theorem plainIx_of {e : Expr} (h : notSlice e = true) : PlainIx e := by
  intro o i
  cases e <;> first | rfl | cases h
def isCall0 : Expr → Bool
  | .Call .. => true
  | _ => false
theorem attrBase_of {o : Expr} {m : Str} {env : PySem.Env} (h : isCall0 o = false) (w : Sem Value) : attributeBase o m env w = w := by
  cases o <;> first | rfl | cases h

/-! ### the checker's context -/
structure Kx where
  N : List Str
  dn : Nat → Option Str
  gc : Str → Option D
  free : Str → Bool
  sc : Scope
  fs : Str → Bool
def eqS (a b : Str) : Bool := decide (a = b)
theorem eqS_eq {a b : Str} (h : eqS a b = true) : a = b := of_decide_eq_true h
def okName (x : Str) : Bool := !(x == ("__debug__" : Str)) && !(x == ("__classdict__" : Str))
def atName (K : Kx) (i : Nat) (x : Str) : Bool := match K.N[i]? with
  | some y => eqS y x
  | none => false
theorem atName_eq {K : Kx} {i : Nat} {x : Str} (h : atName K i x = true) : K.N[i]? = some x := by
  unfold atName at h
  cases q : K.N[i]? with
  | none => rw [q] at h; cases h
  | some y => rw [q] at h; rw [eqS_eq h]
def isVis (sc : Scope) (x : Str) : Bool := match sc.names.lookup x with
  | some .local => true
  | some .cell => true
  | some .free => true
  | _ => false
theorem isVis_eq {sc : Scope} {x : Str} (h : isVis sc x = true) : Vis sc x := by
  unfold isVis at h
  unfold Vis
  cases q : sc.names.lookup x with
  | none => rw [q] at h; cases h
  | some k => rw [q] at h; cases k <;> first | exact .inl rfl | exact .inr (.inl rfl) | exact .inr (.inr rfl) | cases h
def isGl (K : Kx) (x : Str) : Bool := (match K.sc.names.lookup x with
  | some .globalImplicit => true
  | _ => false) && okName x
def isSt (K : Kx) (x : Str) : Bool := match K.sc.names.lookup x with
  | some .local => true
  | some .cell => K.fs x
  | _ => false
def isLocal (sc : Scope) (x : Str) : Bool := match sc.names.lookup x with
  | some .local => true
  | _ => false
theorem isLocal_eq {sc : Scope} {x : Str} (h : isLocal sc x = true) : sc.names.lookup x = some .local := by
  unfold isLocal at h
  cases q : sc.names.lookup x with
  | none => rw [q] at h; cases h
  | some k => rw [q] at h; cases k <;> first | rfl | cases h
def Kx.blk (K : Kx) (scope : Scope) : Kx := { K with sc := relS scope K.sc, fs := fun x => match scope.names.lookup x with
  | some .cell => true
  | _ => false }
/-- the context that runs is as the checker has it -/
structure Good (K : Kx) (C : Nat → List W → M W) (cA : Nat → Addr) (X : Cx) (Wx : Value → Option Addr → Hp → Prop) : Prop where
  names : X.N = K.N
  nd : X.N.Nodup
  scope : X.env.scope = K.sc
  kind : X.env.scope.kind = .function
  fn : ∀ x, K.fs x = true → X.fn x = true
  calm : X.calm = true
  room : X.A.units + 200 < cLine
  const : ∀ x d, K.gc x = some d → ∃ v u, X.mg x = some u ∧ RelV v u ∧ ∀ H, Rp (kw X) H d v
  free : ∀ x, K.free x = true → X.mg x = none
  call : ∀ f x, K.dn f = some x → CallOk (C f) cA X Wx x
section
variable {K : Kx} {C : Nat → List W → M W} {cA : Nat → Addr} {X : Cx} {Wx : Value → Option Addr → Hp → Prop}
theorem Good.at_ (g : Good K C cA X Wx) {i : Nat} {x : Str} (h : atName K i x = true) : X.N[i]? = some x := by rw [g.names]; exact atName_eq h
theorem Good.vis (g : Good K C cA X Wx) {x : Str} (h : isVis K.sc x = true) : Vis X.env.scope x := by rw [g.scope]; exact isVis_eq h
theorem Good.gl (g : Good K C cA X Wx) {x : Str} (h : isGl K x = true) : Gl X x ∧ (x == ("__debug__" : Str)) = false := by
  unfold isGl at h
  simp only [Bool.and_eq_true, okName, Bool.not_eq_true'] at h
  refine ⟨?_, h.2.1⟩
  have h1 := h.1
  show X.env.scope.names.lookup x = some .globalImplicit
  rw [g.scope]
  cases q : K.sc.names.lookup x with
  | none => rw [q] at h1; cases h1
  | some k => rw [q] at h1; cases k <;> first | rfl | cases h1
theorem Good.st (g : Good K C cA X Wx) {x : Str} (h : isSt K x = true) : Loc X.env.scope x ∧ (X.fn x = true ∨ X.env.scope.names.lookup x = some .local) := by
  unfold isSt at h
  rw [g.scope]
  unfold L2.Loc
  cases q : K.sc.names.lookup x with
  | none => rw [q] at h; cases h
  | some k =>
    rw [q] at h
    cases k with
    | «local» => exact ⟨.inl rfl, .inr rfl⟩
    | cell => exact ⟨.inr rfl, .inl (g.fn x h)⟩
    | _ => cases h
theorem okName_eq {x : Str} (h : okName x = true) : (x == ("__debug__" : Str)) = false ∧ (x == ("__classdict__" : Str)) = false := by
  simpa [okName] using h
theorem Good.blk (g : Good K C cA X Wx) {scope : Scope} {own : List (Str × Nat)} (ok : blkC K.N K.sc scope own = true) (s : Shared) (H : Hp) (C' : Addr) (cl : List (Str × Addr)) (fp : List Addr) :
    Good (K.blk scope) C cA (X.blk s H scope (compEnvC scope cl C' X.env) fp) WF where
  names := g.names
  nd := g.nd
  scope := by
    show relS scope X.env.scope = relS scope K.sc
    rw [g.scope]
  kind := (blkOk_by ok).kind
  fn x h := by
    show (scope.names.lookup x == some .cell) = true
    have h : (match scope.names.lookup x with | some .cell => true | _ => false) = true := h
    cases q : scope.names.lookup x with
    | none => rw [q] at h; cases h
    | some k => rw [q] at h; cases k <;> first | rfl | cases h
  calm := g.calm
  room := g.room
  const := g.const
  free := g.free
  call f x h := by
    obtain ⟨k, fa, fd, ps, F, hr, hm, hk, hb, hx, hn⟩ := (g.call f x h).ok
    exact ⟨k, fa, fd, ps, F, hr, hm, hk, hb, passes_call LamX.takes0 (fun _ _ _ _ z => z.elim), hn⟩
end

/-! ### the built-ins -/
def constD : Const → Option D
  | .none => some .non
  | .bool b => some (.bl b)
  | .int i => some (.int i)
  | .str s => some (.str s)
  | _ => none
def biB : Bi → Option (Str × String)
  | .len => some ("len", "len")
  | .all => some ("all", "all")
  | .any => some ("any", "any")
  | .abs => some ("abs", "abs")
  | .sum => some ("sum", "sum")
  | .min => some ("min", "min")
  | .max => some ("max", "max")
  | .sorted => some ("sorted", "sorted")
  | _ => none
def biT : Bi → Option (Str × String)
  | .int => some ("int", "int")
  | .bool => some ("bool", "bool")
  | .str => some ("str", "str")
  | .list => some ("list", "list")
  | .tuple => some ("tuple", "tuple")
  | _ => none
def isiN : String → Option Str
  | "str" => some "str"
  | "int" => some "int"
  | "bool" => some "bool"
  | "tuple" => some "tuple"
  | "list" => some "list"
  | _ => none
theorem biB_ok {X : Cx} (hc : X.calm = true) (hu : X.A.units + 100 < cLine) {b : Bi} {x : Str} {id : String} (h : biB b = some (x, id)) : (∀ μ, CallR X (.builtin id) (rBi (kw X) μ b)) ∧ bootBuiltins x = some (.builtin id) ∧ x ≠ "__name__" := by
  cases b <;> cases h
  · exact ⟨fun μ => cb_len, by decide +kernel, by decide⟩
  · exact ⟨fun μ => cb_all hc, by decide +kernel, by decide⟩
  · exact ⟨fun μ => cb_any hc, by decide +kernel, by decide⟩
  · exact ⟨fun μ => cb_abs, by decide +kernel, by decide⟩
  · exact ⟨fun μ => cb_sum hc, by decide +kernel, by decide⟩
  · exact ⟨fun μ => cb_min hc, by decide +kernel, by decide⟩
  · exact ⟨fun μ => cb_max hc, by decide +kernel, by decide⟩
  · exact ⟨fun μ => cb_sorted hc hu, by decide +kernel, by decide⟩
theorem biT_ok {X : Cx} (hc : X.calm = true) {b : Bi} {x : Str} {id : String} (h : biT b = some (x, id)) : (∀ μ, CallR X (.type id) (rBi (kw X) μ b)) ∧ bootBuiltins x = some (.type id) ∧ x ≠ "__name__" := by
  cases b <;> cases h
  · exact ⟨fun μ => cb_int, by decide +kernel, by decide⟩
  · exact ⟨fun μ => cb_str, by decide +kernel, by decide⟩
  · exact ⟨fun μ => cb_bool, by decide +kernel, by decide⟩
  · exact ⟨fun μ => cb_listF, by decide +kernel, by decide⟩
  · exact ⟨fun μ => cb_tuple, by decide +kernel, by decide⟩
theorem isiN_ok {T : String} {x : Str} (h : isiN T = some x) : bootBuiltins x = some (.type T) ∧ x ≠ "__name__" ∧ (x == ("__debug__" : Str)) = false := by
  unfold isiN at h
  split at h <;> cases h <;> exact ⟨by decide +kernel, by decide, by decide⟩
def Exs.len : Exs → Nat
  | .nil => 0
  | .cons _ r => r.len + 1
theorem evXs_len {C : Nat → List W → M W} : ∀ (xs : Exs) (ρ : Env) (st : Store) (ws : List W) (st' : Store), evXs C xs ρ st = .ok ws st' → ws.length = xs.len
  | .nil, ρ, st, ws, st', h => by
    simp only [evXs] at h
    cases h; rfl
  | .cons x r, ρ, st, ws, st', h => by
    simp only [evXs] at h
    rw [bind_eq] at h
    cases q : evX C x ρ st with
    | ok w st1 =>
      rw [q] at h
      have h : (evXs C r ρ >>= fun ws => pure (w :: ws)) st1 = .ok ws st' := h
      rw [bind_eq] at h
      cases q2 : evXs C r ρ st1 with
      | ok ws2 st2 =>
        rw [q2] at h
        cases h
        simp only [List.length_cons, Exs.len, evXs_len r ρ st1 ws2 _ q2]
      | exn _ _ => rw [q2] at h; cases h
      | stuck => rw [q2] at h; cases h
    | exn _ _ => rw [q] at h; cases h
    | stuck => rw [q] at h; cases h

/-! ### targets -/
def chkNs (K : Kx) : List Nat → List Expr → Bool
  | [], [] => true
  | i :: is, e :: es => (match asName e with
    | some (x, _) => atName K i x && isSt K x
    | none => false) && chkNs K is es
  | _, _ => false
def chkP (K : Kx) (p : Pt) (e : Expr) : Bool := match p with
  | .n i => (match asName e with
    | some (x, _) => atName K i x && isSt K x
    | none => false)
  | .t ps => (match asTuple e with
    | some (es, _, _) => chkNs K ps es
    | none => false)
section
variable {K : Kx} {C : Nat → List W → M W} {cA : Nat → Addr} {X : Cx} {Wx : Value → Option Addr → Hp → Prop}
theorem chkNs_ok (g : Good K C cA X Wx) : ∀ (is : List Nat) (es : List Expr), chkNs K is es = true → NamesOk X es is
  | [], [], _ => trivial
  | i :: is, e :: es, h => by
    simp only [chkNs, Bool.and_eq_true] at h
    obtain ⟨h1, h2⟩ := h
    cases q : asName e with
    | none => rw [q] at h1; cases h1
    | some r =>
      obtain ⟨x, p⟩ := r
      rw [q] at h1
      simp only [Bool.and_eq_true] at h1
      rw [asName_eq q]
      exact ⟨g.at_ h1.1, (g.st h1.2).1, (g.st h1.2).2, chkNs_ok g is es h2⟩
  | [], _ :: _, h => by cases h
  | _ :: _, [], h => by cases h
theorem chkP_ok (g : Good K C cA X Wx) {p : Pt} {e : Expr} (h : chkP K p e = true) : PG X e (gP (kw X) p) := by
  cases p with
  | n i =>
    simp only [chkP] at h
    cases q : asName e with
    | none => rw [q] at h; cases h
    | some r =>
      obtain ⟨x, p⟩ := r
      rw [q] at h
      simp only [Bool.and_eq_true] at h
      rw [asName_eq q]
      exact pG_n g.nd (g.at_ h.1) (g.st h.2).1 (g.st h.2).2
  | t ps =>
    simp only [chkP] at h
    cases q : asTuple e with
    | none => rw [q] at h; cases h
    | some r =>
      obtain ⟨es, k, p⟩ := r
      rw [q] at h
      rw [asTuple_eq q]
      exact pG_t g.calm g.nd (chkNs_ok g _ _ h)
end
end Ev

/-! EvM: expressions checked: what the text does is what the evaluator says. -/
namespace Ev
open PySem PySem.Spec PyProof.Rows L2 PySem.W

def ownP (K : Kx) (own : List Nat) : List (Str × Nat) := own.map fun i => (K.N.getD i ⟨#[]⟩, i)
theorem ownP_snd (K : Kx) (own : List Nat) : (ownP K own).map (·.2) = own := by
  unfold ownP
  rw [List.map_map]
  exact List.map_id own
def isM1 : Expr → Option (Nat × Pos × Pos)
  | .UnaryOp .USub (.Constant (.int 1) k p1) p2 => some (k, p1, p2)
  | _ => none
theorem isM1_eq {e : Expr} {r} (h : isM1 e = some r) : e = .UnaryOp .USub (.Constant (.int 1) r.1 r.2.1) r.2.2 := by
  unfold isM1 at h
  split at h
  · cases h; rfl
  · cases h
def tgOk : Wk → Expr → Bool
  | .zp _ _, tg => (asTuple tg).isSome
  | .en _, tg => (asTuple tg).isSome
  | _, _ => true
/-- a built-in's name, free -/
def isB (K : Kx) (n x : Str) : Bool := eqS n x && isGl K x && K.free x
def okFn (K : Kx) (f : Nat) (x : Str) : Bool := match K.dn f with
  | some y => eqS y x
  | none => false
mutual
def chkX : Kx → Ex → Expr → Bool
  | K, .v i, e => (match asName e with
    | some (x, _) => atName K i x && isVis K.sc x && okName x
    | none => false)
  | _, .c d, e => (match asConst e with
    | some (c, _, _) => (match constD c with
      | some d' => sameD d' d
      | none => false)
    | none => false)
  | K, .g x d, e => (match asName e with
    | some (y, _) => eqS x y && isGl K y && (match K.gc y with
      | some d' => sameD d' d
      | none => false)
    | none => false)
  | K, .tup es, e => (match asTuple e with
    | some (xs, _, _) => Nat.ble es.len 100000 && xs.all notStar && chkXs K es xs
    | none => false)
  | K, .lst es, e => (match asList e with
    | some (xs, _) => Nat.ble es.len 100000 && xs.all notStar && chkXs K es xs
    | none => false)
  | K, .nl (.lst es), e => (match asList e with
    | some (xs, _) => Nat.ble es.len 100000 && xs.all notStar && chkXs K es xs
    | none => false)
  | K, .nl (.bi .list (.cons a .nil)), e => (match asCall e with
    | some (x, _, [y], _) => isB K "list" x && notStar y && chkX K a y
    | _ => false)
  | K, .nl (.dic ps), e => (match asDict e with
    | some (ks, vs, _) => Nat.ble ps.len 15 && !ks.isEmpty && chkKv K ps ks vs
    | none => false)
  | K, .dic ps, e => (match asDict e with
    | some (ks, vs, _) => Nat.ble ps.len 15 && !ks.isEmpty && chkKv K ps ks vs
    | none => false)
  | _, .ndt, e => (match asDict e with
    | some ([], [], _) => true
    | _ => false)
  | K, .bin op a b, e => (match asBin e with
    | some (x, op', y, _) => decide (op = op') && chkX K a x && chkX K b y
    | none => false)
  | K, .neg a, e => (match asUn e with
    | some (.USub, x, _) => chkX K a x
    | _ => false)
  | K, .nt a, e => (match asUn e with
    | some (.Not, x, _) => chkX K a x
    | _ => false)
  | K, .and a b, e => (match asBool e with
    | some (.And, [x, y], _) => chkX K a x && chkX K b y
    | some (.And, x :: y :: rest, p) => chkX K a x && chkX K b (.BoolOp .And (y :: rest) p)
    | _ => false)
  | K, .or a b, e => (match asBool e with
    | some (.Or, [x, y], _) => chkX K a x && chkX K b y
    | some (.Or, x :: y :: rest, p) => chkX K a x && chkX K b (.BoolOp .Or (y :: rest) p)
    | _ => false)
  | K, .cmp op a b, e => (match asCmp e with
    | some (x, [op'], [y], _) => decide (op = op') && notSet y && chkX K a x && chkX K b y
    | _ => false)
  | K, .cmp2 op1 op2 a b c, e => (match asCmp e with
    | some (x, [o1, o2], [y, z], _) => decide (op1 = o1) && decide (op2 = o2) && notSet z && chkX K a x && chkX K b y && chkX K c z
    | _ => false)
  | K, .ite c a b, e => (match asIf e with
    | some (x, y, z, _) => chkX K c x && chkX K a y && chkX K b z
    | none => false)
  | K, .ix a i, e => (match asSub e with
    | some (x, y, _) => notSlice y && chkX K a x && chkX K i y
    | none => false)
  | K, .sl a lo hi, e => (match asSub e with
    | some (x, y, _) => (match asSlice y with
      | some (l, h, none, _) => chkX K a x && chkO K lo l && chkO K hi h
      | _ => false)
    | none => false)
  | K, .rv a, e => (match asSub e with
    | some (x, y, _) => (match asSlice y with
      | some (none, none, some z, _) => (isM1 z).isSome && chkX K a x
      | _ => false)
    | none => false)
  | K, .call f es, e => (match asCall e with
    | some (x, _, xs, _) => okFn K f x && isGl K x && xs.all notStar && chkXs K es xs
    | none => false)
  | K, .bi b es, e => (match asCall e with
    | some (x, _, xs, _) => (match biB b with
      | some (n, _) => eqS n x
      | none => (match biT b with
        | some (n, _) => eqS n x
        | none => false)) && isGl K x && K.free x && !xs.isEmpty && xs.all notStar && chkXs K es xs
    | none => false)
  | K, .lens a, e => (match asCall e with
    | some (x, _, [y], _) => isB K "len" x && (match asCall y with
      | some (x2, _, [z], _) => isB K "set" x2 && notStar z && chkX K a z
      | _ => false)
    | _ => false)
  | K, .lrg a b, e => (match asCall e with
    | some (x, _, [y], _) => isB K "list" x && (match asCall y with
      | some (x2, _, [z1, z2], _) => isB K "range" x2 && notStar z1 && notStar z2 && chkX K a z1 && chkX K b z2
      | _ => false)
    | _ => false)
  | K, .lrg0 b, e => (match asCall e with
    | some (x, _, [y], _) => isB K "list" x && (match asCall y with
      | some (x2, _, [z2], _) => isB K "range" x2 && notStar z2 && chkX K b z2
      | _ => false)
    | _ => false)
  | K, .isi a T, e => (match asCall e with
    | some (x, _, [y, t], _) => isB K "isinstance" x && notStar y && (match asName t, isiN T with
      | some (n, _), some n' => isB K n' n
      | _, _ => false) && chkX K a y
    | _ => false)
  | K, .mt .append o (.cons a .nil), e => (match asMeth e with
    | some (o', m, p, [y], q) => eqS m "append" && !isCall0 o' && (p.endLine == q.line) && notStar y && chkX K o o' && chkX K a y
    | _ => false)
  | K, .mt .pop o .nil, e => (match asMeth e with
    | some (o', m, p, [], q) => eqS m "pop" && !isCall0 o' && (p.endLine == q.line) && chkX K o o'
    | _ => false)
  | K, .mt .pop o (.cons a .nil), e => (match asMeth e with
    | some (o', m, p, [y], q) => eqS m "pop" && !isCall0 o' && (p.endLine == q.line) && notStar y && chkX K o o' && chkX K a y
    | _ => false)
  | K, .mt .get o (.cons a .nil), e => (match asMeth e with
    | some (o', m, p, [y], q) => eqS m "get" && !isCall0 o' && (p.endLine == q.line) && notStar y && chkX K o o' && chkX K a y
    | _ => false)
  | K, .mt .get o (.cons a (.cons b .nil)), e => (match asMeth e with
    | some (o', m, p, [y, z], q) => eqS m "get" && !isCall0 o' && (p.endLine == q.line) && notStar y && notStar z && chkX K o o' && chkX K a y && chkX K b z
    | _ => false)
  | K, .mt .upper o .nil, e => (match asMeth e with
    | some (o', m, p, [], q) => eqS m "upper" && !isCall0 o' && (p.endLine == q.line) && chkX K o o'
    | _ => false)
  | K, .lc x p it c own, e => (match asLc e with
    | some (elt, tg, iter, ifs, sc, _) => blkC K.N K.sc sc (ownP K own) && notSet iter && p.slots.all (fun i => own.contains i) && tgOk it tg && chkWk K it iter && chkP (K.blk sc) p tg && chkC (K.blk sc) c ifs && chkX (K.blk sc) x elt
    | none => false)
  | K, .dc x y p it c own, e => (match asDc e with
    | some (kx, vx, tg, iter, ifs, sc, _) => blkC K.N K.sc sc (ownP K own) && notSet iter && p.slots.all (fun i => own.contains i) && tgOk it tg && chkWk K it iter && chkP (K.blk sc) p tg && chkC (K.blk sc) c ifs && chkX (K.blk sc) x kx && chkX (K.blk sc) y vx
    | none => false)
  | _, _, _ => false
def chkXs : Kx → Exs → List Expr → Bool
  | _, .nil, [] => true
  | K, .cons x xs, e :: es => chkX K x e && chkXs K xs es
  | _, _, _ => false
def chkKv : Kx → Kvs → List (Option Expr) → List Expr → Bool
  | _, .nil, [], [] => true
  | K, .cons k v r, some e :: ks, f :: vs => chkX K k e && chkX K v f && chkKv K r ks vs
  | _, _, _, _ => false
def chkO : Kx → Ox → Option Expr → Bool
  | _, .no, none => true
  | K, .so x, some e => chkX K x e
  | _, _, _ => false
def chkC : Kx → Ox → List Expr → Bool
  | _, .no, [] => true
  | K, .so x, [e] => chkX K x e
  | _, _, _ => false
def chkWk : Kx → Wk → Expr → Bool
  | K, .sq x, e => chkX K x e
  | K, .r1 a, e => (match asCall e with
    | some (n, _, [x], _) => isB K "range" n && notStar x && chkX K a x
    | _ => false)
  | K, .r2 a b, e => (match asCall e with
    | some (n, _, [x, y], _) => isB K "range" n && notStar x && notStar y && chkX K a x && chkX K b y
    | _ => false)
  | K, .r3 a b c, e => (match asCall e with
    | some (n, _, [x, y, z], _) => isB K "range" n && notStar x && notStar y && notStar z && chkX K a x && chkX K b y && chkX K c z
    | _ => false)
  | K, .zp a b, e => (match asCall e with
    | some (n, _, [x, y], _) => isB K "zip" n && notStar x && notStar y && chkX K a x && chkX K b y
    | _ => false)
  | K, .en a, e => (match asCall e with
    | some (n, _, [x], _) => isB K "enumerate" n && notStar x && chkX K a x
    | _ => false)
  | _, .itm _, _ => false
end
theorem constD_ok {X : Cx} {c : Const} {d : D} {k : Nat} {pos : Pos} (h : constD c = some d) : ∃ v, PE X (.Constant c k pos) (tC v) ∧ ∀ H, Rp (kw X) H d v := by
  cases c <;> cases h
  · exact ⟨_, pe_non, fun _ => rfl⟩
  · exact ⟨_, pe_bl, fun _ => rfl⟩
  · exact ⟨_, pe_int, fun _ => rfl⟩
  · exact ⟨_, pe_str, fun _ => rfl⟩
theorem pw_of_pt {X : Cx} {op : BoolOp} {es : List Expr} {pos : Pos} {t : TT} (h : PT X (.BoolOp op es pos) t) : PW X (.BoolOp op es pos) t := ⟨fun wh pins s σ H Q I q => h.run pins s σ H Q I q⟩
theorem pt_of_pw {X : Cx} {e : Expr} {t : TT} (h : PW X e t) : PT X e t := ⟨fun pins s σ H Q I q => h.run _ pins s σ H Q I q⟩
theorem ble_size {n : Nat} (h : Nat.ble n 100000 = true) : n ≤ sizeLine := by
  have := Nat.le_of_ble_eq_true h
  rw [sizeLine_eq]
  omega
section
variable {C : Nat → List W → M W} {cA : Nat → Addr}
theorem both {X : Cx} {Wx : Value → Option Addr → Hp → Prop} {e : Expr} {x : Ex} (h : PE X e (TX C cA X Wx x)) (p : plainTest e = true) : PE X e (TX C cA X Wx x) ∧ PT X e (TT' C cA X Wx x) := ⟨h, pT_val h (isTrue_val p _)⟩
theorem isB_ok {K : Kx} {X : Cx} {Wx : Value → Option Addr → Hp → Prop} (g : Good K C cA X Wx) {n x : Str} (h : isB K n x = true) : x = n ∧ Gl X x ∧ X.mg x = none ∧ (x == ("__debug__" : Str)) = false := by
  simp only [isB, Bool.and_eq_true] at h
  exact ⟨(eqS_eq h.1.1).symm, (g.gl h.1.2).1, g.free _ h.2, (g.gl h.1.2).2⟩
theorem u100 {K : Kx} {X : Cx} {Wx : Value → Option Addr → Hp → Prop} (g : Good K C cA X Wx) : X.A.units + 100 < cLine := by have := g.room; omega
mutual
theorem sX : ∀ (x : Ex) {K : Kx} {X : Cx} {Wx : Value → Option Addr → Hp → Prop} (_ : Good K C cA X Wx) {e : Expr}, chkX K x e = true → PE X e (TX C cA X Wx x) ∧ PT X e (TT' C cA X Wx x)
  | .v i, K, X, Wx, g, e, h => by
    simp only [chkX] at h
    cases q : asName e with
    | none => rw [q] at h; cases h
    | some r =>
      obtain ⟨x, p⟩ := r
      rw [q] at h
      simp only [Bool.and_eq_true] at h
      rw [asName_eq q]
      exact both (pX_v (g.at_ h.1.1) (g.vis h.1.2) (okName_eq h.2).1 (okName_eq h.2).2) rfl
  | .c d, K, X, Wx, g, e, h => by
    simp only [chkX] at h
    cases q : asConst e with
    | none => rw [q] at h; cases h
    | some r =>
      obtain ⟨c, k, p⟩ := r
      rw [q] at h
      dsimp only at h
      cases q2 : constD c with
      | none => rw [q2] at h; cases h
      | some d' =>
        rw [q2] at h
        have := sameD_eq _ _ h
        subst this
        rw [asConst_eq q]
        obtain ⟨v, h1, h2⟩ := constD_ok (X := X) (k := k) (pos := p) q2
        exact both (pX_c h1 h2) rfl
  | .g x d, K, X, Wx, g, e, h => by
    simp only [chkX] at h
    cases q : asName e with
    | none => rw [q] at h; cases h
    | some r =>
      obtain ⟨y, p⟩ := r
      rw [q] at h
      simp only [Bool.and_eq_true] at h
      obtain ⟨⟨h1, h2⟩, h3⟩ := h
      cases q2 : K.gc y with
      | none => rw [q2] at h3; cases h3
      | some d' =>
        rw [q2] at h3
        have := sameD_eq _ _ h3
        subst this
        rw [asName_eq q, eqS_eq h1]
        obtain ⟨v, u, m1, m2, m3⟩ := g.const _ _ q2
        exact both (pX_g (g.gl h2).1 m1 m2 m3 (g.gl h2).2) rfl
  | .tup es, K, X, Wx, g, e, h => by
    simp only [chkX] at h
    cases q : asTuple e with
    | none => rw [q] at h; cases h
    | some r =>
      obtain ⟨xs, k, p⟩ := r
      rw [q] at h
      simp only [Bool.and_eq_true] at h
      rw [asTuple_eq q]
      exact both (pX_tup (sXs es g h.1.2 h.2) fun ρ st ws st' z => by rw [evXs_len _ _ _ _ _ z]; exact ble_size h.1.1) rfl
  | .lst es, K, X, Wx, g, e, h => by
    simp only [chkX] at h
    cases q : asList e with
    | none => rw [q] at h; cases h
    | some r =>
      obtain ⟨xs, p⟩ := r
      rw [q] at h
      simp only [Bool.and_eq_true] at h
      rw [asList_eq q]
      exact both (pX_lst (sXs es g h.1.2 h.2) fun ρ st ws st' z => by rw [evXs_len _ _ _ _ _ z]; exact ble_size h.1.1) rfl
  | .nl y, K, X, Wx, g, e, h => by
    cases y with
    | lst es =>
      simp only [chkX] at h
      cases q : asList e with
      | none => rw [q] at h; cases h
      | some r =>
        obtain ⟨xs, p⟩ := r
        rw [q] at h
        simp only [Bool.and_eq_true] at h
        rw [asList_eq q]
        exact both (pX_nlLst (sXs es g h.1.2 h.2) fun ρ st ws st' z => by rw [evXs_len _ _ _ _ _ z]; exact ble_size h.1.1) rfl
    | dic ps =>
      simp only [chkX] at h
      cases q : asDict e with
      | none => rw [q] at h; cases h
      | some r =>
        obtain ⟨ks, vs, p⟩ := r
        rw [q] at h
        simp only [Bool.and_eq_true, Bool.not_eq_true'] at h
        obtain ⟨⟨h1, h2⟩, h3⟩ := h
        rw [asDict_eq q]
        obtain ⟨k1, k2, k3, k4⟩ := sKv ps g (pos := p) h3
        have h15 := Nat.le_of_ble_eq_true h1
        exact both (pX_nlDic k1 k2 k3 (fun z => by subst z; cases h2) (by rw [← k4]; exact h15) k4) rfl
    | bi b es =>
      cases b with
      | list =>
        cases es with
        | nil => simp only [chkX] at h; cases h
        | cons a r =>
          cases r with
          | cons _ _ => simp only [chkX] at h; cases h
          | nil =>
            simp only [chkX] at h
            split at h
            · rename_i x p y q z
              simp only [Bool.and_eq_true] at h
              obtain ⟨rfl, h1, h2, h3⟩ := isB_ok g h.1.1
              rw [asCall_eq z]
              exact both (pX_nlList h1 h2 (sX a g h.2).1 (star_cons h.1.2 _ _)) rfl
            · cases h
      | _ => simp only [chkX] at h; cases h
    | _ => simp only [chkX] at h; cases h
  | .bin op a b, K, X, Wx, g, e, h => by
    simp only [chkX] at h
    cases q : asBin e with
    | none => rw [q] at h; cases h
    | some r =>
      obtain ⟨x, op', y, p⟩ := r
      rw [q] at h
      simp only [Bool.and_eq_true, decide_eq_true_eq] at h
      obtain ⟨⟨rfl, h1⟩, h2⟩ := h
      rw [asBin_eq q]
      exact both (pX_bin (sX a g h1).1 (sX b g h2).1) rfl
  | .neg a, K, X, Wx, g, e, h => by
    simp only [chkX] at h
    split at h
    · rename_i x p z
      rw [asUn_eq z]
      refine ⟨pX_neg (sX a g h).1, pT_val (pX_neg (sX a g h).1) fun _ => rfl⟩
    · cases h
  | .nt a, K, X, Wx, g, e, h => by
    simp only [chkX] at h
    split at h
    · rename_i x p z
      rw [asUn_eq z]
      exact ⟨pX_not (sX a g h).1, pT_not (sX a g h).2⟩
    · cases h
  | .and a b, K, X, Wx, g, e, h => by
    simp only [chkX] at h
    split at h
    · rename_i x y p z
      simp only [Bool.and_eq_true] at h
      rw [asBool_eq z]
      exact ⟨pX_and (sX a g h.1).1 (pe_one (sX b g h.2).1), pt_of_pw (pW_and (sX a g h.1).2 (pw_and1 (sX b g h.2).2))⟩
    · rename_i x y rest p _ z
      simp only [Bool.and_eq_true] at h
      rw [asBool_eq z]
      exact ⟨pX_and (sX a g h.1).1 (sX b g h.2).1, pt_of_pw (pW_and (sX a g h.1).2 (pw_of_pt (sX b g h.2).2))⟩
    · cases h
  | .or a b, K, X, Wx, g, e, h => by
    simp only [chkX] at h
    split at h
    · rename_i x y p z
      simp only [Bool.and_eq_true] at h
      rw [asBool_eq z]
      exact ⟨pX_or (sX a g h.1).1 (pe_one (sX b g h.2).1), pt_of_pw (pW_or (sX a g h.1).2 (pw_or1 (sX b g h.2).2))⟩
    · rename_i x y rest p _ z
      simp only [Bool.and_eq_true] at h
      rw [asBool_eq z]
      exact ⟨pX_or (sX a g h.1).1 (sX b g h.2).1, pt_of_pw (pW_or (sX a g h.1).2 (pw_of_pt (sX b g h.2).2))⟩
    · cases h
  | .cmp op a b, K, X, Wx, g, e, h => by
    simp only [chkX] at h
    split at h
    · rename_i x op' y p z
      simp only [Bool.and_eq_true, decide_eq_true_eq] at h
      obtain ⟨⟨⟨rfl, h0⟩, h1⟩, h2⟩ := h
      rw [asCmp_eq z]
      exact ⟨pX_cmp (u100 g) (behind_none h0) (sX a g h1).1 (sX b g h2).1, pT_cmp (u100 g) (behind_none h0) (sX a g h1).1 (sX b g h2).1⟩
    · cases h
  | .cmp2 op1 op2 a b c, K, X, Wx, g, e, h => by
    simp only [chkX] at h
    split at h
    · rename_i x o1 o2 y z p q
      simp only [Bool.and_eq_true, decide_eq_true_eq] at h
      obtain ⟨⟨⟨⟨⟨rfl, rfl⟩, h0⟩, h1⟩, h2⟩, h3⟩ := h
      rw [asCmp_eq q]
      have hm : lastMarks [op1, op2] [y, z] = false := behind_none h0
      exact ⟨pX_cmp2 (u100 g) hm (sX a g h1).1 (sX b g h2).1 (sX c g h3).1, pT_cmp2 (u100 g) hm (sX a g h1).1 (sX b g h2).1 (sX c g h3).1⟩
    · cases h
  | .ite c a b, K, X, Wx, g, e, h => by
    simp only [chkX] at h
    cases q : asIf e with
    | none => rw [q] at h; cases h
    | some r =>
      obtain ⟨x, y, z, p⟩ := r
      rw [q] at h
      simp only [Bool.and_eq_true] at h
      rw [asIf_eq q]
      exact ⟨pX_ite (sX c g h.1.1).2 (sX a g h.1.2).1 (sX b g h.2).1, pT_ite (sX c g h.1.1).2 (sX a g h.1.2).2 (sX b g h.2).2⟩
  | .ix a i, K, X, Wx, g, e, h => by
    simp only [chkX] at h
    cases q : asSub e with
    | none => rw [q] at h; cases h
    | some r =>
      obtain ⟨x, y, p⟩ := r
      rw [q] at h
      simp only [Bool.and_eq_true] at h
      rw [asSub_eq q]
      exact both (pX_ix (u100 g) (plainIx_of h.1.1) (sX a g h.1.2).1 (sX i g h.2).1) rfl
  | .sl a lo hi, K, X, Wx, g, e, h => by
    simp only [chkX] at h
    cases q : asSub e with
    | none => rw [q] at h; cases h
    | some r =>
      obtain ⟨x, y, p⟩ := r
      rw [q] at h
      dsimp only at h
      split at h
      · rename_i l u p2 z
        simp only [Bool.and_eq_true] at h
        rw [asSub_eq q]
        have := asSlice_eq z
        subst this
        exact both (pX_sl (sX a g h.1.1).1 (sO lo g h.1.2) (sO hi g h.2)) rfl
      · cases h
  | .rv a, K, X, Wx, g, e, h => by
    simp only [chkX] at h
    cases q : asSub e with
    | none => rw [q] at h; cases h
    | some r =>
      obtain ⟨x, y, p⟩ := r
      rw [q] at h
      dsimp only at h
      split at h
      · rename_i m p2 z
        simp only [Bool.and_eq_true] at h
        rw [asSub_eq q]
        have := asSlice_eq z
        subst this
        obtain ⟨r, hr⟩ := Option.isSome_iff_exists.mp h.1
        have := isM1_eq hr
        subst this
        exact both (pX_rv (sX a g h.2).1) rfl
      · cases h
  | .call f es, K, X, Wx, g, e, h => by
    simp only [chkX] at h
    cases q : asCall e with
    | none => rw [q] at h; cases h
    | some r =>
      obtain ⟨x, p, xs, p2⟩ := r
      rw [q] at h
      simp only [Bool.and_eq_true] at h
      rw [asCall_eq q]
      have hf : K.dn f = some x := by
        have h1 := h.1.1.1
        unfold okFn at h1
        cases z : K.dn f with
        | none => rw [z] at h1; cases h1
        | some y => rw [z] at h1; rw [eqS_eq h1]
      have hs := sXs es g h.1.2 h.2
      cases xs with
      | nil =>
        cases es with
        | nil => exact both (pX_call0 (g.call f x hf) (g.gl h.1.1.2).1 (g.gl h.1.1.2).2) rfl
        | cons _ _ => simp only [chkXs] at h; cases h.2
      | cons e0 es0 =>
        have hst := h.1.2
        simp only [List.all_cons, Bool.and_eq_true] at hst
        exact both (pX_call (g.call f x hf) (g.gl h.1.1.2).1 (g.gl h.1.1.2).2 hs (star_cons hst.1 _ _) (star_none hst.2)) rfl
  | .bi b es, K, X, Wx, g, e, h => by
    simp only [chkX] at h
    cases q : asCall e with
    | none => rw [q] at h; cases h
    | some r =>
      obtain ⟨x, p, xs, p2⟩ := r
      rw [q] at h
      simp only [Bool.and_eq_true] at h
      rw [asCall_eq q]
      obtain ⟨⟨⟨⟨⟨h1, h2⟩, h3⟩, h4⟩, h5⟩, h6⟩ := h
      have hs := sXs es g h5 h6
      cases xs with
      | nil => cases h4
      | cons e0 es0 =>
        simp only [List.all_cons, Bool.and_eq_true] at h5
        cases zb : biB b with
        | some r =>
          obtain ⟨n, id⟩ := r
          rw [zb] at h1
          have := eqS_eq h1
          subst this
          obtain ⟨k1, k2, k3⟩ := biB_ok g.calm (u100 g) zb
          exact both (pX_biB k1 (g.gl h2).1 (g.free _ h3) k2 hs k3 (g.gl h2).2 (star_cons h5.1 _ _) (star_none h5.2)) rfl
        | none =>
          rw [zb] at h1
          dsimp only at h1
          cases zt : biT b with
          | none => rw [zt] at h1; cases h1
          | some r =>
            obtain ⟨n, id⟩ := r
            rw [zt] at h1
            have := eqS_eq h1
            subst this
            obtain ⟨k1, k2, k3⟩ := biT_ok g.calm zt
            exact both (pX_biT k1 (g.gl h2).1 (g.free _ h3) k2 hs k3 (g.gl h2).2 (star_cons h5.1 _ _) (star_none h5.2)) rfl
  | .lens a, K, X, Wx, g, e, h => by
    simp only [chkX] at h
    split at h
    · rename_i x p y p2 z
      simp only [Bool.and_eq_true] at h
      obtain ⟨h1, h2⟩ := h
      obtain ⟨rfl, k1, k2, k3⟩ := isB_ok g h1
      split at h2
      · rename_i x2 p3 y2 p4 z2
        simp only [Bool.and_eq_true] at h2
        obtain ⟨⟨h3, h4⟩, h5⟩ := h2
        obtain ⟨rfl, m1, m2, m3⟩ := isB_ok g h3
        rw [asCall_eq z]
        have := asCall_eq z2
        subst this
        exact both (pX_lenset g.calm k1 k2 m1 m2 (sX a g h5).1 (star_cons h4 _ _)) rfl
      · cases h2
    · cases h
  | .lrg a b, K, X, Wx, g, e, h => by
    simp only [chkX] at h
    split at h
    · rename_i x p y p2 z
      simp only [Bool.and_eq_true] at h
      obtain ⟨h1, h2⟩ := h
      obtain ⟨rfl, k1, k2, k3⟩ := isB_ok g h1
      split at h2
      · rename_i x2 p3 y1 y2 p4 z2
        simp only [Bool.and_eq_true] at h2
        obtain ⟨⟨⟨⟨h3, h4⟩, h5⟩, h6⟩, h7⟩ := h2
        obtain ⟨rfl, m1, m2, m3⟩ := isB_ok g h3
        rw [asCall_eq z]
        have := asCall_eq z2
        subst this
        exact both (pX_lrg g.calm k1 k2 m1 m2 (sX a g h6).1 (sX b g h7).1 (star_cons h4 _ _) (star_cons h5 _ _) (star_none (by simp [h5]))) rfl
      · cases h2
    · cases h
  | .lrg0 b, K, X, Wx, g, e, h => by
    simp only [chkX] at h
    split at h
    · rename_i x p y p2 z
      simp only [Bool.and_eq_true] at h
      obtain ⟨h1, h2⟩ := h
      obtain ⟨rfl, k1, k2, k3⟩ := isB_ok g h1
      split at h2
      · rename_i x2 p3 y2 p4 z2
        simp only [Bool.and_eq_true] at h2
        obtain ⟨⟨h3, h5⟩, h7⟩ := h2
        obtain ⟨rfl, m1, m2, m3⟩ := isB_ok g h3
        rw [asCall_eq z]
        have := asCall_eq z2
        subst this
        exact both (pX_lrg0 g.calm k1 k2 m1 m2 (sX b g h7).1 (star_cons h5 _ _)) rfl
      · cases h2
    · cases h
  | .isi a T, K, X, Wx, g, e, h => by
    simp only [chkX] at h
    split at h
    · rename_i x p y t p2 z
      simp only [Bool.and_eq_true] at h
      obtain ⟨⟨⟨h1, h2⟩, h3⟩, h4⟩ := h
      obtain ⟨rfl, k1, k2, k3⟩ := isB_ok g h1
      rw [asCall_eq z]
      split at h3
      · rename_i n p3 n' z1 z2
        obtain ⟨rfl, m1, m2, m3⟩ := isB_ok g h3
        have := asName_eq z1
        subst this
        obtain ⟨j1, j2, j3⟩ := isiN_ok z2
        exact both (pX_isi k1 k2 m1 m2 j1 j2 j3 (sX a g h4).1 (star_cons h2 _ _)) rfl
      · cases h3
    · cases h
  | .mt m o es, K, X, Wx, g, e, h => by
    cases m with
    | append =>
      cases es with
      | nil => simp only [chkX] at h; cases h
      | cons a r =>
        cases r with
        | cons _ _ => simp only [chkX] at h; cases h
        | nil =>
          simp only [chkX] at h
          split at h
          · rename_i o' m p y q z
            simp only [Bool.and_eq_true, Bool.not_eq_true'] at h
            obtain ⟨⟨⟨⟨⟨h1, h2⟩, h3⟩, h4⟩, h5⟩, h6⟩ := h
            rw [asMeth_eq z]
            have := eqS_eq h1
            subst this
            exact both (pX_append (sX o g h5).1 (sX a g h6).1 (attrBase_of h2 _) h3 (star_cons h4 _ _)) rfl
          · cases h
    | pop =>
      cases es with
      | nil =>
        simp only [chkX] at h
        split at h
        · rename_i o' m p q z
          simp only [Bool.and_eq_true, Bool.not_eq_true'] at h
          obtain ⟨⟨⟨h1, h2⟩, h3⟩, h5⟩ := h
          rw [asMeth_eq z]
          have := eqS_eq h1
          subst this
          exact both (pX_pop0 (sX o g h5).1 (attrBase_of h2 _) h3) rfl
        · cases h
      | cons a r =>
        cases r with
        | cons _ _ => simp only [chkX] at h; cases h
        | nil =>
          simp only [chkX] at h
          split at h
          · rename_i o' m p y q z
            simp only [Bool.and_eq_true, Bool.not_eq_true'] at h
            obtain ⟨⟨⟨⟨⟨h1, h2⟩, h3⟩, h4⟩, h5⟩, h6⟩ := h
            rw [asMeth_eq z]
            have := eqS_eq h1
            subst this
            exact both (pX_pop1 (sX o g h5).1 (sX a g h6).1 (attrBase_of h2 _) h3 (star_cons h4 _ _)) rfl
          · cases h
    | get =>
      cases es with
      | nil => simp only [chkX] at h; cases h
      | cons a r =>
        cases r with
        | nil =>
          simp only [chkX] at h
          split at h
          · rename_i o' m p y q z
            simp only [Bool.and_eq_true, Bool.not_eq_true'] at h
            obtain ⟨⟨⟨⟨⟨h1, h2⟩, h3⟩, h4⟩, h5⟩, h6⟩ := h
            rw [asMeth_eq z]
            have := eqS_eq h1
            subst this
            exact both (pX_get1 (u100 g) (sX o g h5).1 (sX a g h6).1 (attrBase_of h2 _) h3 (star_cons h4 _ _)) rfl
          · cases h
        | cons b r =>
          cases r with
          | cons _ _ => simp only [chkX] at h; cases h
          | nil =>
            simp only [chkX] at h
            split at h
            · rename_i o' m p y y2 q z
              simp only [Bool.and_eq_true, Bool.not_eq_true'] at h
              obtain ⟨⟨⟨⟨⟨⟨⟨h1, h2⟩, h3⟩, h4⟩, h4'⟩, h5⟩, h6⟩, h7⟩ := h
              rw [asMeth_eq z]
              have := eqS_eq h1
              subst this
              exact both (pX_get2 (u100 g) (sX o g h5).1 (sX a g h6).1 (sX b g h7).1 (attrBase_of h2 _) h3 (by rw [star_cons h4, star_cons h4']; rfl)) rfl
            · cases h
    | upper =>
      cases es with
      | cons _ _ => simp only [chkX] at h; cases h
      | nil =>
        simp only [chkX] at h
        split at h
        · rename_i o' m p q z
          simp only [Bool.and_eq_true, Bool.not_eq_true'] at h
          obtain ⟨⟨⟨h1, h2⟩, h3⟩, h5⟩ := h
          rw [asMeth_eq z]
          have := eqS_eq h1
          subst this
          exact both (pX_upper (sX o g h5).1 (attrBase_of h2 _) h3) rfl
        · cases h
    | _ => simp only [chkX] at h; cases h
  | .lc x p it c own, K, X, Wx, g, e, h => by
    simp only [chkX] at h
    cases q : asLc e with
    | none => rw [q] at h; cases h
    | some r =>
      obtain ⟨elt, tg, iter, ifs, sc, pos⟩ := r
      rw [q] at h
      simp only [Bool.and_eq_true] at h
      obtain ⟨⟨⟨⟨⟨⟨⟨h1, h2⟩, h3⟩, h4⟩, h5⟩, h6⟩, h7⟩, h8⟩ := h
      rw [asLc_eq q]
      have hb := h1
      rw [← g.names, ← g.scope] at hb
      have hsl : ∀ i ∈ p.slots, i ∈ (ownP K own).map (·.2) := fun i hi => by
        rw [ownP_snd]
        have := List.all_eq_true.mp h3 i hi
        simpa using this
      have key := pX_lc (Wx := Wx) (pos := pos) g.calm g.nd (sWk it g h4 h5) (blkOk_by hb) hsl (fun s H C' cl fp => chkP_ok (g.blk h1 s H C' cl fp) h6) (fun s H C' cl fp => sC c (g.blk h1 s H C' cl fp) h7) (fun s H C' cl fp => (sX x (g.blk h1 s H C' cl fp) h8).1) (fold_none h2 _)
      rw [ownP_snd] at key
      exact both key rfl
  | .dic ps, K, X, Wx, g, e, h => by
    simp only [chkX] at h
    cases q : asDict e with
    | none => rw [q] at h; cases h
    | some r =>
      obtain ⟨ks, vs, p⟩ := r
      rw [q] at h
      simp only [Bool.and_eq_true, Bool.not_eq_true'] at h
      obtain ⟨⟨h1, h2⟩, h3⟩ := h
      rw [asDict_eq q]
      obtain ⟨k1, k2, k3, k4⟩ := sKv ps g (pos := p) h3
      have h15 := Nat.le_of_ble_eq_true h1
      exact both (pX_dic k1 k2 k3 (fun z => by subst z; cases h2) (by rw [← k4]; exact h15) k4) rfl
  | .ndt, K, X, Wx, g, e, h => by
    simp only [chkX] at h
    split at h
    · rename_i p z
      rw [asDict_eq z]
      exact both pX_ndt rfl
    · cases h
  | .gd _ _, _, _, _, _, _, h => by simp only [chkX] at h; cases h
  | .dc x y p it c own, K, X, Wx, g, e, h => by
    simp only [chkX] at h
    cases q : asDc e with
    | none => rw [q] at h; cases h
    | some r =>
      obtain ⟨kx, vx, tg, iter, ifs, sc, pos⟩ := r
      rw [q] at h
      simp only [Bool.and_eq_true] at h
      obtain ⟨⟨⟨⟨⟨⟨⟨⟨h1, h2⟩, h3⟩, h4⟩, h5⟩, h6⟩, h7⟩, h8⟩, h9⟩ := h
      rw [asDc_eq q]
      have hb := h1
      rw [← g.names, ← g.scope] at hb
      have hsl : ∀ i ∈ p.slots, i ∈ (ownP K own).map (·.2) := fun i hi => by
        rw [ownP_snd]
        have := List.all_eq_true.mp h3 i hi
        simpa using this
      have key := pX_dc (Wx := Wx) (pos := pos) g.calm g.nd (sWk it g h4 h5) (blkOk_by hb) hsl (fun s H C' cl fp => chkP_ok (g.blk h1 s H C' cl fp) h6) (fun s H C' cl fp => sC c (g.blk h1 s H C' cl fp) h7) (fun s H C' cl fp => (sX x (g.blk h1 s H C' cl fp) h8).1) (fun s H C' cl fp => (sX y (g.blk h1 s H C' cl fp) h9).1) (fold_none h2 _)
      rw [ownP_snd] at key
      exact both key rfl
theorem sXs : ∀ (xs : Exs) {K : Kx} {X : Cx} {Wx : Value → Option Addr → Hp → Prop} (_ : Good K C cA X Wx) {es : List Expr}, es.all notStar = true → chkXs K xs es = true → PA X es (tXs (kw X) cA Wx (evXs C xs))
  | .nil, K, X, Wx, g, [], _, h => pXs_nil
  | .nil, K, X, Wx, g, _ :: _, _, h => by simp only [chkXs] at h; cases h
  | .cons _ _, K, X, Wx, g, [], _, h => by simp only [chkXs] at h; cases h
  | .cons x xs, K, X, Wx, g, e :: es, hs, h => by
    simp only [chkXs, Bool.and_eq_true] at h
    simp only [List.all_cons, Bool.and_eq_true] at hs
    exact pXs_cons (sX x g h.1).1 (sXs xs g hs.2 h.2) (star_cons hs.1 _ _)
theorem sKv : ∀ (ps : Kvs) {K : Kx} {X : Cx} {Wx : Value → Option Addr → Hp → Prop} (_ : Good K C cA X Wx) {pos : Pos} {ks : List (Option Expr)} {vs : List Expr}, chkKv K ps ks vs = true →
    PPs X pos ks vs (kvTr C cA X Wx ps) ∧ ks.all (·.isSome) = true ∧ ks.length = vs.length ∧ ps.len = ks.length
  | .nil, K, X, Wx, g, pos, [], [], h => ⟨pps_nil, rfl, rfl, rfl⟩
  | .nil, K, X, Wx, g, pos, [], _ :: _, h => by simp only [chkKv] at h; cases h
  | .nil, K, X, Wx, g, pos, _ :: _, _, h => by simp only [chkKv] at h; cases h
  | .cons _ _ _, K, X, Wx, g, pos, [], _, h => by simp only [chkKv] at h; cases h
  | .cons _ _ _, K, X, Wx, g, pos, none :: _, _, h => by simp only [chkKv] at h; cases h
  | .cons _ _ _, K, X, Wx, g, pos, some _ :: _, [], h => by simp only [chkKv] at h; cases h
  | .cons k v r, K, X, Wx, g, pos, some e :: ks, f :: vs, h => by
    simp only [chkKv, Bool.and_eq_true] at h
    obtain ⟨a1, a2, a3, a4⟩ := sKv r g (pos := pos) h.2
    exact ⟨pps_cons (sX k g h.1.1).1 (sX v g h.1.2).1 a1, by simp [a2], by simp [a3], by simp [Kvs.len, a4]⟩
theorem sO : ∀ (o : Ox) {K : Kx} {X : Cx} {Wx : Value → Option Addr → Hp → Prop} (_ : Good K C cA X Wx) {e : Option Expr}, chkO K o e = true → PO X e (tO (kw X) cA Wx (evO C o))
  | .no, K, X, Wx, g, none, h => pO_no
  | .no, K, X, Wx, g, some _, h => by simp only [chkO] at h; cases h
  | .so _, K, X, Wx, g, none, h => by simp only [chkO] at h; cases h
  | .so x, K, X, Wx, g, some e, h => by
    simp only [chkO] at h
    exact pO_so (sX x g h).1
theorem sC : ∀ (o : Ox) {K : Kx} {X : Cx} {Wx : Value → Option Addr → Hp → Prop} (_ : Good K C cA X Wx) {es : List Expr}, chkC K o es = true → PTs X es (tT (kw X) cA Wx (evC C o))
  | .no, K, X, Wx, g, [], h => pTs_no
  | .no, K, X, Wx, g, _ :: _, h => by simp only [chkC] at h; cases h
  | .so _, K, X, Wx, g, [], h => by simp only [chkC] at h; cases h
  | .so _, K, X, Wx, g, _ :: _ :: _, h => by simp only [chkC] at h; cases h
  | .so x, K, X, Wx, g, [e], h => by
    simp only [chkC] at h
    exact pTs_so (sX x g h).2
theorem sWk : ∀ (it : Wk) {K : Kx} {X : Cx} {Wx : Value → Option Addr → Hp → Prop} (_ : Good K C cA X Wx) {tg e : Expr}, tgOk it tg = true → chkWk K it e = true → PI X tg e (TIt C cA X Wx it)
  | .sq x, K, X, Wx, g, tg, e, _, h => by
    simp only [chkWk] at h
    exact pI_sq (sX x g h).1
  | .r1 a, K, X, Wx, g, tg, e, _, h => by
    simp only [chkWk] at h
    split at h
    · rename_i n p x q z
      simp only [Bool.and_eq_true] at h
      obtain ⟨rfl, k1, k2, k3⟩ := isB_ok g h.1.1
      rw [asCall_eq z]
      exact pI_r1 k1 k2 (sX a g h.2).1 (star_cons h.1.2 _ _)
    · cases h
  | .r2 a b, K, X, Wx, g, tg, e, _, h => by
    simp only [chkWk] at h
    split at h
    · rename_i n p x y q z
      simp only [Bool.and_eq_true] at h
      obtain ⟨⟨⟨⟨h0, h1⟩, h2⟩, h3⟩, h4⟩ := h
      obtain ⟨rfl, k1, k2, k3⟩ := isB_ok g h0
      rw [asCall_eq z]
      exact pI_r2 k1 k2 (sX a g h3).1 (sX b g h4).1 (by rw [star_cons h1, star_cons h2]; rfl) (by rw [star_cons h2]; rfl)
    · cases h
  | .r3 a b c, K, X, Wx, g, tg, e, _, h => by
    simp only [chkWk] at h
    split at h
    · rename_i n p x y w q z
      simp only [Bool.and_eq_true] at h
      obtain ⟨⟨⟨⟨⟨⟨h0, h1⟩, h2⟩, h3⟩, h4⟩, h5⟩, h6⟩ := h
      obtain ⟨rfl, k1, k2, k3⟩ := isB_ok g h0
      rw [asCall_eq z]
      exact pI_r3 k1 k2 (sX a g h4).1 (sX b g h5).1 (sX c g h6).1 (star_cons h1 _ _) (star_cons h2 _ _) (star_cons h3 _ _) (star_none (by simp [h2, h3]))
    · cases h
  | .zp a b, K, X, Wx, g, tg, e, ht, h => by
    simp only [chkWk] at h
    obtain ⟨r, hr⟩ := Option.isSome_iff_exists.mp ht
    rw [asTuple_eq hr]
    split at h
    · rename_i n p x y q z
      simp only [Bool.and_eq_true] at h
      obtain ⟨⟨⟨⟨h0, h1⟩, h2⟩, h3⟩, h4⟩ := h
      obtain ⟨rfl, k1, k2, k3⟩ := isB_ok g h0
      rw [asCall_eq z]
      exact pI_zp k1 k2 (sX a g h3).1 (sX b g h4).1 (star_cons h1 _ _) (star_cons h2 _ _) (star_none (by simp [h2]))
    · cases h
  | .en a, K, X, Wx, g, tg, e, ht, h => by
    simp only [chkWk] at h
    obtain ⟨r, hr⟩ := Option.isSome_iff_exists.mp ht
    rw [asTuple_eq hr]
    split at h
    · rename_i n p x q z
      simp only [Bool.and_eq_true] at h
      obtain ⟨rfl, k1, k2, k3⟩ := isB_ok g h.1.1
      rw [asCall_eq z]
      exact pI_en k1 k2 (sX a g h.2).1 (star_cons h.1.2 _ _)
    · cases h
  | .itm _, K, X, Wx, g, tg, e, _, h => by simp only [chkWk] at h; cases h
end
end
end Ev

/-! EvN: the checker of statements, and that it is right. -/
namespace Ev
open PySem PySem.Spec PyProof.Rows L2 PySem.W

theorem block_fn {env : PySem.Env} (h : env.scope.kind = .function) : env.blockKind = .function := by unfold Env.blockKind; rw [h]; rfl
def notStarE : Expr → Bool := notStar
theorem starB {e : Expr} (h : notStar e = true) : (match (generalizing := false) e with | .Starred .. => true | _ => false) = false := by cases e <;> first | rfl | cases h
section
variable {env : PySem.Env} {x y z : Str} {px py pz pt pt2 : Pos} {kt k2 : Nat} {a b c : Expr}
theorem sw2_some (hk : env.scope.kind = .function) (hx : env.kindOf x = some .local) (hy : env.kindOf y = some .local) (hl : (py.line == px.line) = true) (hxy : (x == y) = false) (ha : notStar a = true) (hb : notStar b = true)
    (hf : (foldedForSure 8 a && foldedForSure 8 b) = false) (hc : (constantsAlone 8 a && constantsAlone 8 b) = false) : swappedStores [.Tuple [.Name x px, .Name y py] kt pt] (.Tuple [a, b] k2 pt2) env = pure (some [x, y]) := by
  have hb' := block_fn hk
  have ha2 := starB ha
  have hb2 := starB hb
  have hyx : (y == x) = false := by
    cases q : y == x with
    | false => rfl
    | true => rw [eq_of_beq q] at hxy; simp at hxy
  have he : [x, y].eraseDups = [x, y] := by
    simp [List.eraseDups_cons, hyx]
  unfold swappedStores
  simp only [List.length_cons, List.length_nil, hb', List.any_cons, List.any_nil, ha2, hb2, List.filterMap_cons, List.filterMap_nil, hx, hy, List.head?_cons, Option.map_some, Option.getD_some, Expr.pos, hl, List.all_cons, List.all_nil, Bool.and_true, hf, hc, he]
  simp
  have hd : [x, y].eraseDups.length = 2 := congrArg List.length he
  rw [if_neg (fun q => q.elim (fun q => Bool.noConfusion (q.symm.trans ha2)) (fun q => Bool.noConfusion (q.symm.trans hb2))), if_pos hd]
theorem sw3_some (hk : env.scope.kind = .function) (hx : env.kindOf x = some .local) (hy : env.kindOf y = some .local) (hz : env.kindOf z = some .local) (hl : (py.line == px.line) = true) (hl2 : (pz.line == px.line) = true) (hxy : (x == y) = false) (hxz : (x == z) = false) (hyz : (y == z) = false)
    (ha : notStar a = true) (hb : notStar b = true) (hc' : notStar c = true)
    (hf : (foldedForSure 8 a && (foldedForSure 8 b && foldedForSure 8 c)) = false) (hc : (constantsAlone 8 a && (constantsAlone 8 b && constantsAlone 8 c)) = false) : swappedStores [.Tuple [.Name x px, .Name y py, .Name z pz] kt pt] (.Tuple [a, b, c] k2 pt2) env = pure (some [x, y, z]) := by
  have hb' := block_fn hk
  have ha2 := starB ha
  have hb2 := starB hb
  have hc2 := starB hc'
  have fl : ∀ {u v : Str}, (u == v) = false → (v == u) = false := fun {u v} h => by
    cases q : v == u with
    | false => rfl
    | true => rw [eq_of_beq q] at h; simp at h
  have he : [x, y, z].eraseDups = [x, y, z] := by
    simp [List.eraseDups_cons, fl hxy, fl hxz, fl hyz]
  unfold swappedStores
  simp only [List.length_cons, List.length_nil, hb', List.any_cons, List.any_nil, ha2, hb2, hc2, List.filterMap_cons, List.filterMap_nil, hx, hy, hz, List.head?_cons, Option.map_some, Option.getD_some, Expr.pos, hl, hl2, List.all_cons, List.all_nil, Bool.and_true, hf, hc, he]
  simp
  have hd : [x, y, z].eraseDups.length = 3 := congrArg List.length he
  rw [if_neg (fun q => q.elim (fun q => Bool.noConfusion (q.symm.trans ha2)) (fun q => q.elim (fun q => Bool.noConfusion (q.symm.trans hb2)) (fun q => Bool.noConfusion (q.symm.trans hc2)))), if_pos hd]
theorem sw_fold {ts vs : List Expr} (hf : vs.all (foldedForSure 8) = true) : swappedStores [.Tuple ts kt pt] (.Tuple vs k2 pt2) env = pure none := by
  unfold swappedStores
  simp only [hf, if_true]
  (repeat' split) <;> rfl
theorem sw_short {ts vs : List Expr} (h2 : (ts.length == 2) = false) (h3 : (ts.length == 3) = false) : swappedStores [.Tuple ts kt pt] (.Tuple vs k2 pt2) env = pure none := by
  unfold swappedStores
  simp only [h2, h3]
  rfl
theorem names_less {α β : Type} {f : α → Option β} : ∀ {l : List α} {a : α}, a ∈ l → f a = none → (l.filterMap f).length < l.length
  | b :: l, a, h, hn => by
    rcases List.mem_cons.mp h with rfl | h
    · rw [List.filterMap_cons, hn]
      exact Nat.lt_succ_of_le (List.length_filterMap_le f l)
    · have := names_less h hn
      rw [List.filterMap_cons]
      cases f b with
      | none => exact Nat.lt_succ_of_lt this
      | some c => exact Nat.succ_lt_succ this
theorem sw_cell {ts vs : List Expr} (hm : Expr.Name x px ∈ ts) (hx : (env.kindOf x == some .local) = false) : swappedStores [.Tuple ts kt pt] (.Tuple vs k2 pt2) env = pure none := by
  unfold swappedStores
  simp only
  split
  · rfl
  split
  · rfl
  rw [if_pos]
  have h := names_less (f := fun e => match e with
    | .Name id pos => if (env.kindOf id == some .local && pos.line == (Option.map (fun x : Expr => x.pos.line) ts.head?).getD 0) = true then some id else none
    | _ => none) hm (by simp only [hx]; rfl)
  rw [Bool.or_eq_true]
  refine .inl ?_
  rw [bne_iff_ne]
  exact Nat.ne_of_lt h
end

/-! ### what a statement is -/
def asAsg : Stmt → Option (Expr × Expr × Pos)
  | .Assign [t] v p => some (t, v, p)
  | _ => none
def asAug : Stmt → Option (Str × Pos × Operator × Expr × Pos)
  | .AugAssign (.Name x p) op e q => some (x, p, op, e, q)
  | _ => none
def asExS : Stmt → Option (Expr × Pos)
  | .Expr e p => some (e, p)
  | _ => none
def asIfS : Stmt → Option (Expr × List Stmt × List Stmt × Pos)
  | .If c a b p => some (c, a, b, p)
  | _ => none
def asFor : Stmt → Option (Expr × Expr × List Stmt × Pos)
  | .For t i b [] p => some (t, i, b, p)
  | _ => none
def asWh : Stmt → Option (Expr × List Stmt × Pos)
  | .While c b [] p => some (c, b, p)
  | _ => none
def asRet : Stmt → Option (Option Expr × Pos)
  | .Return o p => some (o, p)
  | _ => none
def asBrk : Stmt → Option Pos
  | .Break p => some p
  | _ => none
def asCnt : Stmt → Option Pos
  | .Continue p => some p
  | _ => none
def asPas : Stmt → Option Pos
  | .Pass p => some p
  | _ => none
theorem asAsg_eq {s : Stmt} {r} (h : asAsg s = some r) : s = .Assign [r.1] r.2.1 r.2.2 := by
  unfold asAsg at h
  split at h
  · cases h; rfl
  · cases h
theorem asAug_eq {s : Stmt} {r} (h : asAug s = some r) : s = .AugAssign (.Name r.1 r.2.1) r.2.2.1 r.2.2.2.1 r.2.2.2.2 := by
  unfold asAug at h
  split at h
  · cases h; rfl
  · cases h
theorem asExS_eq {s : Stmt} {r} (h : asExS s = some r) : s = .Expr r.1 r.2 := by cases s <;> cases h; rfl
theorem asIfS_eq {s : Stmt} {r} (h : asIfS s = some r) : s = .If r.1 r.2.1 r.2.2.1 r.2.2.2 := by cases s <;> cases h; rfl
theorem asFor_eq {s : Stmt} {r} (h : asFor s = some r) : s = .For r.1 r.2.1 r.2.2.1 [] r.2.2.2 := by
  unfold asFor at h
  split at h
  · cases h; rfl
  · cases h
theorem asWh_eq {s : Stmt} {r} (h : asWh s = some r) : s = .While r.1 r.2.1 [] r.2.2 := by
  unfold asWh at h
  split at h
  · cases h; rfl
  · cases h
theorem asRet_eq {s : Stmt} {r} (h : asRet s = some r) : s = .Return r.1 r.2 := by cases s <;> cases h; rfl
theorem asBrk_eq {s : Stmt} {r} (h : asBrk s = some r) : s = .Break r := by cases s <;> cases h; rfl
theorem asCnt_eq {s : Stmt} {r} (h : asCnt s = some r) : s = .Continue r := by cases s <;> cases h; rfl
theorem asPas_eq {s : Stmt} {r} (h : asPas s = some r) : s = .Pass r := by cases s <;> cases h; rfl

/-! ### the checker -/
def notComp : Expr → Bool
  | .ListComp .. => false
  | .SetComp .. => false
  | .DictComp .. => false
  | _ => true
theorem swaps_none {e : Expr} (h : notComp e = true) (t : Option Expr) (l : Nat) (env : PySem.Env) : swapsWith e t l env = pure false := by cases e <;> first | rfl | cases h
/-- a name = [..] : is it stored by the comprehension's own road? -/
def swapLc (K : Kx) (y : Str) (py : Pos) (sc : Scope) (pos : Pos) : Bool := isLocal K.sc y && (py.line == pos.line) && !(sc.names.any fun (n, k) => n == y && (k == .local || k == .cell))
/-- several targets, a tuple on the right: 1 stored in order, 2 or 3 swapped, 0 not known -/
def swapT (K : Kx) (ts vs : List Expr) : Nat :=
  if vs.all (foldedForSure 8) then 1
  else if ts.length == 2 || ts.length == 3 then
    (match ts, vs with
    | [.Name x px, .Name y py], [a, b] => if isLocal K.sc x && isLocal K.sc y then (if (py.line == px.line) && !(x == y) && notStar a && notStar b && !(constantsAlone 8 a && constantsAlone 8 b) then 2 else 0)
        else if K.sc.names.lookup x == some .local then (if K.sc.names.lookup y == some .local then 0 else 1) else 1
    | [.Name x px, .Name y py, .Name z pz], [a, b, c] => if isLocal K.sc x && isLocal K.sc y && isLocal K.sc z then (if (py.line == px.line) && (pz.line == px.line) && !(x == y) && !(x == z) && !(y == z) && notStar a && notStar b && notStar c && !(constantsAlone 8 a && (constantsAlone 8 b && constantsAlone 8 c)) then 3 else 0)
        else if K.sc.names.lookup x == some .local then (if K.sc.names.lookup y == some .local then (if K.sc.names.lookup z == some .local then 0 else 1) else 1) else 1
    | _, _ => 0)
  else 1
/-- may tg = v be stored plainly? -/
def plainAsg (K : Kx) (tg v : Expr) : Bool :=
  (match asName tg with
    | some (y, py) => (match asLc v with
      | some (_, _, _, _, sc, pos) => !(swapLc K y py sc pos)
      | none => notComp v)
    | none => (asTuple tg).isSome) &&
  (match asTuple tg, asTuple v with
    | some (ts, _, _), some (vs, _, _) => swapT K ts vs == 1
    | _, _ => true)
def lcAsg (K : Kx) (p : Pt) (e : Ex) (tg v : Expr) : Bool := match p, e, asName tg, asLc v with
  | .n i, .lc x q it c own, some (y, py), some (_, _, _, _, sc, pos) => atName K i y && swapLc K y py sc pos && chkX K (.lc x q it c own) v
  | _, _, _, _ => false
def parAsg (K : Kx) (p : Pt) (e : Ex) (tg v : Expr) : Bool := match p, e, asTuple tg, asTuple v with
  | .t [i, j], .tup es, some (ts, _, _), some (vs, _, _) => swapT K ts vs == 2 && !(i == j) && vs.all notStar && chkXs K es vs
  | .t [i, j, l], .tup es, some (ts, _, _), some (vs, _, _) => swapT K ts vs == 3 && !(i == j) && !(i == l) && !(j == l) && vs.all notStar && chkXs K es vs
  | _, _, _, _ => false
def chkAsg (K : Kx) (p : Pt) (e : Ex) (tg v : Expr) : Bool := if plainAsg K tg v then chkX K e v else (match asLc v with
  | some _ => lcAsg K p e tg v
  | none => parAsg K p e tg v)
mutual
def chkS : Kx → St → Stmt → Bool
  | K, .asg p e, s => (match asAsg s with
    | some (tg, v, _) => chkP K p tg && chkAsg K p e tg v
    | none => false)
  | K, .aug op i e, s => (match asAug s with
    | some (x, _, op', v, _) => atName K i x && isSt K x && decide (op = op') && chkX K e v
    | none => false)
  | K, .sst o i e, s => (match asAsg s with
    | some (tg, v, _) => (match asSub tg with
      | some (a, b, _) => notSlice b && notComp v && chkX K o a && chkX K i b && chkX K e v
      | none => false)
    | none => false)
  | K, .ex e, s => (match asExS s with
    | some (v, _) => notComp v && chkX K e v
    | none => false)
  | K, .ife c a b, s => (match asIfS s with
    | some (t, x, y, _) => chkX K c t && chkSs K a x && chkSs K b y
    | none => false)
  | K, .for p it b, s => (match asFor s with
    | some (tg, i, x, _) => chkP K p tg && tgOk it tg && notSet i && chkWk K it i && chkSs K b x
    | none => false)
  | K, .wh c b, s => (match asWh s with
    | some (t, x, _) => chkX K c t && chkSs K b x
    | none => false)
  | K, .ret e, s => (match asRet s with
    | some (some v, _) => chkX K e v
    | _ => false)
  | _, .retn, s => (match asRet s with
    | some (none, _) => true
    | _ => false)
  | _, .brk, s => (asBrk s).isSome
  | _, .cnt, s => (asCnt s).isSome
  | _, .pas, s => (asPas s).isSome
  | _, _, _ => false
def chkSs : Kx → Ss → List Stmt → Bool
  | _, .nil, [] => true
  | K, .cons s r, x :: xs => chkS K s x && chkSs K r xs
  | _, _, _ => false
end

/-! ### it is right -/
theorem swap1_ok {K : Kx} {env : PySem.Env} (hsc : env.scope = K.sc) {ts vs : List Expr} {kt k2 : Nat} {pt pt2 : Pos} (h : swapT K ts vs = 1) : swappedStores [.Tuple ts kt pt] (.Tuple vs k2 pt2) env = pure none := by
  have kd : ∀ x, env.kindOf x = K.sc.names.lookup x := fun x => by rw [← hsc]; rfl
  unfold swapT at h
  by_cases hf : vs.all (foldedForSure 8) = true
  · exact sw_fold hf
  rw [if_neg hf] at h
  by_cases hl : (ts.length == 2 || ts.length == 3) = true
  · rw [if_pos hl] at h
    split at h
    · rename_i x px y py a b
      split at h
      · split at h <;> cases h
      · split at h
        · split at h
          · cases h
          · rename_i hy
            exact sw_cell (x := y) (px := py) (by simp) (by rw [kd]; simpa using hy)
        · rename_i hx
          exact sw_cell (x := x) (px := px) (by simp) (by rw [kd]; simpa using hx)
    · rename_i x px y py z pz a b c
      split at h
      · split at h <;> cases h
      · split at h
        · split at h
          · split at h
            · cases h
            · rename_i hz
              exact sw_cell (x := z) (px := pz) (by simp) (by rw [kd]; simpa using hz)
          · rename_i hy
            exact sw_cell (x := y) (px := py) (by simp) (by rw [kd]; simpa using hy)
        · rename_i hx
          exact sw_cell (x := x) (px := px) (by simp) (by rw [kd]; simpa using hx)
    · cases h
  · simp only [Bool.or_eq_true, not_or, Bool.not_eq_true] at hl
    exact sw_short hl.1 hl.2
theorem swap2_ok {K : Kx} {env : PySem.Env} (hsc : env.scope = K.sc) (hk : env.scope.kind = .function) {ts vs : List Expr} {kt k2 : Nat} {pt pt2 : Pos} (h : swapT K ts vs = 2) :
    ∃ x px y py a b, ts = [.Name x px, .Name y py] ∧ vs = [a, b] ∧ isLocal K.sc x = true ∧ isLocal K.sc y = true ∧ swappedStores [.Tuple ts kt pt] (.Tuple vs k2 pt2) env = pure (some [x, y]) := by
  have kd : ∀ x, env.kindOf x = K.sc.names.lookup x := fun x => by rw [← hsc]; rfl
  unfold swapT at h
  by_cases hf : vs.all (foldedForSure 8) = true
  · rw [if_pos hf] at h; cases h
  rw [if_neg hf] at h
  by_cases hl0 : (ts.length == 2 || ts.length == 3) = true
  case neg => rw [if_neg hl0] at h; cases h
  rw [if_pos hl0] at h
  · split at h
    · rename_i x px y py a b
      split at h
      · rename_i hl
        simp only [Bool.and_eq_true] at hl
        split at h
        · rename_i hc
          simp only [Bool.and_eq_true, Bool.not_eq_true'] at hc
          obtain ⟨⟨⟨⟨c1, c2⟩, c3⟩, c4⟩, c5⟩ := hc
          refine ⟨x, px, y, py, a, b, rfl, rfl, hl.1, hl.2, sw2_some hk (by rw [kd]; exact isLocal_eq hl.1) (by rw [kd]; exact isLocal_eq hl.2) c1 c2 c3 c4 (by simpa using hf) c5⟩
        · cases h
      · split at h
        · split at h <;> cases h
        · cases h
    · split at h
      · split at h <;> cases h
      · split at h
        · split at h
          · split at h <;> cases h
          · cases h
        · cases h
    · cases h
theorem swap3_ok {K : Kx} {env : PySem.Env} (hsc : env.scope = K.sc) (hk : env.scope.kind = .function) {ts vs : List Expr} {kt k2 : Nat} {pt pt2 : Pos} (h : swapT K ts vs = 3) :
    ∃ x px y py z pz a b c, ts = [.Name x px, .Name y py, .Name z pz] ∧ vs = [a, b, c] ∧ isLocal K.sc x = true ∧ isLocal K.sc y = true ∧ isLocal K.sc z = true ∧ swappedStores [.Tuple ts kt pt] (.Tuple vs k2 pt2) env = pure (some [x, y, z]) := by
  have kd : ∀ x, env.kindOf x = K.sc.names.lookup x := fun x => by rw [← hsc]; rfl
  unfold swapT at h
  by_cases hf : vs.all (foldedForSure 8) = true
  · rw [if_pos hf] at h; cases h
  rw [if_neg hf] at h
  by_cases hl0 : (ts.length == 2 || ts.length == 3) = true
  case neg => rw [if_neg hl0] at h; cases h
  rw [if_pos hl0] at h
  · split at h
    · split at h
      · split at h <;> cases h
      · split at h
        · split at h <;> cases h
        · cases h
    · rename_i x px y py z pz a b c
      split at h
      · rename_i hl
        simp only [Bool.and_eq_true] at hl
        obtain ⟨⟨l1, l2⟩, l3⟩ := hl
        split at h
        · rename_i hc
          simp only [Bool.and_eq_true, Bool.not_eq_true'] at hc
          obtain ⟨⟨⟨⟨⟨⟨⟨⟨c1, c2⟩, c3⟩, c4⟩, c5⟩, c6⟩, c7⟩, c8⟩, c9⟩ := hc
          refine ⟨x, px, y, py, z, pz, a, b, c, rfl, rfl, l1, l2, l3, sw3_some hk (by rw [kd]; exact isLocal_eq l1) (by rw [kd]; exact isLocal_eq l2) (by rw [kd]; exact isLocal_eq l3) c1 c2 c3 c4 c5 c6 c7 c8 (by simpa using hf) c9⟩
        · cases h
      · split at h
        · split at h
          · split at h <;> cases h
          · cases h
        · cases h
    · cases h
theorem sw_other {tg v : Expr} {env : PySem.Env} (h : (match asTuple tg, asTuple v with | some _, some _ => false | _, _ => true) = true) (hl : (asList tg).isSome = false) : swappedStores [tg] v env = pure none := by
  unfold swappedStores
  cases tg <;> cases v <;> first | rfl | (cases hl; done) | (cases h; done)
theorem asg_each {tg : Expr} (h : notStar tg = true) (env : PySem.Env) : (assignEach [tg] env).map (·.2) = [assign tg env] := by cases tg <;> first | rfl | cases h
theorem swapLc_val {K : Kx} {env : PySem.Env} (hsc : env.scope = K.sc) (hk : env.scope.kind = .function) {y : Str} {py pos : Pos} {elt : Expr} {gs : List Comprehension} {sc : Scope} {l : Nat} {b : Bool} (h : swapLc K y py sc pos = b) : swapsWith (.ListComp elt gs sc pos) (some (.Name y py)) l env = pure b := by
  have kd : env.kindOf y = K.sc.names.lookup y := by rw [← hsc]; rfl
  have hb := block_fn hk
  subst h
  unfold swapsWith swapLc isLocal
  simp only [hb, kd, Expr.pos]
  cases K.sc.names.lookup y with
  | none => rfl
  | some k => cases k <;> rfl
section
variable {C : Nat → List W → M W} {cA : Nat → Addr} {F : Nat} {K : Kx} {X : Cx} {Wx : Value → Option Addr → Hp → Prop}
theorem sLcAsg (g : Good K C cA X Wx) {i : Nat} {x : Ex} {q : Pt} {it : Wk} {c : Ox} {own : List Nat} {y : Str} {py pos spos : Pos} {elt tg iter : Expr} {ifs : List Expr} {sc : Scope} (hy : atName K i y = true) (hs : swapLc K y py sc pos = true)
    (h : chkX K (.lc x q it c own) (.ListComp elt [⟨tg, iter, ifs, 0⟩] sc pos) = true) : PS X (.Assign [.Name y py] (.ListComp elt [⟨tg, iter, ifs, 0⟩] sc pos) spos) (TS' C F cA X Wx (.asg (.n i) (.lc x q it c own))) := by
  simp only [chkX, asLc, Bool.and_eq_true] at h
  obtain ⟨⟨⟨⟨⟨⟨⟨h1, h2⟩, h3⟩, h4⟩, h5⟩, h6⟩, h7⟩, h8⟩ := h
  have hb := h1
  rw [← g.names, ← g.scope] at hb
  have hsl : ∀ i ∈ q.slots, i ∈ (ownP K own).map (·.2) := fun i hi => by
    rw [ownP_snd]
    have := List.all_eq_true.mp h3 i hi
    simpa using this
  have hloc : X.env.scope.names.lookup y = some .local := by
    rw [g.scope]
    unfold swapLc at hs
    simp only [Bool.and_eq_true] at hs
    exact isLocal_eq hs.1.1
  have key := pS_asgLc (Wx := Wx) (F := F) (spos := spos) g.calm g.nd (g.at_ hy) hloc (swapLc_val g.scope g.kind hs) (sWk it g h4 h5) (blkOk_by hb) hsl (fun s H C' cl fp => chkP_ok (g.blk h1 s H C' cl fp) h6) (fun s H C' cl fp => sC c (g.blk h1 s H C' cl fp) h7) (fun s H C' cl fp => (sX x (g.blk h1 s H C' cl fp) h8).1) (fold_none h2 _)
  rw [ownP_snd] at key
  exact key
theorem chkP_tup {p : Pt} {tg : Expr} (h : chkP K p tg = true) : notStar tg = true ∧ (asList tg).isSome = false := by
  unfold chkP at h
  cases p with
  | n i =>
    cases q : asName tg with
    | none => simp only [q] at h; cases h
    | some r => rw [asName_eq q]; exact ⟨rfl, rfl⟩
  | t ps =>
    cases q : asTuple tg with
    | none => simp only [q] at h; cases h
    | some r => rw [asTuple_eq q]; exact ⟨rfl, rfl⟩
theorem sAsg (g : Good K C cA X Wx) {p : Pt} {e : Ex} {tg v : Expr} {pos : Pos} (hp : chkP K p tg = true) (h : chkAsg K p e tg v = true) : PS X (.Assign [tg] v pos) (TS' C F cA X Wx (.asg p e)) := by
  obtain ⟨ns, nl⟩ := chkP_tup hp
  unfold chkAsg at h
  by_cases hpl : plainAsg K tg v = true
  · rw [if_pos hpl] at h
    unfold plainAsg at hpl
    simp only [Bool.and_eq_true] at hpl
    obtain ⟨h1, h2⟩ := hpl
    refine pS_asg (sX e g h).1 (chkP_ok g hp) ?_ ?_ (asg_each ns _)
    · show swapsWith v (some tg) pos.line X.env = pure false
      cases q : asName tg with
      | some r =>
        obtain ⟨y, py⟩ := r
        rw [q] at h1
        dsimp only at h1
        rw [asName_eq q]
        cases q2 : asLc v with
        | none => rw [q2] at h1; exact swaps_none h1 _ _ _
        | some r2 =>
          obtain ⟨elt, tg2, iter, ifs, sc, ps⟩ := r2
          rw [q2] at h1
          rw [asLc_eq q2]
          exact swapLc_val g.scope g.kind (by simpa using h1)
      | none =>
        rw [q] at h1
        obtain ⟨r, hr⟩ := Option.isSome_iff_exists.mp h1
        rw [asTuple_eq hr]
        cases v <;> rfl
    · cases q : asTuple tg with
      | none => exact sw_other (by rw [q]) nl
      | some r =>
        cases q2 : asTuple v with
        | none => exact sw_other (by rw [q, q2]) nl
        | some r2 =>
          rw [q, q2] at h2
          rw [asTuple_eq q, asTuple_eq q2]
          exact swap1_ok g.scope (by simpa using h2)
  · rw [if_neg hpl] at h
    cases q : asLc v with
    | some r =>
      rw [q] at h
      dsimp only at h
      unfold lcAsg at h
      split at h
      · rename_i i x q' it c own y py e1 e2 e3 e4 sc ps z1 z2
        simp only [Bool.and_eq_true] at h
        rw [asName_eq z1]
        have := asLc_eq z2
        subst this
        exact sLcAsg g h.1.1 h.1.2 h.2
      · cases h
    | none =>
      rw [q] at h
      dsimp only at h
      unfold parAsg at h
      split at h
      · rename_i i j es ts k1 p1 vs k2 p2 z1 z2
        simp only [Bool.and_eq_true, beq_iff_eq, Bool.not_eq_true', beq_eq_false_iff_ne] at h
        obtain ⟨⟨⟨h1, h2⟩, h3⟩, h4⟩ := h
        obtain ⟨x, px, y, py, a, b, rfl, rfl, l1, l2, sw⟩ := swap2_ok (env := X.env) (kt := k1) (k2 := k2) (pt := p1) (pt2 := p2) g.scope g.kind h1
        have e1 := asTuple_eq z1
        have e2 := asTuple_eq z2
        subst e1 e2
        simp only [chkP, asTuple, chkNs, asName, Bool.and_eq_true] at hp
        exact pS_par2 g.calm g.nd (g.at_ hp.1.1) (g.at_ hp.2.1.1) h2 (by rw [g.scope]; exact isLocal_eq l1) (by rw [g.scope]; exact isLocal_eq l2) (sXs es g h3 h4) sw
      · rename_i i j l es ts k1 p1 vs k2 p2 z1 z2
        simp only [Bool.and_eq_true, beq_iff_eq, Bool.not_eq_true', beq_eq_false_iff_ne] at h
        obtain ⟨⟨⟨⟨⟨h1, h2⟩, h3⟩, h4⟩, h5⟩, h6⟩ := h
        obtain ⟨x, px, y, py, z, pz, a, b, c, rfl, rfl, l1, l2, l3, sw⟩ := swap3_ok (env := X.env) (kt := k1) (k2 := k2) (pt := p1) (pt2 := p2) g.scope g.kind h1
        have e1 := asTuple_eq z1
        have e2 := asTuple_eq z2
        subst e1 e2
        simp only [chkP, asTuple, chkNs, asName, Bool.and_eq_true] at hp
        exact pS_par3 g.calm g.nd (g.at_ hp.1.1) (g.at_ hp.2.1.1) (g.at_ hp.2.2.1.1) h2 h3 h4 (by rw [g.scope]; exact isLocal_eq l1) (by rw [g.scope]; exact isLocal_eq l2) (by rw [g.scope]; exact isLocal_eq l3) (sXs es g h5 h6) sw
      · cases h
mutual
theorem sS (g : Good K C cA X Wx) (hpo : PassesOwn (model X.prog X.w) X.A X.env X.xe) : ∀ (x : St) {s : Stmt}, chkS K x s = true → PS X s (TS' C F cA X Wx x)
  | .asg p e, s, h => by
    simp only [chkS] at h
    cases q : asAsg s with
    | none => rw [q] at h; cases h
    | some r =>
      obtain ⟨tg, v, pos⟩ := r
      rw [q] at h
      simp only [Bool.and_eq_true] at h
      rw [asAsg_eq q]
      exact sAsg g h.1 h.2
  | .aug op i e, s, h => by
    simp only [chkS] at h
    cases q : asAug s with
    | none => rw [q] at h; cases h
    | some r =>
      obtain ⟨x, p, op', v, pos⟩ := r
      rw [q] at h
      simp only [Bool.and_eq_true, decide_eq_true_eq] at h
      obtain ⟨⟨⟨h1, h2⟩, rfl⟩, h3⟩ := h
      rw [asAug_eq q]
      exact pS_aug g.nd (g.at_ h1) (g.st h2).1 (g.st h2).2 (sX e g h3).1
  | .sst o i e, s, h => by
    simp only [chkS] at h
    cases q : asAsg s with
    | none => rw [q] at h; cases h
    | some r =>
      obtain ⟨tg, v, pos⟩ := r
      rw [q] at h
      dsimp only at h
      cases q2 : asSub tg with
      | none => rw [q2] at h; cases h
      | some r2 =>
        obtain ⟨a, b, p2⟩ := r2
        rw [q2] at h
        simp only [Bool.and_eq_true] at h
        obtain ⟨⟨⟨⟨h1, h2⟩, h3⟩, h4⟩, h5⟩ := h
        rw [asAsg_eq q]
        have := asSub_eq q2
        subst this
        exact pS_sst (u100 g) (sX e g h5).1 (sX o g h3).1 (sX i g h4).1 (fun v => by cases b <;> first | rfl | cases h1) (show swapsWith v (some (.Subscript a b p2)) pos.line X.env = pure false from swaps_none h2 _ _ _) (by cases v <;> rfl) rfl
  | .ex e, s, h => by
    simp only [chkS] at h
    cases q : asExS s with
    | none => rw [q] at h; cases h
    | some r =>
      obtain ⟨v, pos⟩ := r
      rw [q] at h
      simp only [Bool.and_eq_true] at h
      rw [asExS_eq q]
      exact pS_ex (sX e g h.2).1 (swaps_none h.1 _ _ _)
  | .ife c a b, s, h => by
    simp only [chkS] at h
    cases q : asIfS s with
    | none => rw [q] at h; cases h
    | some r =>
      obtain ⟨t, x, y, pos⟩ := r
      rw [q] at h
      simp only [Bool.and_eq_true] at h
      rw [asIfS_eq q]
      exact pS_ife (sX c g h.1.1).2 (sSs g hpo a h.1.2) (sSs g hpo b h.2)
  | .for p it b, s, h => by
    simp only [chkS] at h
    cases q : asFor s with
    | none => rw [q] at h; cases h
    | some r =>
      obtain ⟨tg, i, x, pos⟩ := r
      rw [q] at h
      simp only [Bool.and_eq_true] at h
      obtain ⟨⟨⟨⟨h1, h2⟩, h3⟩, h4⟩, h5⟩ := h
      rw [asFor_eq q]
      exact pS_for hpo g.calm (sWk it g h2 h4) (chkP_ok g h1) (sSs g hpo b h5) (fold_none h3 _)
  | .wh c b, s, h => by
    simp only [chkS] at h
    cases q : asWh s with
    | none => rw [q] at h; cases h
    | some r =>
      obtain ⟨t, x, pos⟩ := r
      rw [q] at h
      simp only [Bool.and_eq_true] at h
      rw [asWh_eq q]
      exact pS_wh hpo (sX c g h.1).2 (sSs g hpo b h.2)
  | .ret e, s, h => by
    simp only [chkS] at h
    split at h
    · rename_i v pos q
      rw [asRet_eq q]
      exact pS_ret (sX e g h).1
    · cases h
  | .retn, s, h => by
    simp only [chkS] at h
    split at h
    · rename_i pos q
      rw [asRet_eq q]
      exact pS_retn
    · cases h
  | .brk, s, h => by
    simp only [chkS] at h
    obtain ⟨r, hr⟩ := Option.isSome_iff_exists.mp h
    rw [asBrk_eq hr]
    exact pS_brk
  | .cnt, s, h => by
    simp only [chkS] at h
    obtain ⟨r, hr⟩ := Option.isSome_iff_exists.mp h
    rw [asCnt_eq hr]
    exact pS_cnt
  | .pas, s, h => by
    simp only [chkS] at h
    obtain ⟨r, hr⟩ := Option.isSome_iff_exists.mp h
    rw [asPas_eq hr]
    exact pS_pas
  | .saug _ _ _ _, s, h => by simp only [chkS] at h; cases h
theorem sSs (g : Good K C cA X Wx) (hpo : PassesOwn (model X.prog X.w) X.A X.env X.xe) : ∀ (x : Ss) {s : List Stmt}, chkSs K x s = true → PSs X s (TSs C F cA X Wx x)
  | .nil, [], h => pSs_nil
  | .nil, _ :: _, h => by simp only [chkSs] at h; cases h
  | .cons _ _, [], h => by simp only [chkSs] at h; cases h
  | .cons x r, s :: ss, h => by
    simp only [chkSs, Bool.and_eq_true] at h
    exact pSs_cons (sS g hpo x h.1) (sSs g hpo r h.2)
end
end
end Ev

/-! EvO: defs: a checked text keeps its promises. -/
namespace Ev
open PySem PySem.Spec PyProof.Rows L2 PySem.W

/-! ### things locked at a def's end -/
inductive Lk (Q : Hp → Prop) : Hp → Prop where
  | now {H : Hp} (h : Q H) : Lk Q H
  | lock {H : Hp} (a : Addr) (xs : List V) (h : H a = some (.lst xs)) (n : ∀ o, Lk Q (upd H a (.frz o (.lst xs)))) : Lk Q H
theorem Lk.run {X : Cx} {pins : List (Addr × Obj)} {σ : L2.St} {s : Shared} {Q : Hp → Prop} {H : Hp} (l : Lk Q H) : Inv X pins σ H s → ∃ H', Inv X pins σ H' s ∧ Q H' := by
  induction l with
  | now h => exact fun I => ⟨_, I, h⟩
  | lock a xs h _ ih =>
    intro I
    obtain ⟨o, I'⟩ := I.lock (d := a) (u := .lst xs) h trivial
    exact ih o I'
theorem pss_lk {X : Cx} {st : List Stmt} {t : TS} (h : PSs X st t) : PSs X st (fun D σ H => t { D with rt := fun v H' => Lk (D.rt v) H' } σ H) := by
  refine ⟨fun pins s σ H D I q => thn (h.run pins s σ H _ I q) fun f s1 z => ?_⟩
  cases f with
  | next => exact z
  | brk => exact z
  | cont => exact z
  | ret u =>
    obtain ⟨v, σ', H', I', r, l⟩ := z
    obtain ⟨H2, I2, q⟩ := l.run I'
    exact ⟨v, σ', H2, I2, r, q⟩
theorem lk_all {Q : Hp → Prop} : ∀ (ν : List Addr) (H : Hp), ν.Nodup → (∀ H'', (∀ b, (b ∉ ν ∨ ∀ xs, H b ≠ some (.lst xs)) → H'' b = H b) → (∀ a ∈ ν, ∀ xs, H a = some (.lst xs) → ∃ o, H'' a = some (.frz o (.lst xs))) → Q H'') → Lk Q H
  | [], H, _, q => .now (q H (fun _ _ => rfl) fun a ha => absurd ha (by simp))
  | a :: ν, H, nd, q => by
    have nd' := List.nodup_cons.mp nd
    by_cases hl : ∃ xs, H a = some (.lst xs)
    · obtain ⟨xs, h⟩ := hl
      refine .lock a xs h fun o => lk_all ν _ nd'.2 (fun H'' h1 h2 => q H'' (fun b hb => ?_) fun b hb ys hy => ?_)
      · have nb : b ≠ a := fun z => by
          subst z
          rcases hb with hb | hb
          · exact hb List.mem_cons_self
          · exact hb xs h
        rw [h1 b ?_, upd_ne nb]
        rcases hb with hb | hb
        · exact .inl fun z => hb (List.mem_cons_of_mem _ z)
        · exact .inr fun ys hy => hb ys (by rw [upd_ne nb] at hy; exact hy)
      · rcases List.mem_cons.mp hb with rfl | hb
        · have e : (upd H b (.frz o (.lst xs))) b = some (.frz o (.lst xs)) := upd_same
          rw [h1 b (.inl nd'.1), e]
          rw [h] at hy; cases hy
          exact ⟨o, rfl⟩
        · have nb : b ≠ a := fun z => nd'.1 (z ▸ hb)
          exact h2 b hb ys (by rw [upd_ne nb]; exact hy)
    · refine lk_all ν H nd'.2 (fun H'' h1 h2 => q H'' (fun b hb => ?_) fun b hb ys hy => ?_)
      · by_cases e : b = a
        · subst e
          exact h1 b (.inl nd'.1)
        · refine h1 b ?_
          rcases hb with hb | hb
          · exact .inl fun z => hb (List.mem_cons_of_mem _ z)
          · exact .inr hb
      · rcases List.mem_cons.mp hb with rfl | hb
        · exact absurd ⟨ys, hy⟩ hl
        · exact h2 b hb ys hy

/-! ### what is handed back -/
section
variable {K : KW} {cA : Nat → Addr} {H H' : Hp} {μ ν : List Addr} {st' : Store}
theorem dc_notlst {t : Bool} {kvs : List (D × D)} {a : Addr} {xs : List V} (q : DcR K H t kvs a) (h : H a = some (.lst xs)) : False := by
  cases t with
  | true => obtain ⟨_, h1, _⟩ := (show NdC K H kvs a from q); rw [h] at h1; cases h1
  | false => obtain ⟨_, h1, _⟩ := (show ScC K H kvs a from q); rw [h] at h1; cases h1
theorem ext_lk (r : StR K H' st' (μ ++ ν)) {H'' : Hp} (h1 : ∀ b, (b ∉ ν ∨ ∀ xs, H' b ≠ some (.lst xs)) → H'' b = H' b) : Ext ν H' H'' := fun b o hb hc => by
  by_cases hν : b ∈ ν
  · rcases hc with hc | hc
    · exact absurd hν hc
    · obtain ⟨o', e', ic⟩ := r.isCell (List.mem_append_right _ hν)
      rw [hb] at e'; cases e'
      exact absurd ic hc
  · rw [h1 b (.inl hν)]; exact hb
theorem fin1_ok (s : Stp H μ H' (μ ++ ν)) (r : StR K H' st' (μ ++ ν)) {H'' : Hp} (h1 : ∀ b, (b ∉ ν ∨ ∀ xs, H' b ≠ some (.lst xs)) → H'' b = H' b) (h2 : ∀ a ∈ ν, ∀ xs, H' a = some (.lst xs) → ∃ o, H'' a = some (.frz o (.lst xs))) {w w' : W} {v : V} (hw : RW K H' (μ ++ ν) w v) (e : fin1 μ.length st' w = some w') : RW K H'' μ w' v := by
  have ex : Ext ν H' H'' := ext_lk r h1
  cases w with
  | dat d => cases e; exact Rp.ext ex _ _ hw
  | fdi t kvs =>
    cases e
    obtain ⟨a, hv, na, hd⟩ := hw
    exact ⟨a, hv, fun z => na (List.mem_append_left _ z), hd.of ex fun o e => by rw [h1 a (.inl fun z => na (List.mem_append_right _ z))]; exact e⟩
  | tup _ => cases e
  | scr _ => cases e
  | ref m =>
    obtain ⟨a, ha, rfl⟩ := hw
    simp only [fin1] at e
    by_cases hm : m < μ.length
    · rw [if_pos hm] at e; cases e
      exact ⟨a, by rw [List.getElem?_append_left hm] at ha; exact ha, rfl⟩
    · rw [if_neg hm] at e
      obtain ⟨c, ec, q⟩ := r.cell ha
      rw [ec] at e
      have hν : a ∈ ν := by
        rw [List.getElem?_append_right (by omega)] at ha
        exact List.mem_of_getElem? ha
      cases c with
      | dic t kvs =>
        cases e
        have na : a ∉ μ := fun z => by
          have := r.nd
          rw [List.nodup_append] at this
          exact this.2.2 a z a hν rfl
        refine ⟨a, rfl, na, DcR.of ex (fun o e => ?_) q⟩
        rw [h1 a (.inr fun xs hx => ?_)]
        · exact e
        · exact dc_notlst q hx
      | lst ds =>
        cases e
        obtain ⟨xs, hx, hr⟩ := q
        obtain ⟨o, ho⟩ := h2 a hν xs hx
        exact ⟨a, o, xs, rfl, ho, Rps.ext ex _ _ hr⟩
theorem finL_ok (s : Stp H μ H' (μ ++ ν)) (r : StR K H' st' (μ ++ ν)) {H'' : Hp} (h1 : ∀ b, (b ∉ ν ∨ ∀ xs, H' b ≠ some (.lst xs)) → H'' b = H' b) (h2 : ∀ a ∈ ν, ∀ xs, H' a = some (.lst xs) → ∃ o, H'' a = some (.frz o (.lst xs))) : ∀ {ws ws' : List W} {xs : List V}, RWs K H' (μ ++ ν) ws xs → finL μ.length st' ws = some ws' → RWs K H'' μ ws' xs
  | [], _, _, hw, e => by cases e; exact hw
  | w :: ws, _, _, hw, e => by
    obtain ⟨x, xr, rfl, hx, hr⟩ := hw
    simp only [finL, Option.bind_eq_some_iff, Option.map_eq_some_iff] at e
    obtain ⟨w1, e1, ws1, e2, rfl⟩ := e
    exact ⟨x, xr, rfl, fin1_ok s r h1 h2 hx e1, finL_ok s r h1 h2 hr e2⟩
theorem Stp.back (s : Stp H μ H' (μ ++ ν)) : Stp H μ H' μ := ⟨s.ext, ⟨[], by simp, by simp⟩, s.there⟩
theorem new_none (s : Stp H μ H' (μ ++ ν)) : ∀ b ∈ ν, H b = none := by
  obtain ⟨ξ, e, h⟩ := s.more
  rw [List.append_cancel_left e]
  exact h
/-- a body's value, behind the def -/
theorem out_ok {mk : Bool} {w : W} {v : V} {Q : VK} {Wx : Value → Option Addr → Hp → Prop} {st : Store} (hst : μ.length = st.length) (s : Stp H μ H' (μ ++ ν)) (r : StR K H' st' (μ ++ ν)) (hw : RW K H' (μ ++ ν) w v)
    (h : Aft K cA Wx H μ (leave mk st.length (.ok (.ret w) st')) fun w _ H' μ' => ∀ v, RW K H' μ' w v → Q v H') : Lk (Q v) H' := by
  have nn := new_none s
  unfold leave at h
  cases e : outW mk st.length st' w with
  | none => simp only [e] at h; exact h.elim
  | some p =>
    obtain ⟨w', st2⟩ := p
    simp only [e] at h
    unfold outW at e
    cases mk with
    | true =>
      simp only [if_true] at e
      cases w with
      | ref m =>
        dsimp only at e
        by_cases hm : st.length ≤ m
        · rw [if_pos hm] at e
          obtain ⟨a, ha, rfl⟩ := hw
          obtain ⟨c, ec, q⟩ := r.cell ha
          rw [ec] at e
          cases e
          have hν : a ∈ ν := by
            rw [List.getElem?_append_right (by omega)] at ha
            exact List.mem_of_getElem? ha
          have na : a ∉ μ := fun z => by
            have := r.nd
            rw [List.nodup_append] at this
            exact this.2.2 a z a hν rfl
          have r' : StR K H' (st'.take μ.length) μ := r.take
          rw [hst] at r'
          have lt : (st'.take st.length).length = st.length := by rw [← r'.len]; exact hst
          refine .now (h H' (μ ++ [a]) ⟨s.ext, ⟨[a], rfl, fun b hb => by simp at hb; subst hb; exact nn _ hν⟩, s.there⟩ ⟨by simp [lt, hst], List.nodup_append.mpr ⟨(List.nodup_append.mp r.nd).1, by simp, fun x hx y hy z => by simp at hy; subst hy; subst z; exact na hx⟩, fun j c' hj => ?_⟩ _ ⟨a, ?_, rfl⟩)
          · by_cases hl : j < st.length
            · rw [List.getElem?_append_left (by rw [lt]; exact hl)] at hj
              obtain ⟨b, e1, q1⟩ := r'.at_ j c' hj
              exact ⟨b, by rw [List.getElem?_append_left (by rw [hst]; exact hl)]; exact e1, q1⟩
            · rw [List.getElem?_append_right (by rw [lt]; omega)] at hj
              have ej : j - (st'.take st.length).length = 0 := by
                have := (List.getElem?_eq_some_iff.mp hj).1
                simp at this
                rw [lt]; rw [List.length_take] at lt; omega
              rw [ej] at hj
              cases hj
              have ej2 : j = μ.length := by rw [lt] at ej; omega
              subst ej2
              exact ⟨a, by simp, q⟩
          · rw [List.getElem?_append_right (by rw [hst]; exact Nat.le_refl _)]
            simp [hst]
        · rw [if_neg hm] at e; cases e
      | _ => cases e
    | false =>
      simp only [Bool.false_eq_true, if_false, Option.map_eq_some_iff] at e
      obtain ⟨w2, e2, e3⟩ := e
      cases e3
      rw [← hst] at e2 h
      refine lk_all ν H' (List.nodup_append.mp r.nd).2.1 (fun H'' h1 h2 => ?_)
      · have s2 : Stp H μ H'' μ := by
          refine ⟨fun b o hb hc => ?_, ⟨[], by simp, by simp⟩, fun b hb => ?_⟩
          · have : b ∉ ν := fun z => by rw [nn b z] at hb; cases hb
            rw [h1 b (.inl this)]; exact s.ext b o hb hc
          · by_cases hν : b ∈ ν
            · exact nn b hν
            · rw [h1 b (.inl hν)] at hb; exact s.there b hb
        have r2 : StR K H'' (st'.take μ.length) μ := by
          have r' : StR K H' (st'.take μ.length) μ := r.take
          refine ⟨r'.len, r'.nd, fun j c hj => ?_⟩
          obtain ⟨a, e1, q⟩ := r'.at_ j c hj
          refine ⟨a, e1, ?_⟩
          have na : a ∉ ν := fun z => by
            have := r.nd
            rw [List.nodup_append] at this
            exact this.2.2 a (List.mem_of_getElem? e1) a z rfl
          exact q.of (ext_lk r h1) fun o e => by rw [h1 a (.inl na)]; exact e
        refine h H'' μ s2 r2 v ?_
        cases w with
        | tup ws =>
          simp only [fin, Option.map_eq_some_iff] at e2
          obtain ⟨ws', e3, rfl⟩ := e2
          obtain ⟨a, xs, rfl, ht, hr⟩ := hw
          refine ⟨a, xs, rfl, ?_, finL_ok s r h1 h2 hr e3⟩
          have ex : Ext ν H' H'' := ext_lk r h1
          exact SqT.ext ex ht
        | dat d => exact fin1_ok s r h1 h2 hw e2
        | ref m => exact fin1_ok s r h1 h2 hw e2
        | fdi _ _ => exact fin1_ok s r h1 h2 hw e2
        | scr _ => cases e2
theorem start_env {N : List Str} {ws : List W} {vs : List V} (h : RWs K H μ ws vs) : EnvR K H μ (startE N.length ws) (L2.start N vs) := by
  have hl := h.length
  refine ⟨by unfold startE L2.start; simp [hl], fun i w hi => ?_⟩
  unfold startE at hi
  by_cases hlt : i < ws.length
  · rw [List.getElem?_append_left (by simpa using hlt), List.getElem?_map] at hi
    cases q : ws[i]? with
    | none => rw [q] at hi; cases hi
    | some w' =>
      rw [q] at hi
      cases hi
      obtain ⟨x, e, hx⟩ := h.get' q
      refine ⟨x, ?_, hx⟩
      unfold L2.start
      rw [List.getElem?_append_left (by rw [List.length_map, hl]; exact hlt), List.getElem?_map, e]; rfl
  · rw [List.getElem?_append_right (by simpa using hlt), List.getElem?_replicate] at hi
    split at hi <;> cases hi
end

/-! ### the text's defs -/
structure DefC where
  name : Str
  ps : List Str
  N : List Str
  mkr : Bool
  body : Ss
  sc : Scope
  stmts : List Stmt
def DefC.fd (d : DefC) : FD := ⟨d.ps.length, d.N.length, d.mkr, d.body⟩
def fds (T : Nat → Option DefC) (f : Nat) : Option FD := (T f).map DefC.fd
def scopeB (N ps : List Str) (sc : Scope) : Bool :=
  (match sc.kind with
    | .function => true
    | _ => false) && !sc.isCoroutine && !sc.isGenerator && decide N.Nodup && decide (N.take ps.length = ps) &&
  ps.all (fun x => match sc.names.lookup x with
    | some .local => true
    | some .cell => true
    | _ => false) && sc.names.all fun y => match y.2 with
    | .free => false
    | _ => true
theorem scopeB_ok {N ps : List Str} {sc : Scope} (h : scopeB N ps sc = true) : FnScope N ps sc := by
  simp only [scopeB, Bool.and_eq_true, decide_eq_true_eq, Bool.not_eq_true', List.all_eq_true] at h
  obtain ⟨⟨⟨⟨⟨⟨h1, h2⟩, h3⟩, h4⟩, h5⟩, h6⟩, h7⟩ := h
  refine ⟨?_, h2, h3, h4, h5, fun x hx => ?_, fun y hy e => ?_⟩
  · split at h1
    · assumption
    · cases h1
  · have := h6 x hx
    split at this
    · exact .inl (by assumption)
    · exact .inr (by assumption)
    · cases this
  · have := h7 y hy
    rw [e] at this
    cases this
def kxOf (T : Nat → Option DefC) (gc : Str → Option D) (free : Str → Bool) (d : DefC) : Kx := ⟨d.N, fun f => (T f).map DefC.name, gc, free, d.sc, fun _ => true⟩
def chkD (T : Nat → Option DefC) (gc : Str → Option D) (free : Str → Bool) (d : DefC) : Bool := scopeB d.N d.ps d.sc && chkSs (kxOf T gc free d) d.body d.stmts
structure ProgOk (K : KW) (mg : Str → Option Value) (T : Nat → Option DefC) (gc : Str → Option D) (free : Str → Bool) : Prop where
  const : ∀ x d, gc x = some d → ∃ v u, mg x = some u ∧ RelV v u ∧ ∀ H, Rp K H d v
  frees : ∀ x, free x = true → mg x = none
  defs : ∀ f d, T f = some d → ∃ (fa : Addr) (fd : FuncData) (params : Arguments), FunD K d.name d.name params d.stmts d.sc [] [] fa fd ∧ mg d.name = some (.ref fa) ∧ Binds K fd d.ps []
  chk : ∀ f d, T f = some d → chkD T gc free d = true
theorem prog_ok {P : Program} {w : World} {K : PySem.W.Frag} {mg : Str → Option Value} {base : Heap} {T : Nat → Option DefC} {gc : Str → Option D} {free : Str → Bool} {cA : Nat → Addr} {F : Nat} (O : ProgOk ⟨K, w⟩ mg T gc free) :
    ∀ (k f : Nat) (d : DefC), T f = some d → ∃ (fa : Addr) (fd : FuncData), mg d.name = some (.ref fa) ∧ PySem.W.keepIn K (.ref fa) = true ∧ Binds K fd d.ps [] ∧ (∃ params, FunD K d.name d.name params d.stmts d.sc [] [] fa fd) ∧ FnOk P w K mg base (L2.CX P w) k fa fd d.ps (spF ⟨K, w⟩ cA (callF (fds T) F k f) d.ps.length)
  | 0, f, d, hd => by
    obtain ⟨fa, fd, params, Fd, hm, hb⟩ := O.defs f d hd
    refine ⟨fa, fd, hm, Fd.kp, hb, ⟨params, Fd⟩, fun vs H Q E h => h.1, fun A outer s H args us vs Q E hr e0 hb r h => ?_⟩
    obtain ⟨_, ws, st, μ, _, _, z⟩ := h
    exact z.elim
  | k + 1, f, d, hd => by
    obtain ⟨fa, fd, params, Fd, hm, hb⟩ := O.defs f d hd
    have hc := O.chk f d hd
    simp only [chkD, Bool.and_eq_true] at hc
    have S := scopeB_ok hc.1
    refine ⟨fa, fd, hm, Fd.kp, hb, ⟨params, Fd⟩, Fd.ok S (fun vs H Q E h => h.1) fun cdv A outer s H vs Q E hr h => ?_⟩
    obtain ⟨hl, ws, st, μ, hws, sr, ha⟩ := h
    have g : Good (kxOf T gc free d) (callF (fds T) F k) cA (cxOf (L2.CX P w) P w K mg base d.N d.name d.sc fa cdv A outer s H E) E := {
      names := rfl
      nd := S.nd
      scope := rfl
      kind := S.kind
      fn := fun _ _ => rfl
      calm := rfl
      room := by
        have := hr.un
        show (A.deeper _).units + 200 < cLine
        omega
      const := O.const
      free := O.frees
      call := fun f' x hx => by
        have hx : (T f').map DefC.name = some x := hx
        rw [Option.map_eq_some_iff] at hx
        obtain ⟨d', hd', rfl⟩ := hx
        obtain ⟨fa', fd', hm', hk', hb', _, F'⟩ := prog_ok O k f' d' hd'
        refine ⟨k, fa', fd', d'.ps, F', hr, hm', hk', hb', ?_, fun ws st hn => ?_⟩
        · exact passes_call (takes_of rfl rfl rfl rfl) (fun _ _ _ _ z => z)
        · cases k with
          | zero => rfl
          | succ j =>
            show (match fds T f' with
              | none => Res.stuck
              | some fd => if ws.length = fd.np then leave fd.mkr st.length (evSs (callF (fds T) F j) F fd.body (startE fd.ns ws) st) else .stuck) = .stuck
            have : fds T f' = some d'.fd := by unfold fds; rw [hd']; rfl
            rw [this]
            exact if_neg hn }
    have hpo : PassesOwn (model P w) (cxOf (L2.CX P w) P w K mg base d.N d.name d.sc fa cdv A outer s H E).A (cxOf (L2.CX P w) P w K mg base d.N d.name d.sc fa cdv A outer s H E).env (cxOf (L2.CX P w) P w K mg base d.N d.name d.sc fa cdv A outer s H E).xe := passes_of (X := cxOf (L2.CX P w) P w K mg base d.N d.name d.sc fa cdv A outer s H E) rfl
    refine ⟨_, pss_lk (sSs (F := F) g hpo d.body hc.2), startE d.N.length ws, st, μ, start_env hws, sr, ?_⟩
    have e1 : callF (fds T) F (k + 1) f ws st = leave d.mkr st.length (evSs (callF (fds T) F k) F d.body (startE d.N.length ws) st) := by
      show (match fds T f with
        | none => Res.stuck
        | some fd => if ws.length = fd.np then leave fd.mkr st.length (evSs (callF (fds T) F k) F fd.body (startE fd.ns ws) st) else .stuck) = _
      have : fds T f = some d.fd := by unfold fds; rw [hd]; rfl
      rw [this]
      exact if_pos (by rw [← hws.length]; exact hl)
    rw [e1] at ha
    have hst := sr.len
    cases q : evSs (callF (fds T) F k) F d.body (startE d.N.length ws) st with
    | ok fl st' =>
      rw [q] at ha
      intro H' μ' s' r'
      obtain ⟨ν, rfl, _⟩ := s'.more
      cases fl with
      | nx ρ' =>
        intro σ' _
        have r2 : StR ⟨K, w⟩ H' (st'.take μ.length) μ := r'.take
        rw [hst] at r2
        exact ha H' μ s'.back r2 .non rfl
      | ret w => exact fun v hv => out_ok hst s' r' hv ha
      | brk _ => exact ha.elim
      | ct _ => exact ha.elim
    | exn x st' =>
      rw [q] at ha
      intro c dd H' μ' s' r' hx
      obtain ⟨ν, rfl, _⟩ := s'.more
      have r2 : StR ⟨K, w⟩ H' (st'.take μ.length) μ := r'.take
      rw [hst] at r2
      exact ha c dd H' μ s'.back r2 hx
    | stuck => rw [q] at ha; exact ha.elim
end Ev

/-! EvU: more cells put into the store at a place, more levels, more fuel: the same run. -/
namespace Ev
open PySem
section
variable (p : Nat) (I : Store)
def shN (m : Nat) : Nat := if m < p then m else m + I.length
mutual
def shW : W → W
  | .ref m => .ref (shN p I m)
  | .tup ws => .tup (shWs ws)
  | .dat d => .dat d
  | .fdi t kvs => .fdi t kvs
  | .scr ns => .scr ns
def shWs : List W → List W
  | [] => []
  | w :: ws => shW w :: shWs ws
end
def shE (ρ : Env) : Env := ρ.map (Option.map (shW p I))
def ins (st : Store) : Store := st.take p ++ (I ++ st.drop p)
def shF : Fl → Fl
  | .nx ρ => .nx (shE p I ρ)
  | .ret w => .ret (shW p I w)
  | .brk ρ => .brk (shE p I ρ)
  | .ct ρ => .ct (shE p I ρ)
def SmR {α : Type} (sh : α → α) (r r' : Res α) : Prop := match r with
  | .ok a st1 => p ≤ st1.length ∧ r' = .ok (sh a) (ins p I st1)
  | .exn x st1 => p ≤ st1.length ∧ r' = .exn x (ins p I st1)
  | .stuck => True
def Sm {α : Type} (sh : α → α) (m m' : M α) : Prop := ∀ st : Store, p ≤ st.length → SmR p I sh (m st) (m' (ins p I st))
end
section
variable {p : Nat} {I : Store}
theorem shWs_map (ws : List W) : shWs p I ws = ws.map (shW p I) := by
  induction ws with
  | nil => rfl
  | cons w ws ih => simp [shWs, ih]
theorem ins_len {st : Store} : (ins p I st).length = st.length + I.length := by
  simp [ins]; omega
theorem shN_len {st : Store} (h : p ≤ st.length) : shN p I st.length = st.length + I.length := by
  unfold shN; rw [if_neg (by omega)]
theorem ins_get {st : Store} (h : p ≤ st.length) (n : Nat) : (ins p I st)[shN p I n]? = st[n]? := by
  unfold ins shN
  by_cases hn : n < p
  · rw [if_pos hn, List.getElem?_append_left (by simp; omega), List.getElem?_take_of_lt hn]
  · rw [if_neg hn, List.getElem?_append_right (by simp; omega), List.getElem?_append_right (by simp; omega), List.getElem?_drop]
    congr 1
    simp
    omega
theorem ins_set {st : Store} (h : p ≤ st.length) (n : Nat) (c : Cell) : (ins p I st).set (shN p I n) c = ins p I (st.set n c) := by
  unfold ins shN
  by_cases hn : n < p
  · rw [if_pos hn, List.set_append_left _ _ (by simp; omega), List.take_set, List.drop_set_of_lt hn]
  · rw [if_neg hn, List.set_append_right _ _ (by simp; omega), List.set_append_right _ _ (by simp; omega), List.drop_set, if_neg hn, List.take_set, List.set_eq_of_length_le (l := st.take p) (by simp; omega)]
    congr 3
    simp
    omega
theorem ins_push {st : Store} (h : p ≤ st.length) (c : Cell) : ins p I (st ++ [c]) = ins p I st ++ [c] := by
  unfold ins
  rw [List.take_append_of_le_length h, List.drop_append_of_le_length h]
  simp
theorem ins_take {st : Store} {n : Nat} (h : p ≤ n) : (ins p I st).take (n + I.length) = ins p I (st.take n) := by
  unfold ins
  rw [List.take_append, List.take_append, List.take_take, List.take_take, Nat.min_eq_left h, List.drop_take]
  rw [Nat.min_eq_right (by omega)]
  by_cases hs : p ≤ st.length
  · simp only [List.length_take, Nat.min_eq_left hs]
    rw [List.take_of_length_le (l := I) (by omega)]
    congr 3
    omega
  · have : st.drop p = [] := List.drop_eq_nil_of_le (by omega)
    rw [this]
    simp only [List.length_take, List.take_nil]
    rw [List.take_of_length_le (l := I) (by omega)]
theorem vw_sh {st : Store} (h : p ≤ st.length) (w : W) : vw (shW p I w) (ins p I st) = shW p I (vw w st) := by
  cases w with
  | ref m =>
    simp only [shW, vw]
    rw [ins_get h]
    cases q : st[m]? with
    | none => simp [shW]
    | some c => cases c <;> simp [shW]
  | _ => simp [vw, shW]
theorem dat_sh (w : W) : dat? (shW p I w) = dat? w := by cases w <;> rfl
theorem dats_sh (ws : List W) : dats? (shWs p I ws) = dats? ws := by
  induction ws with
  | nil => rfl
  | cons w ws ih => cases w <;> simp [shWs, shW, dats?, ih]
theorem mkTup_sh (ws : List W) : mkTup (shWs p I ws) = shW p I (mkTup ws) := by
  unfold mkTup
  rw [dats_sh]
  cases dats? ws <;> rfl
theorem truth_sh (w : W) : truth (shW p I w) = truth w := by
  cases w <;> rfl
theorem cmpW_sh (op : CmpOp) (x y : W) : cmpW op (shW p I x) (shW p I y) = cmpW op x y := by
  have inD_sh : ∀ d, inD d (shW p I y) = inD d y := fun d => by cases y <;> rfl
  unfold cmpW
  simp only [dat_sh, inD_sh]
theorem shWs_get (ws : List W) (j : Nat) : (shWs p I ws)[j]? = (ws[j]?).map (shW p I) := by rw [shWs_map]; simp
theorem shWs_len (ws : List W) : (shWs p I ws).length = ws.length := by rw [shWs_map]; simp
theorem ixW_sh {x y w : W} (h : ixW x y = some w) : ixW (shW p I x) (shW p I y) = some (shW p I w) := by
  unfold ixW at h
  split at h
  · rename_i xs i
    simp only [shW, ixW]
    rw [h]
    simp only [Option.bind_eq_some_iff, Option.map_eq_some_iff] at h
    obtain ⟨j, _, d, _, rfl⟩ := h
    rfl
  · rename_i xs i
    simp only [shW, ixW]
    rw [h]
    simp only [Option.bind_eq_some_iff, Option.map_eq_some_iff] at h
    obtain ⟨j, _, d, _, rfl⟩ := h
    rfl
  · rename_i z i
    simp only [shW, ixW]
    rw [h]
    split at h
    · simp only [Option.bind_eq_some_iff, Option.map_eq_some_iff] at h
      obtain ⟨j, _, d, _, rfl⟩ := h
      rfl
    · cases h
  · rename_i t kvs k
    simp only [shW, ixW]
    rw [h]
    split at h
    · simp only [Option.map_eq_some_iff] at h
      obtain ⟨d, _, rfl⟩ := h
      rfl
    · cases h
  · rename_i ws i
    simp only [shW, ixW, shWs_len]
    simp only [Option.bind_eq_some_iff] at h ⊢
    obtain ⟨j, h1, h2⟩ := h
    exact ⟨j, h1, by rw [shWs_get, h2]; rfl⟩
  · cases h
theorem slW_sh {x w : W} {l h : Option Int} (e : slW x l h = some w) : slW (shW p I x) l h = some (shW p I w) := by
  unfold slW at e
  split at e
  · cases e; rfl
  · cases e; rfl
  · simp only [shW, slW]
    split at e
    · cases e
      rename_i z hz
      rw [if_pos hz]
      rfl
    · cases e
  · cases e
theorem rvW_sh {x w : W} (e : rvW x = some w) : rvW (shW p I x) = some (shW p I w) := by
  unfold rvW at e
  split at e
  · cases e; rfl
  · cases e; rfl
  · cases e
theorem biW_sh {b : Bi} {ws : List W} {w : W} (e : biW b ws = some w) : shWs p I ws = ws ∧ shW p I w = w := by
  unfold biW at e
  split at e <;> (try cases e) <;> (try exact ⟨rfl, rfl⟩)
  all_goals first
    | (split at e <;> cases e <;> exact ⟨rfl, rfl⟩)
    | (simp only [Option.map_eq_some_iff] at e; obtain ⟨_, _, rfl⟩ := e; exact ⟨rfl, rfl⟩)
theorem mtW_sh {m : Mt} {o : W} {ws : List W} {w : W} (e : mtW m o ws = some w) : shW p I o = o ∧ shWs p I ws = ws ∧ shW p I w = w := by
  unfold mtW at e
  split at e <;> (try cases e) <;> (try exact ⟨rfl, rfl, rfl⟩)
  all_goals first
    | (split at e <;> cases e <;> exact ⟨rfl, rfl, rfl⟩)
    | (split at e
       · simp only [Option.map_eq_some_iff] at e; obtain ⟨_, _, rfl⟩ := e; exact ⟨rfl, rfl, rfl⟩
       · cases e)
theorem mtC_sh {m : Mt} {c c' : Cell} {ws : List W} {w : W} (e : mtC m c ws = some (w, c')) : shWs p I ws = ws ∧ shW p I w = w := by
  unfold mtC at e
  split at e <;> (try cases e) <;> (try exact ⟨rfl, rfl⟩)
  all_goals first
    | (split at e <;> cases e <;> exact ⟨rfl, rfl⟩)
    | (simp only [Option.map_eq_some_iff] at e; obtain ⟨_, _, h⟩ := e; cases h; exact ⟨rfl, rfl⟩)
    | (simp only [Option.bind_eq_some_iff, Option.map_eq_some_iff] at e; obtain ⟨_, _, _, _, h⟩ := e; cases h; exact ⟨rfl, rfl⟩)
theorem fits_sh (m : Mt) (w : W) : m.fits (shW p I w) = m.fits w := by
  cases w with
  | dat d => rfl
  | _ => cases m <;> rfl
theorem toCell_sh (w : W) : toCell (shW p I w) = toCell w := by cases w <;> rfl
theorem rgW_sh {x y w : W} (e : rgW x y = some w) : rgW (shW p I x) (shW p I y) = some (shW p I w) := by
  unfold rgW at e
  split at e
  · split at e
    · cases e
      rename_i h
      simp only [shW, rgW]
      rw [if_pos h]
    · cases e
  · cases e
theorem map_dat_sh (xs : List D) : shWs p I (xs.map .dat) = xs.map .dat := by
  induction xs with
  | nil => rfl
  | cons x xs ih => simp [shWs, shW, ih]
theorem items_sh {w : W} {ws : List W} (e : items w = some ws) : items (shW p I w) = some ws ∧ shWs p I ws = ws := by
  unfold items at e
  split at e
  · cases e; exact ⟨rfl, map_dat_sh _⟩
  · cases e; exact ⟨rfl, map_dat_sh _⟩
  · cases e
    refine ⟨rfl, ?_⟩
    rw [shWs_map, List.map_map]
    rfl
  · cases e
theorem refOf_sh (w : W) : refOf (shW p I w) = (refOf w).map (shN p I) := by cases w <;> rfl
theorem shE_set (ρ : Env) (i : Nat) (w : W) : (shE p I ρ).set i (some (shW p I w)) = shE p I (ρ.set i (some w)) := by
  unfold shE
  rw [List.map_set]
  rfl
theorem shE_unset (ρ : Env) (i : Nat) : (shE p I ρ).set i none = shE p I (ρ.set i none) := by
  unfold shE
  rw [List.map_set]
  rfl
theorem wipe_sh (ρ : Env) (own : List Nat) : wipeE (shE p I ρ) own = shE p I (wipeE ρ own) := by
  induction own with
  | nil => rfl
  | cons v vs ih =>
    show (wipeE (shE p I ρ) vs).set v none = _
    rw [ih, shE_unset]
    rfl
theorem go_sh : ∀ (is : List Nat) (ws : List W) (ρ : Env), bindP.go is (shWs p I ws) (shE p I ρ) = shE p I (bindP.go is ws ρ)
  | [], ws, ρ => by cases ws <;> rfl
  | i :: is, [], ρ => rfl
  | i :: is, w :: ws, ρ => by
    show bindP.go is (shWs p I ws) ((shE p I ρ).set i (some (shW p I w))) = _
    rw [shE_set]
    exact go_sh is ws _
theorem bindP_tup (ps : List Nat) (ds : List D) (ρ : Env) : bindP (.t ps) (.dat (.tup ds)) ρ = if ds.length = ps.length then some (bindP.go ps (ds.map .dat) ρ) else none := rfl
theorem bindP_lst (ps : List Nat) (ds : List D) (ρ : Env) : bindP (.t ps) (.dat (.lst ds)) ρ = if ds.length = ps.length then some (bindP.go ps (ds.map .dat) ρ) else none := rfl
theorem bindP_wt (ps : List Nat) (ws : List W) (ρ : Env) : bindP (.t ps) (.tup ws) ρ = if ws.length = ps.length then some (bindP.go ps ws ρ) else none := rfl
theorem bindP_sh {q : Pt} {w : W} {ρ ρ' : Env} (e : bindP q w ρ = some ρ') : bindP q (shW p I w) (shE p I ρ) = some (shE p I ρ') := by
  cases q with
  | n i =>
    cases e
    show some _ = some _
    rw [shE_set]
  | t ps =>
    cases w with
    | dat d =>
      cases d with
      | tup ds =>
        rw [bindP_tup] at e
        show bindP (.t ps) (.dat (.tup ds)) _ = _
        rw [bindP_tup]
        split at e
        · rename_i h
          cases e
          rw [if_pos h, ← go_sh, map_dat_sh]
        · cases e
      | lst ds =>
        rw [bindP_lst] at e
        show bindP (.t ps) (.dat (.lst ds)) _ = _
        rw [bindP_lst]
        split at e
        · rename_i h
          cases e
          rw [if_pos h, ← go_sh, map_dat_sh]
        · cases e
      | _ => cases e
    | tup ws =>
      rw [bindP_wt] at e
      show bindP (.t ps) (.tup (shWs p I ws)) _ = _
      rw [bindP_wt, shWs_len]
      split at e
      · rename_i h
        cases e
        rw [if_pos h, ← go_sh]
      · cases e
    | _ => cases e
theorem env_sh {ρ : Env} {i : Nat} {w : W} (e : ρ[i]?.join = some w) : (shE p I ρ)[i]?.join = some (shW p I w) := by
  unfold shE
  rw [List.getElem?_map]
  cases q : ρ[i]? with
  | none => rw [q] at e; cases e
  | some o =>
    rw [q] at e
    have e : o = some w := e
    subst e
    rfl
theorem stays_sh {st st' : Store} (h : p ≤ st.length) (h' : p ≤ st'.length) (n : Option Nat) : stays (n.map (shN p I)) (ins p I st) (ins p I st') = stays n st st' := by
  cases n with
  | none => rfl
  | some n => simp only [Option.map_some, stays, ins_get h, ins_get h']

/-! ### runs -/
theorem Sm.pure {α : Type} {sh : α → α} {a a' : α} (e : sh a = a') : Sm p I sh (pure a) (pure a') := fun st h => ⟨h, by rw [e]; rfl⟩
theorem Sm.stk {α : Type} {sh : α → α} {m : M α} : Sm p I sh stk m := fun st h => trivial
theorem Sm.bind {α β : Type} {sh : α → α} {sh' : β → β} {m m' : M α} {f f' : α → M β} (h : Sm p I sh m m') (k : ∀ a, Sm p I sh' (f a) (f' (sh a))) : Sm p I sh' (m >>= f) (m' >>= f') := by
  intro st hs
  have h1 := h st hs
  rw [bind_eq, bind_eq]
  cases q : m st with
  | ok a st1 =>
    rw [q] at h1
    obtain ⟨h2, h3⟩ := h1
    rw [h3]
    exact k a st1 h2
  | exn x st1 =>
    rw [q] at h1
    obtain ⟨h2, h3⟩ := h1
    rw [h3]
    exact ⟨h2, rfl⟩
  | stuck => trivial
theorem Sm.lift {α : Type} {sh : α → α} {o o' : Option α} (e : ∀ a, o = some a → o' = some (sh a)) : Sm p I sh (lift o) (lift o') := by
  intro st hs
  cases o with
  | none => trivial
  | some a => rw [e a rfl]; exact ⟨hs, rfl⟩
theorem Sm.vwM (w : W) : Sm p I (shW p I) (vwM w) (vwM (shW p I w)) := fun st hs => ⟨hs, by show Res.ok _ _ = _; rw [vw_sh hs]⟩
/-- calls that do the same -/
def SmC (p : Nat) (I : Store) (C C' : Nat → List W → M W) : Prop := ∀ f ws, Sm p I (shW p I) (C f ws) (C' f (shWs p I ws))
theorem Sm.bindr {α β : Type} {sh : α → α} {sh' : β → β} {m m' : M α} {f f' : α → M β} (h : Sm p I sh m m') (k : ∀ a, Sm p I sh' (f a) (f' (sh a))) : Sm p I sh' (f =<< m) (f' =<< m') := Sm.bind h k
theorem Sm.truth {m m' : M W} (h : Sm p I (shW p I) m m') : Sm p I id (Ev.lift ∘ Ev.truth =<< m) (Ev.lift ∘ Ev.truth =<< m') :=
  Sm.bind h fun w => Sm.lift fun b hb => by rw [truth_sh]; exact hb
theorem Sm.dat {m m' : M W} (h : Sm p I (shW p I) m m') : Sm p I id (Ev.lift ∘ Ev.dat? =<< m) (Ev.lift ∘ Ev.dat? =<< m') :=
  Sm.bind h fun w => Sm.lift fun b hb => by rw [dat_sh]; exact hb
theorem lcGo_sh {n : Option Nat} {st0 : Store} (h0 : p ≤ st0.length) {f f' : W → M (Option D)} (hf : ∀ w, Sm p I id (f w) (f' (shW p I w))) : ∀ (ws : List W) (acc : List D), Sm p I id (lcGo n st0 f ws acc) (lcGo (n.map (shN p I)) (ins p I st0) f' (shWs p I ws) acc)
  | [], acc => Sm.pure rfl
  | w :: ws, acc => by
    intro st hs
    have h1 := hf w st hs
    simp only [lcGo, shWs]
    cases q : f w st with
    | ok r st1 =>
      rw [q] at h1
      obtain ⟨h2, h3⟩ := h1
      rw [h3]
      simp only [stays_sh h0 h2]
      by_cases hst : stays n st0 st1 = true
      · simp only [hst, if_true, id]
        cases r with
        | none => exact lcGo_sh h0 hf ws acc st1 h2
        | some d => exact lcGo_sh h0 hf ws _ st1 h2
      · simp only [hst]; trivial
    | exn _ _ => trivial
    | stuck => trivial
theorem dcGo_sh {n : Option Nat} {st0 : Store} (h0 : p ≤ st0.length) {f f' : W → M (Option (D × D))} (hf : ∀ w, Sm p I id (f w) (f' (shW p I w))) : ∀ (ws : List W) (acc : List (D × D)), Sm p I id (dcGo n st0 f ws acc) (dcGo (n.map (shN p I)) (ins p I st0) f' (shWs p I ws) acc)
  | [], acc => Sm.pure rfl
  | w :: ws, acc => by
    intro st hs
    have h1 := hf w st hs
    simp only [dcGo, shWs]
    cases q : f w st with
    | ok r st1 =>
      rw [q] at h1
      obtain ⟨h2, h3⟩ := h1
      rw [h3]
      simp only [stays_sh h0 h2]
      by_cases hst : stays n st0 st1 = true
      · simp only [hst, if_true, id]
        cases r with
        | none => exact dcGo_sh h0 hf ws acc st1 h2
        | some d => exact dcGo_sh h0 hf ws _ st1 h2
      · simp only [hst]; trivial
    | exn _ _ => trivial
    | stuck => trivial
theorem forGo_sh {n : Option Nat} {st0 : Store} (h0 : p ≤ st0.length) {f f' : W → Env → M Fl} (hf : ∀ w ρ, Sm p I (shF p I) (f w ρ) (f' (shW p I w) (shE p I ρ))) : ∀ (ws : List W) (ρ : Env), Sm p I (shF p I) (forGo n st0 f ws ρ) (forGo (n.map (shN p I)) (ins p I st0) f' (shWs p I ws) (shE p I ρ))
  | [], ρ => Sm.pure rfl
  | w :: ws, ρ => by
    intro st hs
    have h1 := hf w ρ st hs
    simp only [forGo, shWs]
    cases q : f w ρ st with
    | ok r st1 =>
      rw [q] at h1
      obtain ⟨h2, h3⟩ := h1
      rw [h3]
      cases r with
      | nx ρ' =>
        simp only [shF, stays_sh h0 h2]
        by_cases hst : stays n st0 st1 = true
        · simp only [hst, if_true]
          exact forGo_sh h0 hf ws ρ' st1 h2
        · simp only [hst]; trivial
      | ct ρ' =>
        simp only [shF, stays_sh h0 h2]
        by_cases hst : stays n st0 st1 = true
        · simp only [hst, if_true]
          exact forGo_sh h0 hf ws ρ' st1 h2
        · simp only [hst]; trivial
      | brk ρ' => exact ⟨h2, rfl⟩
      | ret w => exact ⟨h2, rfl⟩
    | exn x st1 =>
      rw [q] at h1
      obtain ⟨h2, h3⟩ := h1
      rw [h3]
      exact ⟨h2, rfl⟩
    | stuck => trivial
theorem whGo_sh {c c' : Env → M W} {f f' : Env → M Fl} (hc : ∀ ρ, Sm p I (shW p I) (c ρ) (c' (shE p I ρ))) (hf : ∀ ρ, Sm p I (shF p I) (f ρ) (f' (shE p I ρ))) : ∀ (F F' : Nat) (_ : F ≤ F') (ρ : Env), Sm p I (shF p I) (whGo c f F ρ) (whGo c' f' F' (shE p I ρ))
  | 0, _, _, ρ => Sm.stk
  | k + 1, 0, h, ρ => by omega
  | k + 1, k' + 1, h, ρ => by
    simp only [whGo]
    refine Sm.bind (Sm.truth (hc ρ)) fun b => ?_
    cases b with
    | false => exact Sm.pure rfl
    | true =>
      refine Sm.bind (hf ρ) fun fl => ?_
      cases fl with
      | nx ρ' => exact whGo_sh hc hf k k' (by omega) ρ'
      | ct ρ' => exact whGo_sh hc hf k k' (by omega) ρ'
      | brk ρ' => exact Sm.pure rfl
      | ret w => exact Sm.pure rfl
end

/-! ### the evaluator -/
theorem zip_sh {p : Nat} {I : Store} : ∀ (as bs : List W), shWs p I (zipW as bs) = zipW (shWs p I as) (shWs p I bs)
  | [], bs => by cases bs <;> rfl
  | a :: as, [] => rfl
  | a :: as, b :: bs => by simp only [zipW, shWs, shW, zip_sh as bs]
theorem enum_sh {p : Nat} {I : Store} : ∀ (n : Nat) (as : List W), shWs p I (enumW n as) = enumW n (shWs p I as)
  | n, [] => rfl
  | n, a :: as => by simp only [enumW, shWs, shW, enum_sh (n + 1) as]
section
variable {p : Nat} {I : Store} {C C' : Nat → List W → M W}
mutual
theorem evX_sh (hC : SmC p I C C') : ∀ (e : Ex) (ρ : Env), Sm p I (shW p I) (evX C e ρ) (evX C' e (shE p I ρ))
  | .v i, ρ => by simp only [evX]; exact Sm.lift fun w h => env_sh h
  | .c d, ρ => by simp only [evX]; exact Sm.pure rfl
  | .g _ d, ρ => by simp only [evX]; exact Sm.pure rfl
  | .gd _ kvs, ρ => by simp only [evX]; exact Sm.pure rfl
  | .tup es, ρ => by
    simp only [evX]
    exact Sm.bind (evXs_sh hC es ρ) fun ws => Sm.pure (mkTup_sh ws).symm
  | .lst es, ρ => by
    simp only [evX]
    exact Sm.bind (evXs_sh hC es ρ) fun ws => Sm.bind (sh := id) (Sm.lift fun ds h => by rw [dats_sh]; exact h) fun ds => Sm.pure rfl
  | .dic ps, ρ => by
    simp only [evX]
    exact Sm.bind (evDi_sh hC ps ρ) fun kvs => Sm.pure rfl
  | .nl e, ρ => by
    simp only [evX]
    refine Sm.bind (sh := id) (Sm.bind (evX_sh hC e ρ) fun w => Sm.lift fun c h => by rw [toCell_sh]; exact h) fun c st hs => ⟨by simp; omega, ?_⟩
    show Res.ok _ _ = Res.ok _ _
    rw [ins_push hs, ins_len, ← shN_len hs]
    rfl
  | .ndt, ρ => by
    simp only [evX]
    refine fun st hs => ⟨by simp; omega, ?_⟩
    show Res.ok _ _ = Res.ok _ _
    rw [ins_push hs, ins_len, ← shN_len hs]
    rfl
  | .bin op a b, ρ => by
    simp only [evX]
    exact Sm.bind (evX_sh hC a ρ) fun x => Sm.bind (evX_sh hC b ρ) fun y => Sm.bind (Sm.vwM x) fun x => Sm.bind (Sm.vwM y) fun y => Sm.bind (sh := id) (Sm.lift fun d h => by rw [dat_sh]; exact h) fun dx => Sm.bind (sh := id) (Sm.lift fun d h => by rw [dat_sh]; exact h) fun dy => Sm.bind (sh := id) (Sm.lift fun d h => h) fun d => Sm.pure rfl
  | .neg a, ρ => by
    simp only [evX]
    refine Sm.bind (evX_sh hC a ρ) fun w => ?_
    cases w with
    | dat d => cases d <;> first | exact Sm.pure rfl | exact Sm.stk
    | _ => exact Sm.stk
  | .nt a, ρ => by
    simp only [evX]
    exact Sm.bind (Sm.truth (evX_sh hC a ρ)) fun b => Sm.pure rfl
  | .and a b, ρ => by
    simp only [evX]
    refine Sm.bind (Sm.truth (evX_sh hC a ρ)) fun c => ?_
    cases c with
    | false => exact Sm.pure rfl
    | true => exact evX_sh hC b ρ
  | .or a b, ρ => by
    simp only [evX]
    refine Sm.bind (Sm.truth (evX_sh hC a ρ)) fun c => ?_
    cases c with
    | true => exact Sm.pure rfl
    | false => exact evX_sh hC b ρ
  | .cmp op a b, ρ => by
    simp only [evX]
    exact Sm.bind (evX_sh hC a ρ) fun x => Sm.bind (evX_sh hC b ρ) fun y => Sm.bind (Sm.vwM x) fun x => Sm.bind (Sm.vwM y) fun y => Sm.bind (sh := id) (Sm.lift fun d h => by rw [cmpW_sh]; exact h) fun d => Sm.pure rfl
  | .cmp2 op op' a b c, ρ => by
    simp only [evX]
    refine Sm.bind (evX_sh hC a ρ) fun x => Sm.bind (evX_sh hC b ρ) fun y => Sm.bind (Sm.vwM x) fun x' => Sm.bind (Sm.vwM y) fun y' => Sm.bind (sh := id) (Sm.lift fun d h => by rw [cmpW_sh]; exact h) fun r => ?_
    cases r with
    | false => exact Sm.pure rfl
    | true => exact Sm.bind (evX_sh hC c ρ) fun z => Sm.bind (Sm.vwM y) fun y' => Sm.bind (Sm.vwM z) fun z' => Sm.bind (sh := id) (Sm.lift fun d h => by rw [cmpW_sh]; exact h) fun r => Sm.pure rfl
  | .ite c a b, ρ => by
    simp only [evX]
    refine Sm.bind (Sm.truth (evX_sh hC c ρ)) fun c => ?_
    cases c with
    | true => exact evX_sh hC a ρ
    | false => exact evX_sh hC b ρ
  | .ix a i, ρ => by
    simp only [evX]
    exact Sm.bind (evX_sh hC a ρ) fun x => Sm.bind (evX_sh hC i ρ) fun y => Sm.bind (Sm.vwM x) fun x => Sm.lift fun w h => ixW_sh h
  | .sl a lo hi, ρ => by
    simp only [evX]
    exact Sm.bind (evX_sh hC a ρ) fun x => Sm.bind (evO_sh hC lo ρ) fun l => Sm.bind (evO_sh hC hi ρ) fun h => Sm.bind (Sm.vwM x) fun x => Sm.lift fun w e => slW_sh e
  | .rv a, ρ => by
    simp only [evX]
    exact Sm.bind (evX_sh hC a ρ) fun x => Sm.bind (Sm.vwM x) fun x => Sm.lift fun w e => rvW_sh e
  | .call f es, ρ => by
    simp only [evX]
    exact Sm.bind (evXs_sh hC es ρ) fun ws => hC f ws
  | .bi b es, ρ => by
    simp only [evX]
    refine Sm.bind (evXs_sh hC es ρ) fun ws st hs => ?_
    have e : (shWs p I ws).map (vw · (ins p I st)) = shWs p I (ws.map (vw · st)) := by
      rw [shWs_map, shWs_map, List.map_map, List.map_map]
      exact List.map_congr_left fun w _ => vw_sh hs w
    rw [e]
    cases q : biW b (ws.map (vw · st)) with
    | none => exact trivial
    | some w =>
      obtain ⟨h1, h2⟩ := biW_sh (p := p) (I := I) q
      rw [h1, q]
      exact ⟨hs, by rw [h2]⟩
  | .lens e, ρ => by
    simp only [evX]
    refine Sm.bind (evX_sh hC e ρ) fun w st hs => ?_
    have e : [vw (shW p I w) (ins p I st)] = shWs p I [vw w st] := by
      rw [vw_sh hs]; rfl
    rw [e]
    cases q : biW .lenset [vw w st] with
    | none => exact trivial
    | some w =>
      obtain ⟨h1, h2⟩ := biW_sh (p := p) (I := I) q
      rw [h1, q]
      exact ⟨hs, by rw [h2]⟩
  | .lrg a b, ρ => by
    simp only [evX]
    exact Sm.bind (evX_sh hC a ρ) fun x => Sm.bind (evX_sh hC b ρ) fun y => Sm.lift fun w e => rgW_sh e
  | .lrg0 b, ρ => by
    simp only [evX]
    exact Sm.bind (evX_sh hC b ρ) fun y => Sm.lift fun w e => rgW_sh (x := .dat (.int 0)) e
  | .isi e T, ρ => by
    simp only [evX]
    exact Sm.bind (evX_sh hC e ρ) fun x => Sm.bind (Sm.vwM x) fun x => Sm.bind (sh := id) (Sm.lift fun d h => by rw [dat_sh]; exact h) fun d => Sm.bind (sh := id) (Sm.lift fun d h => h) fun d => Sm.pure rfl
  | .mt m o es, ρ => by
    simp only [evX]
    by_cases hm : m.muts = true
    · simp only [hm, if_true]
      refine Sm.bind (evX_sh hC o ρ) fun x => Sm.bind (sh := shN p I) (Sm.lift fun n h => by rw [refOf_sh, h]; rfl) fun n => Sm.bind (sh := id) (fun st hs => ?_) fun _ => Sm.bind (evXs_sh hC es ρ) fun ws st hs => ?_
      · unfold cellOf
        rw [ins_get hs]
        cases q : st[n]? with
        | none => exact trivial
        | some c =>
          dsimp only
          by_cases hb : (isLst c == m.wants) = true
          · rw [if_pos hb, if_pos hb]; exact ⟨hs, rfl⟩
          · rw [if_neg hb]; exact trivial
      · rw [ins_get hs]
        cases q : st[n]?.bind fun c => mtC m c ws with
        | none => exact trivial
        | some r =>
          obtain ⟨w, c'⟩ := r
          rw [Option.bind_eq_some_iff] at q
          obtain ⟨c, e1, e2⟩ := q
          obtain ⟨h1, h2⟩ := mtC_sh (p := p) (I := I) e2
          rw [e1, h1]
          show SmR p I _ (Res.ok _ _) (match mtC m c ws with | some (w, c) => _ | none => _)
          rw [e2]
          refine ⟨by simpa using hs, ?_⟩
          show Res.ok w ((ins p I st).set (shN p I n) c') = _
          rw [h2, ins_set hs]
    · simp only [hm]
      refine Sm.bind (evX_sh hC o ρ) fun x st hs => ?_
      rw [vw_sh hs, fits_sh]
      by_cases hf : m.fits (vw x st) = true
      · simp only [hf, if_true]
        refine (Sm.bind (evXs_sh hC es ρ) fun ws => Sm.bind (Sm.vwM x) fun x => Sm.lift fun w e => ?_) st hs
        obtain ⟨h1, h2, h3⟩ := mtW_sh (p := p) (I := I) e
        rw [h1, h2, h3, e]
      · simp only [hf]
        exact trivial
  | .lc e q it c own, ρ => by
    simp only [evX]
    refine Sm.bind (evIt_sh hC it ρ) fun r st hs => ?_
    obtain ⟨ws, n⟩ := r
    show SmR p I _ (if ws.length ≤ bigLine then _ else _) (if (shWs p I ws).length ≤ bigLine then _ else _)
    rw [shWs_len]
    by_cases hl : ws.length ≤ bigLine
    · rw [if_pos hl, if_pos hl]
      show SmR p I (shW p I) ((lcGo n st _ ws [] >>= fun ds => pure (W.dat (D.lst ds))) st) ((lcGo (n.map (shN p I)) (ins p I st) _ (shWs p I ws) [] >>= fun ds => pure (W.dat (D.lst ds))) (ins p I st))
      refine Sm.bind (sh := id) (sh' := shW p I) (f := fun ds => pure (W.dat (D.lst ds))) (f' := fun ds => pure (W.dat (D.lst ds))) (lcGo_sh hs (fun w => ?_) ws []) (fun ds => Sm.pure rfl) st hs
      refine Sm.bind (sh := shE p I) (Sm.lift fun ρ' h => ?_) fun ρ' => Sm.bind (sh := id) (evC_sh hC c ρ') fun b => ?_
      · rw [wipe_sh]; exact bindP_sh h
      · cases b with
        | true => exact Sm.bind (sh := id) (Sm.dat (evX_sh hC e ρ')) fun d => Sm.pure rfl
        | false => exact Sm.pure rfl
    · rw [if_neg hl]; exact trivial
  | .dc k v q it c own, ρ => by
    simp only [evX]
    refine Sm.bind (evIt_sh hC it ρ) fun r st hs => ?_
    obtain ⟨ws, n⟩ := r
    show SmR p I _ (if ws.length ≤ bigLine then _ else _) (if (shWs p I ws).length ≤ bigLine then _ else _)
    rw [shWs_len]
    by_cases hl : ws.length ≤ bigLine
    · rw [if_pos hl, if_pos hl]
      show SmR p I (shW p I) ((dcGo n st _ ws [] >>= fun ds => pure (W.fdi false ds)) st) ((dcGo (n.map (shN p I)) (ins p I st) _ (shWs p I ws) [] >>= fun ds => pure (W.fdi false ds)) (ins p I st))
      refine Sm.bind (sh := id) (sh' := shW p I) (f := fun ds => pure (W.fdi false ds)) (f' := fun ds => pure (W.fdi false ds)) (dcGo_sh hs (fun w => ?_) ws []) (fun ds => Sm.pure rfl) st hs
      refine Sm.bind (sh := shE p I) (Sm.lift fun ρ' h => ?_) fun ρ' => Sm.bind (sh := id) (evC_sh hC c ρ') fun b => ?_
      · rw [wipe_sh]; exact bindP_sh h
      · cases b with
        | true =>
          refine Sm.bind (sh := id) (Sm.dat (evX_sh hC k ρ')) fun a => Sm.bind (sh := id) (Sm.dat (evX_sh hC v ρ')) fun b => ?_
          show Sm p I id (if isLeaf a = true then _ else _) (if isLeaf a = true then _ else _)
          by_cases ha : isLeaf a = true
          · rw [if_pos ha, if_pos ha]; exact Sm.pure rfl
          · rw [if_neg ha]; exact Sm.stk
        | false => exact Sm.pure rfl
    · rw [if_neg hl]; exact trivial
theorem evXs_sh (hC : SmC p I C C') : ∀ (es : Exs) (ρ : Env), Sm p I (shWs p I) (evXs C es ρ) (evXs C' es (shE p I ρ))
  | .nil, ρ => by simp only [evXs]; exact Sm.pure rfl
  | .cons e es, ρ => by
    simp only [evXs]
    exact Sm.bind (evX_sh hC e ρ) fun w => Sm.bind (evXs_sh hC es ρ) fun ws => Sm.pure rfl
theorem evDi_sh (hC : SmC p I C C') : ∀ (ps : Kvs) (ρ : Env), Sm p I id (evDi C ps ρ) (evDi C' ps (shE p I ρ))
  | .nil, ρ => by simp only [evDi]; exact Sm.pure rfl
  | .cons k v r, ρ => by
    simp only [evDi]
    refine Sm.bind (sh := id) (Sm.dat (evX_sh hC k ρ)) fun a => Sm.bind (sh := id) (Sm.dat (evX_sh hC v ρ)) fun b => Sm.bind (sh := id) (evDi_sh hC r ρ) fun r => ?_
    show Sm p I id (if isLeaf a = true then _ else _) (if isLeaf a = true then _ else _)
    by_cases ha : isLeaf a = true
    · rw [if_pos ha, if_pos ha]; exact Sm.pure rfl
    · rw [if_neg ha]; exact Sm.stk
theorem evC_sh (hC : SmC p I C C') : ∀ (o : Ox) (ρ : Env), Sm p I id (evC C o ρ) (evC C' o (shE p I ρ))
  | .no, ρ => by simp only [evC]; exact Sm.pure rfl
  | .so e, ρ => by simp only [evC]; exact Sm.truth (evX_sh hC e ρ)
theorem evO_sh (hC : SmC p I C C') : ∀ (o : Ox) (ρ : Env), Sm p I id (evO C o ρ) (evO C' o (shE p I ρ))
  | .no, ρ => by simp only [evO]; exact Sm.pure rfl
  | .so e, ρ => by
    simp only [evO]
    refine Sm.bind (evX_sh hC e ρ) fun w => ?_
    cases w with
    | dat d => cases d <;> first | exact Sm.pure rfl | exact Sm.stk
    | _ => exact Sm.stk
theorem evIt_sh (hC : SmC p I C C') : ∀ (it : Wk) (ρ : Env), Sm p I (fun r => (shWs p I r.1, r.2.map (shN p I))) (evIt C it ρ) (evIt C' it (shE p I ρ))
  | .sq e, ρ => by
    simp only [evIt]
    refine Sm.bind (evX_sh hC e ρ) fun w => Sm.bind (Sm.vwM w) fun x => Sm.bind (sh := shWs p I) (Sm.lift fun ws h => ?_) fun ws => Sm.pure ?_
    · obtain ⟨h1, h2⟩ := items_sh (p := p) (I := I) h
      rw [h1, h2]
    · rw [refOf_sh]
  | .r1 a, ρ => by
    simp only [evIt]
    refine Sm.bind (evX_sh hC a ρ) fun w => ?_
    cases w with
    | dat d =>
      cases d with
      | int j =>
        show Sm p I _ (if okR j = true then _ else _) (if okR j = true then _ else _)
        by_cases h : okR j = true
        · rw [if_pos h]; exact Sm.pure (by rw [shWs_map]; unfold rangeL; rw [List.map_map]; rfl)
        · rw [if_neg h]; exact Sm.stk
      | _ => exact Sm.stk
    | _ => exact Sm.stk
  | .r2 a b, ρ => by
    simp only [evIt]
    refine Sm.bind (evX_sh hC a ρ) fun w => ?_
    cases w with
    | dat d =>
      cases d with
      | int i =>
        refine Sm.bind (evX_sh hC b ρ) fun w => ?_
        cases w with
        | dat d =>
          cases d with
          | int j =>
            show Sm p I _ (if (okR i && okR j) = true then _ else _) (if (okR i && okR j) = true then _ else _)
            by_cases h : (okR i && okR j) = true
            · rw [if_pos h]; exact Sm.pure (by rw [shWs_map]; unfold rangeL; rw [List.map_map]; rfl)
            · rw [if_neg h]; exact Sm.stk
          | _ => exact Sm.stk
        | _ => exact Sm.stk
      | _ => exact Sm.stk
    | _ => exact Sm.stk
  | .r3 a b c, ρ => by
    simp only [evIt]
    refine Sm.bind (evX_sh hC a ρ) fun w => ?_
    cases w with
    | dat d =>
      cases d with
      | int i =>
        refine Sm.bind (evX_sh hC b ρ) fun w => ?_
        cases w with
        | dat d =>
          cases d with
          | int j =>
            refine Sm.bind (evX_sh hC c ρ) fun w => ?_
            cases w with
            | dat d =>
              cases d with
              | int c =>
                show Sm p I _ (if (okR i && okR j && c == -1) = true then _ else _) (if (okR i && okR j && c == -1) = true then _ else _)
                by_cases h : (okR i && okR j && c == -1) = true
                · rw [if_pos h]; exact Sm.pure (by rw [shWs_map]; unfold rangeC; rw [List.map_map]; rfl)
                · rw [if_neg h]; exact Sm.stk
              | _ => exact Sm.stk
            | _ => exact Sm.stk
          | _ => exact Sm.stk
        | _ => exact Sm.stk
      | _ => exact Sm.stk
    | _ => exact Sm.stk
  | .zp a b, ρ => by
    simp only [evIt]
    refine Sm.bind (evX_sh hC a ρ) fun x => Sm.bind (evX_sh hC b ρ) fun y => ?_
    cases x with
    | dat d =>
      cases d with
      | tup xs =>
        cases y with
        | dat e =>
          cases e with
          | tup ys => exact Sm.pure (by rw [zip_sh, map_dat_sh, map_dat_sh]; rfl)
          | _ => exact Sm.stk
        | _ => exact Sm.stk
      | lst xs =>
        cases y with
        | dat e =>
          cases e with
          | lst ys => exact Sm.pure (by rw [zip_sh, map_dat_sh, map_dat_sh]; rfl)
          | _ => exact Sm.stk
        | _ => exact Sm.stk
      | _ => exact Sm.stk
    | _ => exact Sm.stk
  | .en a, ρ => by
    simp only [evIt]
    refine Sm.bind (evX_sh hC a ρ) fun w => Sm.bind (Sm.vwM w) fun x => ?_
    cases x with
    | dat d =>
      cases d with
      | lst xs => exact Sm.pure (by rw [enum_sh, map_dat_sh, refOf_sh])
      | _ => exact Sm.stk
    | _ => exact Sm.stk
  | .itm a, ρ => by
    simp only [evIt]
    refine Sm.bind (evX_sh hC a ρ) fun w => ?_
    cases w with
    | fdi t kvs => exact Sm.pure (by rw [shWs_map, List.map_map]; rfl)
    | _ => exact Sm.stk
end
end
section
variable {p : Nat} {I : Store} {C C' : Nat → List W → M W} {F F' : Nat}
theorem augM_sh (op : Operator) (x y : W) : Sm p I (shW p I) (augM op x y) (augM op (shW p I x) (shW p I y)) := by
  cases x with
  | ref n =>
    intro st hs
    simp only [shW, augM, ins_get hs]
    cases op with
    | Add =>
      cases y with
      | dat d =>
        cases d with
        | lst ys =>
          cases q : st[n]? with
          | none => exact trivial
          | some c =>
            cases c with
            | lst xs =>
              dsimp only [shW]
              by_cases h : xs.length + ys.length ≤ bigLine
              · rw [if_pos h, if_pos h, ins_set hs]
                exact ⟨by simpa using hs, rfl⟩
              · rw [if_neg h]; exact trivial
            | dic t kvs => exact trivial
        | _ => exact trivial
      | _ => exact trivial
    | _ => exact trivial
  | dat dx =>
    simp only [shW, augM, dat_sh]
    refine Sm.lift fun w h => ?_
    rw [h]
    simp only [Option.bind_eq_some_iff, Option.map_eq_some_iff] at h
    obtain ⟨_, _, _, _, rfl⟩ := h
    rfl
  | _ => exact Sm.stk
theorem evPut_sh (o i w : W) : Sm p I id (evPut o i w) (evPut (shW p I o) (shW p I i) (shW p I w)) := by
  unfold evPut
  refine Sm.bind (sh := shN p I) (Sm.lift fun n h => by rw [refOf_sh, h]; rfl) fun n => Sm.bind (sh := id) (Sm.lift fun d h => by rw [dat_sh]; exact h) fun di => Sm.bind (sh := id) (Sm.lift fun d h => by rw [dat_sh]; exact h) fun dw st hs => ?_
  rw [ins_get hs]
  simp only [id]
  cases q : st[n]?.bind fun c => setC c di dw with
  | none => exact trivial
  | some c =>
    refine ⟨by simpa using hs, ?_⟩
    show Res.ok () ((ins p I st).set (shN p I n) c) = _
    rw [ins_set hs]
mutual
theorem evS_sh (hC : SmC p I C C') (hF : F ≤ F') : ∀ (s : St) (ρ : Env), Sm p I (shF p I) (evS C F s ρ) (evS C' F' s (shE p I ρ))
  | .asg q e, ρ => by
    simp only [evS]
    exact Sm.bind (evX_sh hC e ρ) fun w => Sm.bind (sh := shE p I) (Sm.lift fun ρ' h => bindP_sh h) fun ρ' => Sm.pure rfl
  | .aug op i e, ρ => by
    simp only [evS]
    exact Sm.bind (sh := shW p I) (Sm.lift fun w h => env_sh h) fun x => Sm.bind (evX_sh hC e ρ) fun y => Sm.bind (Sm.vwM y) fun y => Sm.bind (augM_sh op x y) fun w => Sm.pure (by simp only [shF, shE_set])
  | .sst o i e, ρ => by
    simp only [evS]
    exact Sm.bind (evX_sh hC e ρ) fun w => Sm.bind (evX_sh hC o ρ) fun x => Sm.bind (evX_sh hC i ρ) fun y => Sm.bind (sh := id) (evPut_sh x y w) fun _ => Sm.pure rfl
  | .saug op o i e, ρ => by
    simp only [evS]
    exact Sm.bind (evX_sh hC o ρ) fun x => Sm.bind (evX_sh hC i ρ) fun y => Sm.bind (Sm.vwM x) fun xv => Sm.bind (sh := shW p I) (Sm.lift fun a h => ixW_sh h) fun a => Sm.bind (evX_sh hC e ρ) fun w => Sm.bind (sh := id) (Sm.lift fun d h => by rw [dat_sh]; exact h) fun da => Sm.bind (sh := id) (Sm.lift fun d h => by rw [dat_sh]; exact h) fun dw => Sm.bind (sh := id) (Sm.lift fun d h => h) fun d => Sm.bind (sh := id) (evPut_sh x y (.dat d)) fun _ => Sm.pure rfl
  | .ex e, ρ => by
    simp only [evS]
    exact Sm.bind (evX_sh hC e ρ) fun _ => Sm.pure rfl
  | .ife c a b, ρ => by
    simp only [evS]
    refine Sm.bind (Sm.truth (evX_sh hC c ρ)) fun k => ?_
    cases k with
    | true => exact evSs_sh hC hF a ρ
    | false => exact evSs_sh hC hF b ρ
  | .for q it b, ρ => by
    simp only [evS]
    refine Sm.bind (evIt_sh hC it ρ) fun r st hs => ?_
    obtain ⟨ws, n⟩ := r
    exact forGo_sh hs (fun w ρ => Sm.bind (sh := shE p I) (Sm.lift fun ρ' h => bindP_sh h) fun ρ' => evSs_sh hC hF b ρ') ws ρ st hs
  | .wh c b, ρ => by
    simp only [evS]
    exact whGo_sh (evX_sh hC c) (evSs_sh hC hF b) F F' hF ρ
  | .ret e, ρ => by
    simp only [evS]
    exact Sm.bind (evX_sh hC e ρ) fun _ => Sm.pure rfl
  | .retn, ρ => by simp only [evS]; exact Sm.pure rfl
  | .brk, ρ => by simp only [evS]; exact Sm.pure rfl
  | .cnt, ρ => by simp only [evS]; exact Sm.pure rfl
  | .pas, ρ => by simp only [evS]; exact Sm.pure rfl
theorem evSs_sh (hC : SmC p I C C') (hF : F ≤ F') : ∀ (s : Ss) (ρ : Env), Sm p I (shF p I) (evSs C F s ρ) (evSs C' F' s (shE p I ρ))
  | .nil, ρ => by simp only [evSs]; exact Sm.pure rfl
  | .cons s r, ρ => by
    simp only [evSs]
    refine Sm.bind (evS_sh hC hF s ρ) fun fl => ?_
    cases fl with
    | nx ρ' => exact evSs_sh hC hF r ρ'
    | _ => exact Sm.pure rfl
end
theorem fin1_sh {st : Store} (hs : p ≤ st.length) {n : Nat} (hn : p ≤ n) {w w' : W} (e : fin1 n st w = some w') : fin1 (n + I.length) (ins p I st) (shW p I w) = some (shW p I w') := by
  cases w with
  | dat d => cases e; rfl
  | fdi t kvs => cases e; rfl
  | ref m =>
    simp only [fin1] at e
    simp only [shW, fin1, ins_get hs]
    by_cases hm : m < n
    · rw [if_pos hm] at e; cases e
      rw [if_pos (by unfold shN; split <;> omega)]
      rfl
    · rw [if_neg hm] at e
      rw [if_neg (by unfold shN; split <;> omega)]
      cases q : st[m]? with
      | none => rw [q] at e; cases e
      | some c => rw [q] at e; cases c <;> cases e <;> rfl
  | _ => cases e
theorem finL_sh {st : Store} (hs : p ≤ st.length) {n : Nat} (hn : p ≤ n) : ∀ {ws ws' : List W}, finL n st ws = some ws' → finL (n + I.length) (ins p I st) (shWs p I ws) = some (shWs p I ws')
  | [], _, e => by cases e; rfl
  | w :: ws, _, e => by
    simp only [finL, Option.bind_eq_some_iff, Option.map_eq_some_iff] at e
    obtain ⟨w1, e1, ws1, e2, rfl⟩ := e
    simp only [shWs, finL, fin1_sh hs hn e1, finL_sh hs hn e2]
    rfl
theorem fin_sh {st : Store} (hs : p ≤ st.length) {n : Nat} (hn : p ≤ n) {w w' : W} (e : fin n st w = some w') : fin (n + I.length) (ins p I st) (shW p I w) = some (shW p I w') := by
  cases w with
  | tup ws =>
    simp only [fin, Option.map_eq_some_iff] at e
    obtain ⟨ws', e1, rfl⟩ := e
    simp only [shW, fin, finL_sh hs hn e1]
    rfl
  | dat d => exact fin1_sh hs hn (w := .dat d) (show fin1 n st _ = _ from e)
  | fdi t kvs => exact fin1_sh hs hn (w := .fdi t kvs) (show fin1 n st _ = _ from e)
  | ref m => exact fin1_sh hs hn (w := .ref m) (show fin1 n st _ = _ from e)
  | scr ns => cases e
theorem ins_takeN {st : Store} {n : Nat} (h : p ≤ n) : ins p I (st.take n) = (ins p I st).take (n + I.length) := (ins_take h).symm
theorem outW_sh {mk : Bool} {n : Nat} {st st2 : Store} (hs : p ≤ st.length) (hn : p ≤ n) {w w' : W} (e : outW mk n st w = some (w', st2)) : p ≤ st2.length ∧ outW mk (n + I.length) (ins p I st) (shW p I w) = some (shW p I w', ins p I st2) := by
  unfold outW at e
  cases mk with
  | true =>
    simp only [if_true] at e
    cases w with
    | ref m =>
      dsimp only at e
      by_cases hm : n ≤ m
      · rw [if_pos hm] at e
        cases q : st[m]? with
        | none => rw [q] at e; cases e
        | some c =>
          rw [q] at e; cases e
          have hlen : n ≤ st.length := by
            have := (List.getElem?_eq_some_iff.mp q).1; omega
          refine ⟨by simp; omega, ?_⟩
          unfold outW
          simp only [if_true, shW]
          have e1 : shN p I m = m + I.length := by unfold shN; rw [if_neg (by omega)]
          have e2 : shN p I n = n + I.length := by unfold shN; rw [if_neg (by omega)]
          rw [if_pos (by rw [e1]; omega), ins_get hs, q, ins_push (by simp; omega), ins_take hn, e2]
          rfl
      · rw [if_neg hm] at e; cases e
    | _ => cases e
  | false =>
    simp only [Bool.false_eq_true, if_false, Option.map_eq_some_iff] at e
    obtain ⟨w1, e1, e2⟩ := e
    cases e2
    refine ⟨by simp; omega, ?_⟩
    unfold outW
    simp only [Bool.false_eq_true, if_false, fin_sh hs hn e1, ins_take hn]
    rfl
theorem start_sh (ns : Nat) (ws : List W) : startE ns (shWs p I ws) = shE p I (startE ns ws) := by
  unfold startE shE
  rw [List.map_append, shWs_len, shWs_map, List.map_map, List.map_map, List.map_replicate]
  rfl
theorem leave_sh {mk : Bool} {n : Nat} (hn : p ≤ n) {r r' : Res Fl} (h : SmR p I (shF p I) r r') : SmR p I (shW p I) (leave mk n r) (leave mk (n + I.length) r') := by
  cases r with
  | ok f st =>
    obtain ⟨hs, rfl⟩ := h
    cases f with
    | ret w =>
      unfold leave
      simp only [shF]
      cases q : outW mk n st w with
      | none => exact trivial
      | some r =>
        obtain ⟨w', st2⟩ := r
        obtain ⟨h1, h2⟩ := outW_sh (I := I) hs hn q
        rw [h2]
        exact ⟨h1, rfl⟩
    | nx ρ =>
      refine ⟨by simp; omega, ?_⟩
      unfold leave
      simp only [shF, ins_take hn]
      rfl
    | brk ρ => exact trivial
    | ct ρ => exact trivial
  | exn x st =>
    obtain ⟨hs, rfl⟩ := h
    refine ⟨by simp; omega, ?_⟩
    unfold leave
    simp only [ins_take hn]
  | stuck => exact trivial
theorem callF_sh {T : Nat → Option FD} (hF : F ≤ F') : ∀ (k k' : Nat) (_ : k ≤ k'), SmC p I (callF T F k) (callF T F' k')
  | 0, _, _, f, ws => Sm.stk
  | k + 1, 0, h, _, _ => by omega
  | k + 1, k' + 1, h, f, ws => by
    intro st hs
    simp only [callF]
    cases q : T f with
    | none => exact trivial
    | some fd =>
      dsimp only
      by_cases hl : ws.length = fd.np
      · rw [if_pos hl, if_pos (by rw [shWs_len]; exact hl), ins_len, start_sh]
        exact leave_sh hs (evSs_sh (callF_sh hF k k' (by omega)) hF fd.body (startE fd.ns ws) st hs)
      · rw [if_neg hl]; exact trivial
/-- a run that is not stuck, in the same store, with more levels and more fuel -/
theorem shN_nil (m : Nat) : shN p [] m = m := by unfold shN; split <;> simp
mutual
theorem shW_nil : ∀ w : W, shW p [] w = w
  | .ref m => by simp only [shW, shN_nil]
  | .tup ws => by simp only [shW, shWs_nil ws]
  | .dat _ => rfl
  | .fdi _ _ => rfl
  | .scr _ => rfl
theorem shWs_nil : ∀ ws : List W, shWs p [] ws = ws
  | [] => rfl
  | w :: ws => by simp only [shWs, shW_nil w, shWs_nil ws]
end
theorem ins_nil (st : Store) : ins p [] st = st := by simp [ins]
end
/-- data in, data out: from a run in the empty store -/
theorem call_all {T : Nat → Option FD} {F F' k k' f : Nat} {ds : List D} {d : D} (h : callF T F k f (ds.map .dat) [] = .ok (.dat d) []) (hF : F ≤ F') (hk : k ≤ k') (st : Store) : callF T F' k' f (ds.map .dat) st = .ok (.dat d) st := by
  have := callF_sh (p := 0) (I := st) (T := T) hF k k' hk f (ds.map .dat) [] (Nat.zero_le _)
  rw [h] at this
  obtain ⟨_, e⟩ := this
  rw [map_dat_sh] at e
  simpa [ins, shW] using e
/-- with cells in front: more cells behind -/
theorem call_more {T : Nat → Option FD} {F F' k k' f : Nat} {ws : List W} {st st1 : Store} {w : W} (h : callF T F k f ws st = .ok w st1) (hF : F ≤ F') (hk : k ≤ k') (hl : st1.length = st.length) (hw : shWs st.length [] ws = ws) (rs : Store) (h1 : shWs st.length rs ws = ws) (h2 : shW st.length rs w = w) : callF T F' k' f ws (st ++ rs) = .ok w (st1 ++ rs) := by
  have := callF_sh (p := st.length) (I := rs) (T := T) hF k k' hk f ws st (Nat.le_refl _)
  rw [h] at this
  obtain ⟨_, e⟩ := this
  rw [h1, h2] at e
  have e1 : ins st.length rs st = st ++ rs := by simp [ins]
  have e2 : ins st.length rs st1 = st1 ++ rs := by
    unfold ins
    rw [← hl]; simp
  rw [e1, e2] at e
  exact e
theorem call_mono {T : Nat → Option FD} {F F' k k' f : Nat} {ws : List W} {st st1 : Store} {w : W} (h : callF T F k f ws st = .ok w st1) (hF : F ≤ F') (hk : k ≤ k') : callF T F' k' f ws st = .ok w st1 := by
  have := callF_sh (p := 0) (I := []) (T := T) hF k k' hk f ws st (Nat.zero_le _)
  rw [h] at this
  obtain ⟨_, e⟩ := this
  rw [shWs_nil, shW_nil, ins_nil, ins_nil] at e
  exact e
end Ev

/-! EvW: rules to walk through a def with values known in part; loops by invariants. -/
namespace Ev.W0
open PySem Ev
/-! ### expressions -/
section
variable {C : Nat → List W → M W} {F : Nat} {ρ ρ' : Env} {st st1 st2 st3 st4 : Store} {a b c e i : Ex} {es : Exs} {x y z w : W} {ws : List W} {dx dy d : D}
theorem x_v {n : Nat} (h : ρ[n]?.join = some w) : evX C (.v n) ρ st = .ok w st := by
  simp only [evX, h]; rfl
theorem x_c : evX C (.c d) ρ st = .ok (.dat d) st := by simp only [evX]; rfl
theorem x_g {n : Str} : evX C (.g n d) ρ st = .ok (.dat d) st := by simp only [evX]; rfl
theorem x_gd {n : Str} {kvs : List (D × D)} : evX C (.gd n kvs) ρ st = .ok (.fdi false kvs) st := by simp only [evX]; rfl
theorem xs_nil : evXs C .nil ρ st = .ok [] st := by simp only [evXs]; rfl
theorem xs_cons (h : evX C e ρ st = .ok w st1) (h2 : evXs C es ρ st1 = .ok ws st2) : evXs C (.cons e es) ρ st = .ok (w :: ws) st2 := by
  simp only [evXs, bind_eq, h, h2]; rfl
theorem x_tup (h : evXs C es ρ st = .ok ws st1) (hm : mkTup ws = w) : evX C (.tup es) ρ st = .ok w st1 := by
  simp only [evX, bind_eq, h, ← hm]; rfl
theorem x_lst {ds : List D} (h : evXs C es ρ st = .ok ws st1) (hm : dats? ws = some ds) : evX C (.lst es) ρ st = .ok (.dat (.lst ds)) st1 := by
  simp only [evX, bind_eq, h, hm]; rfl
theorem x_nl {n : Cell} (h : evX C e ρ st = .ok w st1) (hm : toCell w = some n) : evX C (.nl e) ρ st = .ok (.ref st1.length) (st1 ++ [n]) := by
  show M.bind (M.bind (evX C e ρ) _) _ st = _
  simp only [M.bind, h, Function.comp, hm]; rfl
theorem x_ndt : evX C .ndt ρ st = .ok (.ref st.length) (st ++ [.dic true []]) := by simp only [evX]
theorem x_bin {op : Operator} (h1 : evX C a ρ st = .ok x st1) (h2 : evX C b ρ st1 = .ok y st2) (h3 : vw x st2 = .dat dx) (h4 : vw y st2 = .dat dy) (h5 : binD op dx dy = some d) : evX C (.bin op a b) ρ st = .ok (.dat d) st2 := by
  simp only [evX, bind_eq, h1, h2, vwM, h3, h4, dat?, lift_some, h5]; rfl
theorem x_neg {j : Int} (h1 : evX C a ρ st = .ok (.dat (.int j)) st1) : evX C (.neg a) ρ st = .ok (.dat (.int (-j))) st1 := by
  simp only [evX, bind_eq, h1]; rfl
theorem truthR {m : M W} {p : Bool} (h : m st = .ok (.dat (.bl p)) st1) : (lift ∘ truth =<< m) st = .ok p st1 := by
  show (m >>= _) st = _
  simp only [bind_eq, h, Function.comp]; rfl
theorem datR {m : M W} (h : m st = .ok (.dat d) st1) : (lift ∘ dat? =<< m) st = .ok d st1 := by
  show (m >>= _) st = _
  simp only [bind_eq, h, Function.comp]; rfl
theorem x_nt {p : Bool} (h : evX C a ρ st = .ok (.dat (.bl p)) st1) : evX C (.nt a) ρ st = .ok (.dat (.bl (!p))) st1 := by
  simp only [evX, bind_eq, truthR h]; rfl
theorem x_and {p q : Bool} (h : evX C a ρ st = .ok (.dat (.bl p)) st1) (h2 : p = true → evX C b ρ st1 = .ok (.dat (.bl q)) st1) : evX C (.and a b) ρ st = .ok (.dat (.bl (p && q))) st1 := by
  simp only [evX, bind_eq, truthR h]
  cases p with
  | true => exact h2 rfl
  | false => rfl
theorem x_or {p q : Bool} (h : evX C a ρ st = .ok (.dat (.bl p)) st1) (h2 : p = false → evX C b ρ st1 = .ok (.dat (.bl q)) st1) : evX C (.or a b) ρ st = .ok (.dat (.bl (p || q))) st1 := by
  simp only [evX, bind_eq, truthR h]
  cases p with
  | true => rfl
  | false => exact h2 rfl
theorem x_andF {p : Bool} (h : evX C a ρ st = .ok (.dat (.bl p)) st1) (hp : p = false) : evX C (.and a b) ρ st = .ok (.dat (.bl false)) st1 := by
  subst hp
  simp only [evX, bind_eq, truthR h]; rfl
theorem x_andT {p : Bool} {r : Res W} (h : evX C a ρ st = .ok (.dat (.bl p)) st1) (hp : p = true) (h2 : evX C b ρ st1 = r) : evX C (.and a b) ρ st = r := by
  subst hp
  simp only [evX, bind_eq, truthR h]; exact h2
theorem x_orT {p : Bool} (h : evX C a ρ st = .ok (.dat (.bl p)) st1) (hp : p = true) : evX C (.or a b) ρ st = .ok (.dat (.bl true)) st1 := by
  subst hp
  simp only [evX, bind_eq, truthR h]; rfl
theorem x_orF {p : Bool} {r : Res W} (h : evX C a ρ st = .ok (.dat (.bl p)) st1) (hp : p = false) (h2 : evX C b ρ st1 = r) : evX C (.or a b) ρ st = r := by
  subst hp
  simp only [evX, bind_eq, truthR h]; exact h2
theorem x_cmp2F {op op' : CmpOp} {r : Bool} (h1 : evX C a ρ st = .ok x st1) (h2 : evX C b ρ st1 = .ok y st2) (h3 : cmpW op (vw x st2) (vw y st2) = some r) (hr : r = false) : evX C (.cmp2 op op' a b c) ρ st = .ok (.dat (.bl false)) st2 := by
  subst hr
  simp only [evX, bind_eq, h1, h2, vwM, h3]; rfl
theorem x_cmp {op : CmpOp} {r : Bool} (h1 : evX C a ρ st = .ok x st1) (h2 : evX C b ρ st1 = .ok y st2) (h3 : cmpW op (vw x st2) (vw y st2) = some r) : evX C (.cmp op a b) ρ st = .ok (.dat (.bl r)) st2 := by
  simp only [evX, bind_eq, h1, h2, vwM, h3]; rfl
theorem x_cmp2 {op op' : CmpOp} {r r' : Bool} (h1 : evX C a ρ st = .ok x st1) (h2 : evX C b ρ st1 = .ok y st2) (h3 : cmpW op (vw x st2) (vw y st2) = some r) (h4 : evX C c ρ st2 = .ok z st2) (h5 : cmpW op' (vw y st2) (vw z st2) = some r') : evX C (.cmp2 op op' a b c) ρ st = .ok (.dat (.bl (r && r'))) st2 := by
  simp only [evX, bind_eq, h1, h2, vwM, h3]
  cases r with
  | true => simp only [lift_some, bind_eq, h4, vwM, h5]; rfl
  | false => rfl
theorem x_ite {p : Bool} (h : evX C c ρ st = .ok (.dat (.bl p)) st1) (h1 : p = true → evX C a ρ st1 = .ok x st1) (h2 : p = false → evX C b ρ st1 = .ok y st1) : evX C (.ite c a b) ρ st = .ok (if p then x else y) st1 := by
  simp only [evX, bind_eq, truthR h]
  cases p with
  | true => exact h1 rfl
  | false => exact h2 rfl
theorem x_iteT {p : Bool} {r : Res W} (h : evX C c ρ st = .ok (.dat (.bl p)) st1) (hp : p = true) (h1 : evX C a ρ st1 = r) : evX C (.ite c a b) ρ st = r := by
  subst hp
  simp only [evX, bind_eq, truthR h]
  exact h1
theorem x_iteF {p : Bool} {r : Res W} (h : evX C c ρ st = .ok (.dat (.bl p)) st1) (hp : p = false) (h1 : evX C b ρ st1 = r) : evX C (.ite c a b) ρ st = r := by
  subst hp
  simp only [evX, bind_eq, truthR h]
  exact h1
theorem x_iteD {p : Bool} (h : evX C c ρ st = .ok (.dat (.bl p)) st1) (h1 : p = true → evX C a ρ st1 = .ok (.dat dx) st1) (h2 : p = false → evX C b ρ st1 = .ok (.dat dy) st1) : evX C (.ite c a b) ρ st = .ok (.dat (if p then dx else dy)) st1 := by
  simp only [evX, bind_eq, truthR h]
  cases p with
  | true => exact h1 rfl
  | false => exact h2 rfl
theorem x_ix (h1 : evX C a ρ st = .ok x st1) (h2 : evX C i ρ st1 = .ok y st2) (h3 : ixW (vw x st2) y = some w) : evX C (.ix a i) ρ st = .ok w st2 := by
  simp only [evX, bind_eq, h1, h2, vwM, h3]; rfl
theorem o_no : evO C .no ρ st = .ok none st := by simp only [evO]; rfl
theorem o_so {j : Int} (h : evX C e ρ st = .ok (.dat (.int j)) st1) : evO C (.so e) ρ st = .ok (some j) st1 := by
  simp only [evO, bind_eq, h]; rfl
theorem x_sl {lo hi : Ox} {l h : Option Int} (h1 : evX C a ρ st = .ok x st1) (h2 : evO C lo ρ st1 = .ok l st2) (h3 : evO C hi ρ st2 = .ok h st3) (h4 : slW (vw x st3) l h = some w) : evX C (.sl a lo hi) ρ st = .ok w st3 := by
  simp only [evX, bind_eq, h1, h2, h3, vwM, h4]; rfl
theorem x_rv (h1 : evX C a ρ st = .ok x st1) (h4 : rvW (vw x st1) = some w) : evX C (.rv a) ρ st = .ok w st1 := by
  simp only [evX, bind_eq, h1, vwM, h4]; rfl
theorem x_call {f : Nat} (h1 : evXs C es ρ st = .ok ws st1) (h2 : C f ws st1 = .ok w st2) : evX C (.call f es) ρ st = .ok w st2 := by
  simp only [evX, bind_eq, h1, h2]
theorem x_callR {f : Nat} {r : Res W} (h1 : evXs C es ρ st = .ok ws st1) (h2 : C f ws st1 = r) : evX C (.call f es) ρ st = r := by
  simp only [evX, bind_eq, h1, h2]
theorem x_bi {bi : Bi} (h1 : evXs C es ρ st = .ok ws st1) (h2 : biW bi (ws.map (vw · st1)) = some w) : evX C (.bi bi es) ρ st = .ok w st1 := by
  simp only [evX, bind_eq, h1, h2]
theorem x_lens (h1 : evX C e ρ st = .ok x st1) (h2 : biW .lenset [vw x st1] = some w) : evX C (.lens e) ρ st = .ok w st1 := by
  simp only [evX, bind_eq, h1, h2]
theorem x_lrg (h1 : evX C a ρ st = .ok x st1) (h2 : evX C b ρ st1 = .ok y st2) (h3 : rgW x y = some w) : evX C (.lrg a b) ρ st = .ok w st2 := by
  simp only [evX, bind_eq, h1, h2, h3]; rfl
theorem x_lrg0 (h2 : evX C b ρ st = .ok y st2) (h3 : rgW (.dat (.int 0)) y = some w) : evX C (.lrg0 b) ρ st = .ok w st2 := by
  simp only [evX, bind_eq, h2, h3]; rfl
theorem x_isi {T : String} {r : Bool} (h1 : evX C e ρ st = .ok x st1) (h2 : vw x st1 = .dat dx) (h3 : isiD dx T = some r) : evX C (.isi e T) ρ st = .ok (.dat (.bl r)) st1 := by
  simp only [evX, bind_eq, h1, vwM, h2, dat?, lift_some, h3]; rfl
/-- a method that changes its thing -/
theorem x_mtM {m : Mt} {n : Nat} {cl cl' : Cell} (hm : m.muts = true) (h1 : evX C a ρ st = .ok (.ref n) st1) (h2 : st1[n]? = some cl) (h3 : isLst cl = m.wants) (h4 : evXs C es ρ st1 = .ok ws st2) {c2 : Cell} (h5 : st2[n]? = some c2) (h6 : mtC m c2 ws = some (w, cl')) : evX C (.mt m a es) ρ st = .ok w (st2.set n cl') := by
  simp only [evX, hm, if_true, bind_eq, h1, refOf, lift_some]
  have : cellOf n m.wants st1 = .ok () st1 := by simp [cellOf, h2, h3]
  simp only [this, h4, h5, Option.bind_some, h6]
theorem x_mtW {m : Mt} (hm : m.muts = false) (h1 : evX C a ρ st = .ok x st1) (h2 : m.fits (vw x st1) = true) (h4 : evXs C es ρ st1 = .ok ws st2) (h6 : mtW m (vw x st2) ws = some w) : evX C (.mt m a es) ρ st = .ok w st2 := by
  simp only [evX, hm, Bool.false_eq_true, if_false, bind_eq, h1, h2, if_true, h4, vwM, h6]; rfl
theorem c_no : evC C .no ρ st = .ok true st := by simp only [evC]; rfl
theorem c_so {p : Bool} (h : evX C e ρ st = .ok (.dat (.bl p)) st1) : evC C (.so e) ρ st = .ok p st1 := by
  simp only [evC]; exact truthR h
/-! ### walks -/
theorem i_sq (h1 : evX C e ρ st = .ok x st1) (h2 : items (vw x st1) = some ws) : evIt C (.sq e) ρ st = .ok (ws, refOf x) st1 := by
  simp only [evIt, bind_eq, h1, vwM, h2]; rfl
theorem i_r1 {j : Int} (h1 : evX C a ρ st = .ok (.dat (.int j)) st1) (h2 : okR j = true) : evIt C (.r1 a) ρ st = .ok (rangeL 0 j.toNat, none) st1 := by
  simp only [evIt, bind_eq, h1, h2]; rfl
theorem i_r2 {k j : Int} (h0 : evX C a ρ st = .ok (.dat (.int k)) st1) (h1 : evX C b ρ st1 = .ok (.dat (.int j)) st2) (h2 : okR k = true) (h3 : okR j = true) : evIt C (.r2 a b) ρ st = .ok (rangeL k (j - k).toNat, none) st2 := by
  simp only [evIt, bind_eq, h0, h1, h2, h3]; rfl
theorem i_r3 {k j : Int} (h0 : evX C a ρ st = .ok (.dat (.int k)) st1) (h1 : evX C b ρ st1 = .ok (.dat (.int j)) st2) (hc : evX C c ρ st2 = .ok (.dat (.int (-1))) st3) (h2 : okR k = true) (h3 : okR j = true) : evIt C (.r3 a b c) ρ st = .ok (rangeC k (-1) (k - j).toNat, none) st3 := by
  simp only [evIt, bind_eq, h0, h1, hc, h2, h3]; rfl
theorem i_zpT {xs ys : List D} (h1 : evX C a ρ st = .ok (.dat (.tup xs)) st1) (h2 : evX C b ρ st1 = .ok (.dat (.tup ys)) st2) : evIt C (.zp a b) ρ st = .ok (zipW (xs.map .dat) (ys.map .dat), none) st2 := by
  simp only [evIt, bind_eq, h1, h2]; rfl
theorem i_zpL {xs ys : List D} (h1 : evX C a ρ st = .ok (.dat (.lst xs)) st1) (h2 : evX C b ρ st1 = .ok (.dat (.lst ys)) st2) : evIt C (.zp a b) ρ st = .ok (zipW (xs.map .dat) (ys.map .dat), none) st2 := by
  simp only [evIt, bind_eq, h1, h2]; rfl
theorem i_en {xs : List D} (h1 : evX C a ρ st = .ok x st1) (h2 : vw x st1 = .dat (.lst xs)) : evIt C (.en a) ρ st = .ok (enumW 0 (xs.map .dat), refOf x) st1 := by
  simp only [evIt, bind_eq, h1, vwM, h2]; rfl
/-! ### operators by their conditions -/
theorem cW_lt {i j : Int} : cmpW .Lt (.dat (.int i)) (.dat (.int j)) = some (decide (i < j)) := rfl
theorem cW_gt {i j : Int} : cmpW .Gt (.dat (.int i)) (.dat (.int j)) = some (decide (j < i)) := rfl
theorem cW_le {i j : Int} : cmpW .LtE (.dat (.int i)) (.dat (.int j)) = some (!decide (j < i)) := rfl
theorem cW_ge {i j : Int} : cmpW .GtE (.dat (.int i)) (.dat (.int j)) = some (!decide (i < j)) := rfl
theorem okD_r {x y : D} (h : y.depth ≤ 60) : okDepth x y = true := by
  unfold okDepth
  exact Nat.ble_eq_true_of_le (Nat.le_trans (Nat.min_le_right _ _) h)
theorem okD_l {x y : D} (h : x.depth ≤ 60) : okDepth x y = true := by
  unfold okDepth
  exact Nat.ble_eq_true_of_le (Nat.le_trans (Nat.min_le_left _ _) h)
theorem cW_eq {x y : D} (h : okDepth x y = true) : cmpW .Eq (.dat x) (.dat y) = some (eqD x y) := by
  show (if okDepth x y then some (eqD x y) else none) = _
  rw [if_pos h]
theorem cW_ne {x y : D} (h : okDepth x y = true) : cmpW .NotEq (.dat x) (.dat y) = some (!eqD x y) := by
  show (if okDepth x y then some (!eqD x y) else none) = _
  rw [if_pos h]
theorem cW_inS {x y : Str} : cmpW .In (.dat (.str x)) (.dat (.str y)) = some (inStr x y) := rfl
theorem cW_inT {x : D} {ys : List D} (h : (D.depths ys ≤ 60 ∨ x.depth ≤ 60)) : cmpW .In (.dat x) (.dat (.tup ys)) = some (anyEq x ys) := by
  show (if Nat.ble (min (D.depths ys) x.depth) 60 then some (anyEq x ys) else none) = _
  rw [if_pos (Nat.ble_eq_true_of_le (by omega))]
theorem cW_inL {x : D} {ys : List D} (h : (D.depths ys ≤ 60 ∨ x.depth ≤ 60)) : cmpW .In (.dat x) (.dat (.lst ys)) = some (anyEq x ys) := by
  show (if Nat.ble (min (D.depths ys) x.depth) 60 then some (anyEq x ys) else none) = _
  rw [if_pos (Nat.ble_eq_true_of_le (by omega))]
theorem ixT {xs : List D} {i : Int} {j : Nat} {d : D} (h : atN xs.length i = some j) (h2 : xs[j]? = some d) : ixW (.dat (.tup xs)) (.dat (.int i)) = some (.dat d) := by
  show (atN xs.length i).bind (fun j => xs[j]?.map W.dat) = _
  rw [h, Option.bind_some, h2]; rfl
theorem ixL {xs : List D} {i : Int} {j : Nat} {d : D} (h : atN xs.length i = some j) (h2 : xs[j]? = some d) : ixW (.dat (.lst xs)) (.dat (.int i)) = some (.dat d) := by
  show (atN xs.length i).bind (fun j => xs[j]?.map W.dat) = _
  rw [h, Option.bind_some, h2]; rfl
theorem atN_nat {n j : Nat} (h : j < n) : atN n (j : Int) = some j := by
  unfold atN
  rw [if_pos (by omega), if_pos (by omega)]
  rfl
theorem ixS {z : Str} {j : Nat} {c : Nat} (hz : z.length ≤ bigLine) (h : j < z.length) (h2 : z.cps[j]? = some c) : ixW (.dat (.str z)) (.dat (.int (j : Int))) = some (.dat (.str ⟨#[c]⟩)) := by
  show (if z.length ≤ bigLine then (atN z.length j).bind fun j => z.cps[j]?.map fun c => W.dat (.str ⟨#[c]⟩) else none) = _
  rw [if_pos hz, atN_nat h, Option.bind_some, h2]; rfl
theorem lenS {z : Str} (h : z.length ≤ bigLine) : biW .len [.dat (.str z)] = some (.dat (.int z.length)) := by
  show (if z.length ≤ bigLine then _ else none) = _
  rw [if_pos h]
theorem lenT {xs : List D} : biW .len [.dat (.tup xs)] = some (.dat (.int xs.length)) := rfl
theorem lenL {xs : List D} : biW .len [.dat (.lst xs)] = some (.dat (.int xs.length)) := rfl
theorem bools_map {α : Type} (f : α → Bool) : ∀ xs : List α, bools? (xs.map fun x => D.bl (f x)) = some (xs.map f)
  | [] => rfl
  | x :: xs => by
    simp only [List.map_cons, bools?, bools_map f xs]; rfl
theorem allB {α : Type} {f : α → Bool} {xs : List α} : biW .all [.dat (.lst (xs.map fun x => D.bl (f x)))] = some (.dat (.bl (xs.all f))) := by
  show (bools? _).map _ = _
  rw [bools_map]
  simp [List.all_map, Function.comp]
theorem anyB {α : Type} {f : α → Bool} {xs : List α} : biW .any [.dat (.lst (xs.map fun x => D.bl (f x)))] = some (.dat (.bl (xs.any f))) := by
  show (bools? _).map _ = _
  rw [bools_map]
  simp [List.any_map, Function.comp]
theorem lenset_ok {xs : List D} (h : xs.all isLeaf = true) (hl : xs.length ≤ 4000) : biW .lenset [.dat (.tup xs)] = some (.dat (.int (nubD xs).length)) := by
  show (if xs.all isLeaf && Nat.ble xs.length 4000 then _ else none) = _
  rw [if_pos (by rw [h, Nat.ble_eq_true_of_le hl]; rfl)]
/-! ### list comprehensions -/
/-- one turn -/
def lcB (C : Nat → List W → M W) (e : Ex) (p : Pt) (c : Ox) (own : List Nat) (ρ : Env) (w : W) : M (Option D) := do
  let ρ' ← lift (bindP p w (wipeE ρ own))
  match ← evC C c ρ' with
  | true => do
    let d ← lift ∘ dat? =<< evX C e ρ'
    pure (some d)
  | false => pure none
theorem lc_eq {p : Pt} {it : Wk} {o : Ox} {own : List Nat} {n : Option Nat} (h1 : evIt C it ρ st = .ok (ws, n) st1) (h2 : ws.length ≤ bigLine) : evX C (.lc e p it o own) ρ st = (lcGo n st1 (lcB C e p o own ρ) ws [] >>= fun ds => pure (W.dat (.lst ds))) st1 := by
  simp only [evX, bind_eq, h1]
  rw [if_pos h2]
  rfl
theorem lcGo_map {α : Type} {n : Option Nat} {f : W → M (Option D)} {k : α → W} {h : α → Option D} (hs : stays n st st = true) : ∀ (as : List α) (acc : List D), (∀ a ∈ as, f (k a) st = .ok (h a) st) → lcGo n st f (as.map k) acc st = .ok (acc ++ as.filterMap h) st
  | [], acc, _ => by simp [lcGo]
  | a :: as, acc, hf => by
    have h0 := hf a List.mem_cons_self
    have ih := fun acc => lcGo_map (k := k) hs as acc fun b hb => hf b (List.mem_cons_of_mem _ hb)
    simp only [List.map_cons, lcGo, h0, hs, if_true]
    cases q : h a with
    | none => simp [ih, q]
    | some d => simp [ih, q]
theorem x_lcO {α : Type} {as : List α} {k : α → W} {h : α → Option D} {p : Pt} {it : Wk} {o : Ox} {own : List Nat} {n : Option Nat} (h1 : evIt C it ρ st = .ok (as.map k, n) st1) (h2 : as.length ≤ bigLine) (hs : stays n st1 st1 = true) (hb : ∀ a ∈ as, lcB C e p o own ρ (k a) st1 = .ok (h a) st1) : evX C (.lc e p it o own) ρ st = .ok (.dat (.lst (as.filterMap h))) st1 := by
  rw [lc_eq h1 (by simpa using h2), bind_eq, lcGo_map hs as [] hb]
  rfl
theorem x_lc {α : Type} {as : List α} {k : α → W} {g : α → D} {p : Pt} {it : Wk} {own : List Nat} {n : Option Nat} (h1 : evIt C it ρ st = .ok (as.map k, n) st1) (h2 : as.length ≤ bigLine) (hs : stays n st1 st1 = true) (hb : ∀ a ∈ as, ∃ ρ', bindP p (k a) (wipeE ρ own) = some ρ' ∧ evX C e ρ' st1 = .ok (.dat (g a)) st1) : evX C (.lc e p it .no own) ρ st = .ok (.dat (.lst (as.map g))) st1 := by
  have := x_lcO (e := e) (o := .no) (p := p) (own := own) (h := fun a => some (g a)) h1 h2 hs fun a ha => by
    obtain ⟨ρ', e1, e2⟩ := hb a ha
    unfold lcB
    simp only [bind_eq, e1, lift_some, c_no, datR e2]; rfl
  rw [this]
  simp
theorem x_lcf {α : Type} {as : List α} {k : α → W} {g : α → D} {q : α → Bool} {c : Ex} {p : Pt} {it : Wk} {own : List Nat} {n : Option Nat} (h1 : evIt C it ρ st = .ok (as.map k, n) st1) (h2 : as.length ≤ bigLine) (hs : stays n st1 st1 = true) (hb : ∀ a ∈ as, ∃ ρ', bindP p (k a) (wipeE ρ own) = some ρ' ∧ evX C c ρ' st1 = .ok (.dat (.bl (q a))) st1 ∧ (q a = true → evX C e ρ' st1 = .ok (.dat (g a)) st1)) : evX C (.lc e p it (.so c) own) ρ st = .ok (.dat (.lst ((as.filter q).map g))) st1 := by
  have := x_lcO (e := e) (o := .so c) (p := p) (own := own) (h := fun a => if q a then some (g a) else none) h1 h2 hs fun a ha => by
    obtain ⟨ρ', e1, e2, e3⟩ := hb a ha
    unfold lcB
    simp only [bind_eq, e1, lift_some, c_so e2]
    cases z : q a with
    | true => simp only [bind_eq, datR (e3 z)]; rfl
    | false => rfl
  rw [this]
  congr 3
  clear this h1 h2 hb
  induction as with
  | nil => rfl
  | cons a as ih =>
    cases z : q a <;> simp [z, ih]
/-- a comprehension whose turns change cells -/
theorem x_lcI {I : List W → List D → Store → Prop} {p : Pt} {it : Wk} {o : Ox} {own : List Nat} (h1 : evIt C it ρ st = .ok (ws, none) st1) (h2 : ws.length ≤ bigLine) (h0 : I ws [] st1) (hb : ∀ w ws acc st, I (w :: ws) acc st → ∃ r st', lcB C e p o own ρ w st = .ok r st' ∧ I ws (acc ++ r.toList) st') : ∃ ds st', evX C (.lc e p it o own) ρ st = .ok (.dat (.lst ds)) st' ∧ I [] ds st' := by
  rw [lc_eq h1 h2]
  suffices h : ∀ (ws : List W) (acc : List D) (st : Store), I ws acc st → ∃ ds st', lcGo none st1 (lcB C e p o own ρ) ws acc st = .ok ds st' ∧ I [] ds st' by
    obtain ⟨ds, st', e1, e2⟩ := h ws [] st1 h0
    exact ⟨ds, st', by rw [bind_eq, e1]; rfl, e2⟩
  intro ws
  induction ws with
  | nil => exact fun acc st h => ⟨acc, st, rfl, h⟩
  | cons w ws ih =>
    intro acc st h
    obtain ⟨r, st', e1, e2⟩ := hb w ws acc st h
    simp only [lcGo, e1, stays, if_true]
    cases r with
    | none => exact ih acc st' (by simpa using e2)
    | some d => exact ih _ st' (by simpa using e2)
end
theorem sameDs_rf (ds : List D) : sameDs ds ds = true := by
  suffices h : (∀ d, sameD d d = true) ∧ ∀ ds, sameDs ds ds = true from h.2 ds
  have key : ∀ n, (∀ d : D, sizeOf d < n → sameD d d = true) ∧ ∀ ds : List D, sizeOf ds < n → sameDs ds ds = true := by
    intro n
    induction n with
    | zero => exact ⟨fun _ h => absurd h (by omega), fun _ h => absurd h (by omega)⟩
    | succ n ih =>
      refine ⟨fun d h => ?_, fun ds h => ?_⟩
      · cases d with
        | tup xs => simp only [sameD]; exact ih.2 xs (by simp at h; omega)
        | lst xs => simp only [sameD]; exact ih.2 xs (by simp at h; omega)
        | _ => simp [sameD]
      · cases ds with
        | nil => rfl
        | cons d ds =>
          simp only [sameDs, Bool.and_eq_true]
          exact ⟨ih.1 d (by simp at h; omega), ih.2 ds (by simp at h; omega)⟩
  exact ⟨fun d => (key _).1 d (Nat.lt_succ_self _), fun ds => (key _).2 ds (Nat.lt_succ_self _)⟩
theorem stays_refl {st : Store} {n : Nat} {ds : List D} (h : st[n]? = some (.lst ds)) : stays (some n) st st = true := by
  simp only [stays, h, sameCell, sameDs_rf]
/-! ### statements -/
def _root_.Ev.Ss.app : Ss → Ss → Ss
  | .nil, r => r
  | .cons s a, r => .cons s (a.app r)
/-- what is wanted of a body's end -/
def Go (P : Res Fl → Prop) (r : Res Fl) : Prop := P r
section
variable {C : Nat → List W → M W} {F : Nat} {ρ ρ' : Env} {st st1 st2 st3 : Store} {c e i o : Ex} {p : Pt} {it : Wk} {x y z w : W} {ws : List W} {dx dy d : D} {r sa sb : Ss} {P : Res Fl → Prop}
theorem Ss_app (a r : Ss) : ∀ (ρ : Env) (st : Store), evSs C F (a.app r) ρ st = match evSs C F a ρ st with
    | .ok (.nx ρ') st' => evSs C F r ρ' st'
    | .ok f st' => .ok f st'
    | .exn x st' => .exn x st'
    | .stuck => .stuck := by
  induction a using Ss.rec (motive_1 := fun _ => True) with
  | nil => intro ρ st; simp [Ss.app, evSs]
  | cons s a _ ih =>
    intro ρ st
    simp only [Ss.app, evSs, bind_eq]
    cases q : evS C F s ρ st with
    | ok f st1 =>
      cases f with
      | nx ρ' => exact ih ρ' st1
      | _ => rfl
    | exn x st1 => rfl
    | stuck => rfl
  | _ => trivial
theorem ss_nil (h : P (.ok (.nx ρ) st)) : Go P (evSs C F .nil ρ st) := by
  unfold Go; simp only [evSs]; exact h
theorem ss_asg (h1 : evX C e ρ st = .ok w st1) (h2 : bindP p w ρ = some ρ') (h3 : Go P (evSs C F r ρ' st1)) : Go P (evSs C F (.cons (.asg p e) r) ρ st) := by
  unfold Go at h3 ⊢
  simp only [evSs, evS, bind_eq, h1, h2, lift_some]
  exact h3
theorem ss_aug {op : Operator} {n : Nat} (h0 : ρ[n]?.join = some x) (h1 : evX C e ρ st = .ok y st1) (h2 : augM op x (vw y st1) st1 = .ok w st2) (h3 : Go P (evSs C F r (ρ.set n (some w)) st2)) : Go P (evSs C F (.cons (.aug op n e) r) ρ st) := by
  unfold Go at h3 ⊢
  simp only [evSs, evS, bind_eq, h0, lift_some, h1, vwM, h2]
  exact h3
theorem ss_ex (h1 : evX C e ρ st = .ok w st1) (h3 : Go P (evSs C F r ρ st1)) : Go P (evSs C F (.cons (.ex e) r) ρ st) := by
  unfold Go at h3 ⊢
  simp only [evSs, evS, bind_eq, h1]
  exact h3
theorem ss_exX {ex : Exn} (h1 : evX C e ρ st = .exn ex st1) (h3 : P (.exn ex st1)) : Go P (evSs C F (.cons (.ex e) r) ρ st) := by
  unfold Go
  simp only [evSs, evS, bind_eq, h1]
  exact h3
theorem ss_sst {n : Nat} {cl cl' : Cell} {di dw : D} (h1 : evX C e ρ st = .ok (.dat dw) st1) (h2 : evX C o ρ st1 = .ok (.ref n) st2) (h3 : evX C i ρ st2 = .ok (.dat di) st3) (h4 : st3[n]? = some cl) (h5 : setC cl di dw = some cl') (h6 : Go P (evSs C F r ρ (st3.set n cl'))) : Go P (evSs C F (.cons (.sst o i e) r) ρ st) := by
  unfold Go at h6 ⊢
  simp only [evSs, evS, bind_eq, h1, h2, h3, evPut, refOf, dat?, lift_some, h4, Option.bind_some, h5]
  exact h6
theorem ss_ife {q : Bool} (h1 : evX C c ρ st = .ok (.dat (.bl q)) st1) (ht : q = true → Go P (evSs C F (sa.app r) ρ st1)) (hf : q = false → Go P (evSs C F (sb.app r) ρ st1)) : Go P (evSs C F (.cons (.ife c sa sb) r) ρ st) := by
  unfold Go at ht hf ⊢
  simp only [Ss_app] at ht hf
  simp only [evSs, evS, bind_eq, truthR h1]
  cases q with
  | true =>
    have := ht rfl
    dsimp only
    cases z : evSs C F sa ρ st1 with
    | ok f st' => rw [z] at this; cases f <;> exact this
    | exn _ _ => rw [z] at this; exact this
    | stuck => rw [z] at this; exact this
  | false =>
    have := hf rfl
    dsimp only
    cases z : evSs C F sb ρ st1 with
    | ok f st' => rw [z] at this; cases f <;> exact this
    | exn _ _ => rw [z] at this; exact this
    | stuck => rw [z] at this; exact this
theorem ss_ifT {q : Bool} (h1 : evX C c ρ st = .ok (.dat (.bl q)) st1) (hq : q = true) (ht : Go P (evSs C F (sa.app r) ρ st1)) : Go P (evSs C F (.cons (.ife c sa sb) r) ρ st) :=
  ss_ife h1 (fun _ => ht) fun h => by rw [hq] at h; cases h
theorem ss_ifF {q : Bool} (h1 : evX C c ρ st = .ok (.dat (.bl q)) st1) (hq : q = false) (ht : Go P (evSs C F (sb.app r) ρ st1)) : Go P (evSs C F (.cons (.ife c sa sb) r) ρ st) :=
  ss_ife h1 (fun h => by rw [hq] at h; cases h) fun _ => ht
theorem ss_ret (h1 : evX C e ρ st = .ok w st1) (h : P (.ok (.ret w) st1)) : Go P (evSs C F (.cons (.ret e) r) ρ st) := by
  unfold Go
  simp only [evSs, evS, bind_eq, h1]
  exact h
theorem ss_retn (h : P (.ok (.ret (.dat .non)) st)) : Go P (evSs C F (.cons .retn r) ρ st) := by
  unfold Go
  simp only [evSs, evS, bind_eq]
  exact h
theorem ss_brk (h : P (.ok (.brk ρ) st)) : Go P (evSs C F (.cons .brk r) ρ st) := by
  unfold Go
  simp only [evSs, evS, bind_eq]
  exact h
theorem ss_cnt (h : P (.ok (.ct ρ) st)) : Go P (evSs C F (.cons .cnt r) ρ st) := by
  unfold Go
  simp only [evSs, evS, bind_eq]
  exact h
theorem ss_pas (h : Go P (evSs C F r ρ st)) : Go P (evSs C F (.cons .pas r) ρ st) := by
  unfold Go at h ⊢
  simp only [evSs, evS, bind_eq]
  exact h
/-! ### for -/
def forB (C : Nat → List W → M W) (F : Nat) (p : Pt) (b : Ss) (w : W) (ρ : Env) : M Fl := do
  let ρ' ← lift (bindP p w ρ)
  evSs C F b ρ'
theorem forB_go {b : Ss} {Q : Res Fl → Prop} (h : bindP p w ρ = some ρ') (g : Go Q (evSs C F b ρ' st)) : Q (forB C F p b w ρ st) := by
  unfold forB
  simp only [bind_eq, h, lift_some]
  exact g
/-- what a turn may end with -/
inductive ForEnd (Q : Fl → Store → Prop) (I : Env → Store → Prop) (n : Option Nat) (st0 : Store) : Res Fl → Prop where
  | nx {ρ : Env} {st : Store} (h : I ρ st) (s : stays n st0 st = true) : ForEnd Q I n st0 (.ok (.nx ρ) st)
  | ct {ρ : Env} {st : Store} (h : I ρ st) (s : stays n st0 st = true) : ForEnd Q I n st0 (.ok (.ct ρ) st)
  | brk {ρ : Env} {st : Store} (h : Q (.nx ρ) st) : ForEnd Q I n st0 (.ok (.brk ρ) st)
  | ret {w : W} {st : Store} (h : Q (.ret w) st) : ForEnd Q I n st0 (.ok (.ret w) st)
theorem for_out {α : Type} {b : Ss} {n : Option Nat} {st0 : Store} {k : α → W} {I : List α → Env → Store → Prop} {Q : Fl → Store → Prop} (h0 : ∀ ρ st, I [] ρ st → Q (.nx ρ) st) (hb : ∀ a as ρ st, I (a :: as) ρ st → ∃ ρ', bindP p (k a) ρ = some ρ' ∧ Go (ForEnd Q (I as) n st0) (evSs C F b ρ' st)) : ∀ (as : List α) (ρ : Env) (st : Store), I as ρ st → ∃ fl st', forGo n st0 (forB C F p b) (as.map k) ρ st = .ok fl st' ∧ Q fl st'
  | [], ρ, st, h => ⟨_, _, rfl, h0 ρ st h⟩
  | a :: as, ρ, st, h => by
    obtain ⟨ρ', e1, e2⟩ := hb a as ρ st h
    have e3 : forB C F p b (k a) ρ st = evSs C F b ρ' st := by unfold forB; simp only [bind_eq, e1, lift_some]
    simp only [List.map_cons, forGo, e3]
    unfold Go at e2
    generalize evSs C F b ρ' st = res at e2
    cases e2 with
    | nx h s => simp only [s, if_true]; exact for_out h0 hb as _ _ h
    | ct h s => simp only [s, if_true]; exact for_out h0 hb as _ _ h
    | brk h => exact ⟨_, _, rfl, h⟩
    | ret h => exact ⟨_, _, rfl, h⟩
theorem ss_for {b : Ss} {n : Option Nat} {Q : Fl → Store → Prop} (h1 : evIt C it ρ st = .ok (ws, n) st1) (h2 : ∃ fl st', forGo n st1 (forB C F p b) ws ρ st1 = .ok fl st' ∧ Q fl st') (hn : ∀ ρ' st', Q (.nx ρ') st' → Go P (evSs C F r ρ' st')) (hr : ∀ w st', Q (.ret w) st' → P (.ok (.ret w) st')) (hq : ∀ fl st', Q fl st' → (∃ ρ', fl = .nx ρ') ∨ ∃ w, fl = .ret w) : Go P (evSs C F (.cons (.for p it b) r) ρ st) := by
  obtain ⟨fl, st', e1, e2⟩ := h2
  unfold Go
  simp only [evSs, evS, bind_eq, h1]
  have e3 : forGo n st1 (fun w ρ => do
      let ρ' ← lift (bindP p w ρ)
      evSs C F b ρ') ws ρ st1 = .ok fl st' := e1
  rw [e3]
  rcases hq fl st' e2 with ⟨ρ', rfl⟩ | ⟨w, rfl⟩
  · exact hn ρ' st' e2
  · exact hr w st' e2
/-- a for whose turns all go on -/
theorem ss_forI {α : Type} {as : List α} {b : Ss} {n : Option Nat} {k : α → W} {I : List α → Env → Store → Prop} (h1 : evIt C it ρ st = .ok (as.map k, n) st1) (hi : I as ρ st1) (hb : ∀ a as ρ st, I (a :: as) ρ st → ∃ ρ', bindP p (k a) ρ = some ρ' ∧ Go (ForEnd (fun _ _ => False) (I as) n st1) (evSs C F b ρ' st)) (hn : ∀ ρ' st', I [] ρ' st' → Go P (evSs C F r ρ' st')) : Go P (evSs C F (.cons (.for p it b) r) ρ st) := by
  refine ss_for (Q := fun fl st => ∃ ρ, fl = .nx ρ ∧ I [] ρ st) h1 (for_out (I := I) (fun ρ st h => ⟨ρ, rfl, h⟩) (fun a as ρ st h => ?_) as ρ st1 hi) (fun ρ' st' h => ?_) (fun w st' h => ?_) (fun fl st' h => ?_)
  · obtain ⟨ρ', e1, e2⟩ := hb a as ρ st h
    refine ⟨ρ', e1, ?_⟩
    unfold Go at e2 ⊢
    generalize evSs C F b ρ' st = res at e2
    cases e2 with
    | nx h s => exact .nx h s
    | ct h s => exact .ct h s
    | brk h => exact h.elim
    | ret h => exact h.elim
  · obtain ⟨ρ, e1, e2⟩ := h
    cases e1
    exact hn _ _ e2
  · obtain ⟨ρ, e1, _⟩ := h
    cases e1
  · obtain ⟨ρ, e1, _⟩ := h
    exact .inl ⟨ρ, e1⟩
/-! ### while -/
inductive WhEnd (Q : Fl → Store → Prop) (I : Env → Store → Prop) : Res Fl → Prop where
  | nx {ρ : Env} {st : Store} (h : I ρ st) : WhEnd Q I (.ok (.nx ρ) st)
  | ct {ρ : Env} {st : Store} (h : I ρ st) : WhEnd Q I (.ok (.ct ρ) st)
  | brk {ρ : Env} {st : Store} (h : Q (.nx ρ) st) : WhEnd Q I (.ok (.brk ρ) st)
  | ret {w : W} {st : Store} (h : Q (.ret w) st) : WhEnd Q I (.ok (.ret w) st)
theorem wh_out {b : Ss} {I : Nat → Env → Store → Prop} {Q : Fl → Store → Prop} (hb : ∀ n ρ st, I n ρ st → ∃ q st1, evX C c ρ st = .ok (.dat (.bl q)) st1 ∧ (q = false → Q (.nx ρ) st1) ∧ (q = true → Go (WhEnd Q fun ρ st => ∃ m, m < n ∧ I m ρ st) (evSs C F b ρ st1))) : ∀ (G n : Nat) (ρ : Env) (st : Store), n < G → I n ρ st → ∃ fl st', whGo (evX C c) (evSs C F b) G ρ st = .ok fl st' ∧ Q fl st'
  | 0, n, ρ, st, h, _ => absurd h (by omega)
  | G + 1, n, ρ, st, h, hi => by
    obtain ⟨q, st1, e1, e2, e3⟩ := hb n ρ st hi
    simp only [whGo, bind_eq, truthR e1]
    cases q with
    | false => exact ⟨_, _, rfl, e2 rfl⟩
    | true =>
      have e3 := e3 rfl
      unfold Go at e3
      simp only [bind_eq]
      generalize evSs C F b ρ st1 = res at e3 ⊢
      cases e3 with
      | nx h' => obtain ⟨m, hm, h'⟩ := h'; exact wh_out hb G m _ _ (by omega) h'
      | ct h' => obtain ⟨m, hm, h'⟩ := h'; exact wh_out hb G m _ _ (by omega) h'
      | brk h' => exact ⟨_, _, rfl, h'⟩
      | ret h' => exact ⟨_, _, rfl, h'⟩
theorem ss_wh {b : Ss} {Q : Fl → Store → Prop} (h2 : ∃ fl st', whGo (evX C c) (evSs C F b) F ρ st = .ok fl st' ∧ Q fl st') (hn : ∀ ρ' st', Q (.nx ρ') st' → Go P (evSs C F r ρ' st')) (hr : ∀ w st', Q (.ret w) st' → P (.ok (.ret w) st')) (hq : ∀ fl st', Q fl st' → (∃ ρ', fl = .nx ρ') ∨ ∃ w, fl = .ret w) : Go P (evSs C F (.cons (.wh c b) r) ρ st) := by
  obtain ⟨fl, st', e1, e2⟩ := h2
  unfold Go
  simp only [evSs, evS, bind_eq, e1]
  rcases hq fl st' e2 with ⟨ρ', rfl⟩ | ⟨w, rfl⟩
  · exact hn ρ' st' e2
  · exact hr w st' e2
end
/-! ### calls -/
/-- what is wanted of a call -/
def Cl (P : Res W → Prop) (r : Res W) : Prop := P r
theorem call_fd {T : Nat → Option FD} {F k f : Nat} {fd : FD} {ws : List W} {st : Store} {P : Res W → Prop} (hT : T f = some fd) (hl : ws.length = fd.np) (h : Go (fun r => P (leave fd.mkr st.length r)) (evSs (callF T F k) F fd.body (startE fd.ns ws) st)) : Cl P (callF T F (k + 1) f ws st) := by
  unfold Cl
  unfold Go at h
  simp only [callF, hT, hl, if_true]
  exact h
theorem leave_eq {d d' : D} {st : Store} (h : d = d') : leave false st.length (.ok (.ret (.dat d)) st) = .ok (.dat d') st := by
  subst h; simp [leave, outW, fin, fin1]
/-- with own cells behind -/
theorem leave_loc {d d' : D} {st l : Store} (h : d = d') : leave false st.length (.ok (.ret (.dat d)) (st ++ l)) = .ok (.dat d') st := by
  subst h; simp [leave, outW, fin, fin1]
theorem ixS0 {z : Str} {c : Nat} (hz : z.length ≤ bigLine) (h2 : z.cps[0]? = some c) : ixW (.dat (.str z)) (.dat (.int 0)) = some (.dat (.str ⟨#[c]⟩)) := by
  refine ixS (j := 0) hz ?_ h2
  obtain ⟨h, _⟩ := Array.getElem?_eq_some_iff.mp h2
  exact h
theorem eqD_str (a b : Str) : eqD (.str a) (.str b) = (a == b) := by simp [eqD]
theorem atN_lt {n : Nat} {i : Int} {j : Nat} (h0 : i = (j : Int)) (h : j < n) : atN n i = some j := by subst h0; exact atN_nat h
theorem ixT0 {a : D} {r : List D} : ixW (.dat (.tup (a :: r))) (.dat (.int 0)) = some (.dat a) := ixT (atN_lt (j := 0) rfl (by simp)) rfl
theorem ixT1 {a b : D} {r : List D} : ixW (.dat (.tup (a :: b :: r))) (.dat (.int 1)) = some (.dat b) := ixT (atN_lt (j := 1) rfl (by simp)) rfl
theorem ixT2 {a b c : D} {r : List D} : ixW (.dat (.tup (a :: b :: c :: r))) (.dat (.int 2)) = some (.dat c) := ixT (atN_lt (j := 2) rfl (by simp)) rfl
theorem ixT3 {a b c d : D} {r : List D} : ixW (.dat (.tup (a :: b :: c :: d :: r))) (.dat (.int 3)) = some (.dat d) := ixT (atN_lt (j := 3) rfl (by simp)) rfl
theorem ixL0 {a : D} {r : List D} : ixW (.dat (.lst (a :: r))) (.dat (.int 0)) = some (.dat a) := ixL (atN_lt (j := 0) rfl (by simp)) rfl
theorem tnf : ¬ (true = false) := fun h => Bool.noConfusion h
theorem fnt : ¬ (false = true) := fun h => Bool.noConfusion h
theorem imp_x {p : Prop} {C : Nat → List W → M W} {e : Ex} {ρ : Env} {st : Store} {r : Res W} (h : evX C e ρ st = r) : p → evX C e ρ st = r := fun _ => h
theorem intI {i : Int} : biW .int [.dat (.int i)] = some (.dat (.int i)) := rfl
theorem intB {b : Bool} : biW .int [.dat (.bl b)] = some (.dat (.int (if b then 1 else 0))) := rfl
theorem absI {i : Int} : biW .abs [.dat (.int i)] = some (.dat (.int (if i < 0 then -i else i))) := rfl
theorem listT {xs : List D} : biW .list [.dat (.tup xs)] = some (.dat (.lst xs)) := rfl
theorem listL {xs : List D} : biW .list [.dat (.lst xs)] = some (.dat (.lst xs)) := rfl
theorem listScr {ns : List Int} : biW .list [.scr ns] = some (.dat (.lst (ns.map .int))) := rfl
theorem tupT {xs : List D} : biW .tuple [.dat (.tup xs)] = some (.dat (.tup xs)) := rfl
theorem tupL {xs : List D} : biW .tuple [.dat (.lst xs)] = some (.dat (.tup xs)) := rfl
theorem minI {i j : Int} : biW .min [.dat (.int i), .dat (.int j)] = some (.dat (.int (if j < i then j else i))) := rfl
theorem maxI {i j : Int} : biW .max [.dat (.int i), .dat (.int j)] = some (.dat (.int (if j > i then j else i))) := rfl
theorem strS {z : Str} : biW .str [.dat (.str z)] = some (.dat (.str z)) := rfl
theorem strI {i : Int} (h : i.natAbs < 10 ^ 100) : biW .str [.dat (.int i)] = some (.dat (.str (Str.ofString (toString i)))) := by
  show (if i.natAbs < 10 ^ 100 then _ else none) = _
  rw [if_pos h]
theorem boolB {b : Bool} : biW .bool [.dat (.bl b)] = some (.dat (.bl b)) := rfl
theorem di_nil {C : Nat → List W → M W} {ρ : Env} {st : Store} : evDi C .nil ρ st = .ok [] st := by simp only [evDi]; rfl
theorem di_cons {C : Nat → List W → M W} {ρ : Env} {st st1 st2 st3 : Store} {k v : Ex} {r : Kvs} {a b : D} {kvs : List (D × D)} (h1 : evX C k ρ st = .ok (.dat a) st1) (h2 : evX C v ρ st1 = .ok (.dat b) st2) (h3 : evDi C r ρ st2 = .ok kvs st3) (h4 : isLeaf a = true) : evDi C (.cons k v r) ρ st = .ok ((a, b) :: kvs) st3 := by
  simp only [evDi, bind_eq, datR h1, datR h2, h3, h4]; rfl
theorem x_dic {C : Nat → List W → M W} {ρ : Env} {st st1 : Store} {ps : Kvs} {kvs : List (D × D)} (h : evDi C ps ρ st = .ok kvs st1) : evX C (.dic ps) ρ st = .ok (.fdi false (kvs.foldl (fun acc p => putKey acc p.1 p.2) [])) st1 := by
  simp only [evX, bind_eq, h]; rfl
theorem lcB_no {C : Nat → List W → M W} {e : Ex} {p : Pt} {own : List Nat} {ρ ρ' : Env} {w : W} {st st1 : Store} {d : D} (h : bindP p w (wipeE ρ own) = some ρ') (h2 : evX C e ρ' st = .ok (.dat d) st1) : lcB C e p .no own ρ w st = .ok (some d) st1 := by
  unfold lcB
  simp only [bind_eq, h, lift_some, c_no, datR h2]; rfl
theorem lcB_so {C : Nat → List W → M W} {e c : Ex} {p : Pt} {own : List Nat} {ρ ρ' : Env} {w : W} {st st1 st2 : Store} {d : D} {q : Bool} (h : bindP p w (wipeE ρ own) = some ρ') (h1 : evX C c ρ' st = .ok (.dat (.bl q)) st1) (h2 : q = true → evX C e ρ' st1 = .ok (.dat d) st2) (h3 : q = false → st2 = st1) : lcB C e p (.so c) own ρ w st = .ok (if q then some d else none) st2 := by
  unfold lcB
  simp only [bind_eq, h, lift_some, c_so h1]
  cases q with
  | true => simp only [bind_eq, datR (h2 rfl)]; rfl
  | false => rw [h3 rfl]; rfl
theorem upS {z : Str} (h : z.length ≤ 5592405) : mtW .upper (.dat (.str z)) [] = some (.dat (.str (Txt.upper z))) := by
  show (if z.length ≤ 5592405 then _ else none) = _
  rw [if_pos h]
theorem cW_is {b c : Bool} : cmpW .Is (.dat (.bl b)) (.dat (.bl c)) = some (b == c) := rfl
theorem cW_isn {b c : Bool} : cmpW .IsNot (.dat (.bl b)) (.dat (.bl c)) = some (!(b == c)) := rfl
theorem cW_isN {d : D} : cmpW .Is (.dat d) (.dat .non) = some d.isNon := rfl
theorem cW_isnN {d : D} : cmpW .IsNot (.dat d) (.dat .non) = some (!d.isNon) := rfl
theorem biW_sorted (xs : List D) : biW .sorted [.dat (.lst xs)] = if alikeAllD xs && sortOk xs && Nat.ble (D.depths xs) 50 then some (.dat (.lst (sortD xs))) else none := rfl
theorem biW_sortedF (t : Bool) (kvs : List (D × D)) : biW .sorted [.fdi t kvs] = if alikeAllD (kvs.map (·.1)) && sortOk (kvs.map (·.1)) && Nat.ble (D.depths (kvs.map (·.1))) 50 then some (.dat (.lst (sortD (kvs.map (·.1))))) else none := rfl
end Ev.W0

/-! EvY: printed by gen_y.py: the rules of EvW for aliases that unification does not unfold. -/
namespace Ev
open PySem W0
@[irreducible] def eX := @evX
theorem eX_eq : @eX = @evX := by unfold eX; rfl
@[irreducible] def eXs := @evXs
theorem eXs_eq : @eXs = @evXs := by unfold eXs; rfl
@[irreducible] def eC := @evC
theorem eC_eq : @eC = @evC := by unfold eC; rfl
@[irreducible] def eO := @evO
theorem eO_eq : @eO = @evO := by unfold eO; rfl
@[irreducible] def eI := @evIt
theorem eI_eq : @eI = @evIt := by unfold eI; rfl
@[irreducible] def eDi := @evDi
theorem eDi_eq : @eDi = @evDi := by unfold eDi; rfl
@[irreducible] def eS := @evS
theorem eS_eq : @eS = @evS := by unfold eS; rfl
@[irreducible] def eSs := @evSs
theorem eSs_eq : @eSs = @evSs := by unfold eSs; rfl
@[irreducible] def cF := @callF
theorem cF_eq : @cF = @callF := by unfold cF; rfl
@[irreducible] def bW := @biW
theorem bW_eq : @bW = @biW := by unfold bW; rfl
@[irreducible] def mW := @mtW
theorem mW_eq : @mW = @mtW := by unfold mW; rfl
section
variable {C : Nat → List W → M W} {F : Nat} {ρ ρ' : Env} {st st1 st2 st3 st4 : Store} {a b c e i : Ex} {es : Exs} {x y z w : W} {ws : List W} {dx dy d : D}
theorem x_v {n : Nat} (h : ρ[n]?.join = some w) : eX C (.v n) ρ st = .ok w st := by
  simp only [eX_eq, eXs_eq, eC_eq, eO_eq, eI_eq, eDi_eq, eS_eq, eSs_eq, cF_eq, bW_eq, mW_eq] at *
  exact W0.x_v h
theorem x_c : eX C (.c d) ρ st = .ok (.dat d) st := by
  simp only [eX_eq, eXs_eq, eC_eq, eO_eq, eI_eq, eDi_eq, eS_eq, eSs_eq, cF_eq, bW_eq, mW_eq] at *
  exact W0.x_c 
theorem x_g {n : Str} : eX C (.g n d) ρ st = .ok (.dat d) st := by
  simp only [eX_eq, eXs_eq, eC_eq, eO_eq, eI_eq, eDi_eq, eS_eq, eSs_eq, cF_eq, bW_eq, mW_eq] at *
  exact W0.x_g 
theorem x_gd {n : Str} {kvs : List (D × D)} : eX C (.gd n kvs) ρ st = .ok (.fdi false kvs) st := by
  simp only [eX_eq, eXs_eq, eC_eq, eO_eq, eI_eq, eDi_eq, eS_eq, eSs_eq, cF_eq, bW_eq, mW_eq] at *
  exact W0.x_gd 
theorem xs_nil : eXs C .nil ρ st = .ok [] st := by
  simp only [eX_eq, eXs_eq, eC_eq, eO_eq, eI_eq, eDi_eq, eS_eq, eSs_eq, cF_eq, bW_eq, mW_eq] at *
  exact W0.xs_nil 
theorem xs_cons (h : eX C e ρ st = .ok w st1) (h2 : eXs C es ρ st1 = .ok ws st2) : eXs C (.cons e es) ρ st = .ok (w :: ws) st2 := by
  simp only [eX_eq, eXs_eq, eC_eq, eO_eq, eI_eq, eDi_eq, eS_eq, eSs_eq, cF_eq, bW_eq, mW_eq] at *
  exact W0.xs_cons h h2
theorem x_tup (h : eXs C es ρ st = .ok ws st1) (hm : mkTup ws = w) : eX C (.tup es) ρ st = .ok w st1 := by
  simp only [eX_eq, eXs_eq, eC_eq, eO_eq, eI_eq, eDi_eq, eS_eq, eSs_eq, cF_eq, bW_eq, mW_eq] at *
  exact W0.x_tup h hm
theorem x_lst {ds : List D} (h : eXs C es ρ st = .ok ws st1) (hm : dats? ws = some ds) : eX C (.lst es) ρ st = .ok (.dat (.lst ds)) st1 := by
  simp only [eX_eq, eXs_eq, eC_eq, eO_eq, eI_eq, eDi_eq, eS_eq, eSs_eq, cF_eq, bW_eq, mW_eq] at *
  exact W0.x_lst h hm
theorem x_nl {n : Cell} (h : eX C e ρ st = .ok w st1) (hm : toCell w = some n) : eX C (.nl e) ρ st = .ok (.ref st1.length) (st1 ++ [n]) := by
  simp only [eX_eq, eXs_eq, eC_eq, eO_eq, eI_eq, eDi_eq, eS_eq, eSs_eq, cF_eq, bW_eq, mW_eq] at *
  exact W0.x_nl h hm
theorem x_ndt : eX C .ndt ρ st = .ok (.ref st.length) (st ++ [.dic true []]) := by
  simp only [eX_eq, eXs_eq, eC_eq, eO_eq, eI_eq, eDi_eq, eS_eq, eSs_eq, cF_eq, bW_eq, mW_eq] at *
  exact W0.x_ndt 
theorem x_bin {op : Operator} (h1 : eX C a ρ st = .ok x st1) (h2 : eX C b ρ st1 = .ok y st2) (h3 : vw x st2 = .dat dx) (h4 : vw y st2 = .dat dy) (h5 : binD op dx dy = some d) : eX C (.bin op a b) ρ st = .ok (.dat d) st2 := by
  simp only [eX_eq, eXs_eq, eC_eq, eO_eq, eI_eq, eDi_eq, eS_eq, eSs_eq, cF_eq, bW_eq, mW_eq] at *
  exact W0.x_bin h1 h2 h3 h4 h5
theorem x_neg {j : Int} (h1 : eX C a ρ st = .ok (.dat (.int j)) st1) : eX C (.neg a) ρ st = .ok (.dat (.int (-j))) st1 := by
  simp only [eX_eq, eXs_eq, eC_eq, eO_eq, eI_eq, eDi_eq, eS_eq, eSs_eq, cF_eq, bW_eq, mW_eq] at *
  exact W0.x_neg h1
theorem x_nt {p : Bool} (h : eX C a ρ st = .ok (.dat (.bl p)) st1) : eX C (.nt a) ρ st = .ok (.dat (.bl (!p))) st1 := by
  simp only [eX_eq, eXs_eq, eC_eq, eO_eq, eI_eq, eDi_eq, eS_eq, eSs_eq, cF_eq, bW_eq, mW_eq] at *
  exact W0.x_nt h
theorem x_and {p q : Bool} (h : eX C a ρ st = .ok (.dat (.bl p)) st1) (h2 : p = true → eX C b ρ st1 = .ok (.dat (.bl q)) st1) : eX C (.and a b) ρ st = .ok (.dat (.bl (p && q))) st1 := by
  simp only [eX_eq, eXs_eq, eC_eq, eO_eq, eI_eq, eDi_eq, eS_eq, eSs_eq, cF_eq, bW_eq, mW_eq] at *
  exact W0.x_and h h2
theorem x_or {p q : Bool} (h : eX C a ρ st = .ok (.dat (.bl p)) st1) (h2 : p = false → eX C b ρ st1 = .ok (.dat (.bl q)) st1) : eX C (.or a b) ρ st = .ok (.dat (.bl (p || q))) st1 := by
  simp only [eX_eq, eXs_eq, eC_eq, eO_eq, eI_eq, eDi_eq, eS_eq, eSs_eq, cF_eq, bW_eq, mW_eq] at *
  exact W0.x_or h h2
theorem x_andF {p : Bool} (h : eX C a ρ st = .ok (.dat (.bl p)) st1) (hp : p = false) : eX C (.and a b) ρ st = .ok (.dat (.bl false)) st1 := by
  simp only [eX_eq, eXs_eq, eC_eq, eO_eq, eI_eq, eDi_eq, eS_eq, eSs_eq, cF_eq, bW_eq, mW_eq] at *
  exact W0.x_andF h hp
theorem x_andT {p : Bool} {r : Res W} (h : eX C a ρ st = .ok (.dat (.bl p)) st1) (hp : p = true) (h2 : eX C b ρ st1 = r) : eX C (.and a b) ρ st = r := by
  simp only [eX_eq, eXs_eq, eC_eq, eO_eq, eI_eq, eDi_eq, eS_eq, eSs_eq, cF_eq, bW_eq, mW_eq] at *
  exact W0.x_andT h hp h2
theorem x_orT {p : Bool} (h : eX C a ρ st = .ok (.dat (.bl p)) st1) (hp : p = true) : eX C (.or a b) ρ st = .ok (.dat (.bl true)) st1 := by
  simp only [eX_eq, eXs_eq, eC_eq, eO_eq, eI_eq, eDi_eq, eS_eq, eSs_eq, cF_eq, bW_eq, mW_eq] at *
  exact W0.x_orT h hp
theorem x_orF {p : Bool} {r : Res W} (h : eX C a ρ st = .ok (.dat (.bl p)) st1) (hp : p = false) (h2 : eX C b ρ st1 = r) : eX C (.or a b) ρ st = r := by
  simp only [eX_eq, eXs_eq, eC_eq, eO_eq, eI_eq, eDi_eq, eS_eq, eSs_eq, cF_eq, bW_eq, mW_eq] at *
  exact W0.x_orF h hp h2
theorem x_cmp2F {op op' : CmpOp} {r : Bool} (h1 : eX C a ρ st = .ok x st1) (h2 : eX C b ρ st1 = .ok y st2) (h3 : cmpW op (vw x st2) (vw y st2) = some r) (hr : r = false) : eX C (.cmp2 op op' a b c) ρ st = .ok (.dat (.bl false)) st2 := by
  simp only [eX_eq, eXs_eq, eC_eq, eO_eq, eI_eq, eDi_eq, eS_eq, eSs_eq, cF_eq, bW_eq, mW_eq] at *
  exact W0.x_cmp2F h1 h2 h3 hr
theorem x_cmp {op : CmpOp} {r : Bool} (h1 : eX C a ρ st = .ok x st1) (h2 : eX C b ρ st1 = .ok y st2) (h3 : cmpW op (vw x st2) (vw y st2) = some r) : eX C (.cmp op a b) ρ st = .ok (.dat (.bl r)) st2 := by
  simp only [eX_eq, eXs_eq, eC_eq, eO_eq, eI_eq, eDi_eq, eS_eq, eSs_eq, cF_eq, bW_eq, mW_eq] at *
  exact W0.x_cmp h1 h2 h3
theorem x_cmp2 {op op' : CmpOp} {r r' : Bool} (h1 : eX C a ρ st = .ok x st1) (h2 : eX C b ρ st1 = .ok y st2) (h3 : cmpW op (vw x st2) (vw y st2) = some r) (h4 : eX C c ρ st2 = .ok z st2) (h5 : cmpW op' (vw y st2) (vw z st2) = some r') : eX C (.cmp2 op op' a b c) ρ st = .ok (.dat (.bl (r && r'))) st2 := by
  simp only [eX_eq, eXs_eq, eC_eq, eO_eq, eI_eq, eDi_eq, eS_eq, eSs_eq, cF_eq, bW_eq, mW_eq] at *
  exact W0.x_cmp2 h1 h2 h3 h4 h5
theorem x_ite {p : Bool} (h : eX C c ρ st = .ok (.dat (.bl p)) st1) (h1 : p = true → eX C a ρ st1 = .ok x st1) (h2 : p = false → eX C b ρ st1 = .ok y st1) : eX C (.ite c a b) ρ st = .ok (if p then x else y) st1 := by
  simp only [eX_eq, eXs_eq, eC_eq, eO_eq, eI_eq, eDi_eq, eS_eq, eSs_eq, cF_eq, bW_eq, mW_eq] at *
  exact W0.x_ite h h1 h2
theorem x_iteT {p : Bool} {r : Res W} (h : eX C c ρ st = .ok (.dat (.bl p)) st1) (hp : p = true) (h1 : eX C a ρ st1 = r) : eX C (.ite c a b) ρ st = r := by
  simp only [eX_eq, eXs_eq, eC_eq, eO_eq, eI_eq, eDi_eq, eS_eq, eSs_eq, cF_eq, bW_eq, mW_eq] at *
  exact W0.x_iteT h hp h1
theorem x_iteF {p : Bool} {r : Res W} (h : eX C c ρ st = .ok (.dat (.bl p)) st1) (hp : p = false) (h1 : eX C b ρ st1 = r) : eX C (.ite c a b) ρ st = r := by
  simp only [eX_eq, eXs_eq, eC_eq, eO_eq, eI_eq, eDi_eq, eS_eq, eSs_eq, cF_eq, bW_eq, mW_eq] at *
  exact W0.x_iteF h hp h1
theorem x_iteD {p : Bool} (h : eX C c ρ st = .ok (.dat (.bl p)) st1) (h1 : p = true → eX C a ρ st1 = .ok (.dat dx) st1) (h2 : p = false → eX C b ρ st1 = .ok (.dat dy) st1) : eX C (.ite c a b) ρ st = .ok (.dat (if p then dx else dy)) st1 := by
  simp only [eX_eq, eXs_eq, eC_eq, eO_eq, eI_eq, eDi_eq, eS_eq, eSs_eq, cF_eq, bW_eq, mW_eq] at *
  exact W0.x_iteD h h1 h2
theorem x_ix (h1 : eX C a ρ st = .ok x st1) (h2 : eX C i ρ st1 = .ok y st2) (h3 : ixW (vw x st2) y = some w) : eX C (.ix a i) ρ st = .ok w st2 := by
  simp only [eX_eq, eXs_eq, eC_eq, eO_eq, eI_eq, eDi_eq, eS_eq, eSs_eq, cF_eq, bW_eq, mW_eq] at *
  exact W0.x_ix h1 h2 h3
theorem o_no : eO C .no ρ st = .ok none st := by
  simp only [eX_eq, eXs_eq, eC_eq, eO_eq, eI_eq, eDi_eq, eS_eq, eSs_eq, cF_eq, bW_eq, mW_eq] at *
  exact W0.o_no 
theorem o_so {j : Int} (h : eX C e ρ st = .ok (.dat (.int j)) st1) : eO C (.so e) ρ st = .ok (some j) st1 := by
  simp only [eX_eq, eXs_eq, eC_eq, eO_eq, eI_eq, eDi_eq, eS_eq, eSs_eq, cF_eq, bW_eq, mW_eq] at *
  exact W0.o_so h
theorem x_sl {lo hi : Ox} {l h : Option Int} (h1 : eX C a ρ st = .ok x st1) (h2 : eO C lo ρ st1 = .ok l st2) (h3 : eO C hi ρ st2 = .ok h st3) (h4 : slW (vw x st3) l h = some w) : eX C (.sl a lo hi) ρ st = .ok w st3 := by
  simp only [eX_eq, eXs_eq, eC_eq, eO_eq, eI_eq, eDi_eq, eS_eq, eSs_eq, cF_eq, bW_eq, mW_eq] at *
  exact W0.x_sl h1 h2 h3 h4
theorem x_rv (h1 : eX C a ρ st = .ok x st1) (h4 : rvW (vw x st1) = some w) : eX C (.rv a) ρ st = .ok w st1 := by
  simp only [eX_eq, eXs_eq, eC_eq, eO_eq, eI_eq, eDi_eq, eS_eq, eSs_eq, cF_eq, bW_eq, mW_eq] at *
  exact W0.x_rv h1 h4
theorem x_call {f : Nat} (h1 : eXs C es ρ st = .ok ws st1) (h2 : C f ws st1 = .ok w st2) : eX C (.call f es) ρ st = .ok w st2 := by
  simp only [eX_eq, eXs_eq, eC_eq, eO_eq, eI_eq, eDi_eq, eS_eq, eSs_eq, cF_eq, bW_eq, mW_eq] at *
  exact W0.x_call h1 h2
theorem x_callR {f : Nat} {r : Res W} (h1 : eXs C es ρ st = .ok ws st1) (h2 : C f ws st1 = r) : eX C (.call f es) ρ st = r := by
  simp only [eX_eq, eXs_eq, eC_eq, eO_eq, eI_eq, eDi_eq, eS_eq, eSs_eq, cF_eq, bW_eq, mW_eq] at *
  exact W0.x_callR h1 h2
theorem x_bi {bi : Bi} (h1 : eXs C es ρ st = .ok ws st1) (h2 : bW bi (ws.map (vw · st1)) = some w) : eX C (.bi bi es) ρ st = .ok w st1 := by
  simp only [eX_eq, eXs_eq, eC_eq, eO_eq, eI_eq, eDi_eq, eS_eq, eSs_eq, cF_eq, bW_eq, mW_eq] at *
  exact W0.x_bi h1 h2
theorem x_lens (h1 : eX C e ρ st = .ok x st1) (h2 : bW .lenset [vw x st1] = some w) : eX C (.lens e) ρ st = .ok w st1 := by
  simp only [eX_eq, eXs_eq, eC_eq, eO_eq, eI_eq, eDi_eq, eS_eq, eSs_eq, cF_eq, bW_eq, mW_eq] at *
  exact W0.x_lens h1 h2
theorem x_lrg (h1 : eX C a ρ st = .ok x st1) (h2 : eX C b ρ st1 = .ok y st2) (h3 : rgW x y = some w) : eX C (.lrg a b) ρ st = .ok w st2 := by
  simp only [eX_eq, eXs_eq, eC_eq, eO_eq, eI_eq, eDi_eq, eS_eq, eSs_eq, cF_eq, bW_eq, mW_eq] at *
  exact W0.x_lrg h1 h2 h3
theorem x_lrg0 (h2 : eX C b ρ st = .ok y st2) (h3 : rgW (.dat (.int 0)) y = some w) : eX C (.lrg0 b) ρ st = .ok w st2 := by
  simp only [eX_eq, eXs_eq, eC_eq, eO_eq, eI_eq, eDi_eq, eS_eq, eSs_eq, cF_eq, bW_eq, mW_eq] at *
  exact W0.x_lrg0 h2 h3
theorem x_isi {T : String} {r : Bool} (h1 : eX C e ρ st = .ok x st1) (h2 : vw x st1 = .dat dx) (h3 : isiD dx T = some r) : eX C (.isi e T) ρ st = .ok (.dat (.bl r)) st1 := by
  simp only [eX_eq, eXs_eq, eC_eq, eO_eq, eI_eq, eDi_eq, eS_eq, eSs_eq, cF_eq, bW_eq, mW_eq] at *
  exact W0.x_isi h1 h2 h3
theorem x_mtM {m : Mt} {n : Nat} {cl cl' : Cell} (hm : m.muts = true) (h1 : eX C a ρ st = .ok (.ref n) st1) (h2 : st1[n]? = some cl) (h3 : isLst cl = m.wants) (h4 : eXs C es ρ st1 = .ok ws st2) {c2 : Cell} (h5 : st2[n]? = some c2) (h6 : mtC m c2 ws = some (w, cl')) : eX C (.mt m a es) ρ st = .ok w (st2.set n cl') := by
  simp only [eX_eq, eXs_eq, eC_eq, eO_eq, eI_eq, eDi_eq, eS_eq, eSs_eq, cF_eq, bW_eq, mW_eq] at *
  exact W0.x_mtM hm h1 h2 h3 h4 h5 h6
theorem x_mtW {m : Mt} (hm : m.muts = false) (h1 : eX C a ρ st = .ok x st1) (h2 : m.fits (vw x st1) = true) (h4 : eXs C es ρ st1 = .ok ws st2) (h6 : mW m (vw x st2) ws = some w) : eX C (.mt m a es) ρ st = .ok w st2 := by
  simp only [eX_eq, eXs_eq, eC_eq, eO_eq, eI_eq, eDi_eq, eS_eq, eSs_eq, cF_eq, bW_eq, mW_eq] at *
  exact W0.x_mtW hm h1 h2 h4 h6
theorem c_no : eC C .no ρ st = .ok true st := by
  simp only [eX_eq, eXs_eq, eC_eq, eO_eq, eI_eq, eDi_eq, eS_eq, eSs_eq, cF_eq, bW_eq, mW_eq] at *
  exact W0.c_no 
theorem c_so {p : Bool} (h : eX C e ρ st = .ok (.dat (.bl p)) st1) : eC C (.so e) ρ st = .ok p st1 := by
  simp only [eX_eq, eXs_eq, eC_eq, eO_eq, eI_eq, eDi_eq, eS_eq, eSs_eq, cF_eq, bW_eq, mW_eq] at *
  exact W0.c_so h
theorem i_sq (h1 : eX C e ρ st = .ok x st1) (h2 : items (vw x st1) = some ws) : eI C (.sq e) ρ st = .ok (ws, refOf x) st1 := by
  simp only [eX_eq, eXs_eq, eC_eq, eO_eq, eI_eq, eDi_eq, eS_eq, eSs_eq, cF_eq, bW_eq, mW_eq] at *
  exact W0.i_sq h1 h2
theorem i_r1 {j : Int} (h1 : eX C a ρ st = .ok (.dat (.int j)) st1) (h2 : okR j = true) : eI C (.r1 a) ρ st = .ok (rangeL 0 j.toNat, none) st1 := by
  simp only [eX_eq, eXs_eq, eC_eq, eO_eq, eI_eq, eDi_eq, eS_eq, eSs_eq, cF_eq, bW_eq, mW_eq] at *
  exact W0.i_r1 h1 h2
theorem i_r2 {k j : Int} (h0 : eX C a ρ st = .ok (.dat (.int k)) st1) (h1 : eX C b ρ st1 = .ok (.dat (.int j)) st2) (h2 : okR k = true) (h3 : okR j = true) : eI C (.r2 a b) ρ st = .ok (rangeL k (j - k).toNat, none) st2 := by
  simp only [eX_eq, eXs_eq, eC_eq, eO_eq, eI_eq, eDi_eq, eS_eq, eSs_eq, cF_eq, bW_eq, mW_eq] at *
  exact W0.i_r2 h0 h1 h2 h3
theorem i_r3 {k j : Int} (h0 : eX C a ρ st = .ok (.dat (.int k)) st1) (h1 : eX C b ρ st1 = .ok (.dat (.int j)) st2) (hc : eX C c ρ st2 = .ok (.dat (.int (-1))) st3) (h2 : okR k = true) (h3 : okR j = true) : eI C (.r3 a b c) ρ st = .ok (rangeC k (-1) (k - j).toNat, none) st3 := by
  simp only [eX_eq, eXs_eq, eC_eq, eO_eq, eI_eq, eDi_eq, eS_eq, eSs_eq, cF_eq, bW_eq, mW_eq] at *
  exact W0.i_r3 h0 h1 hc h2 h3
theorem i_zpT {xs ys : List D} (h1 : eX C a ρ st = .ok (.dat (.tup xs)) st1) (h2 : eX C b ρ st1 = .ok (.dat (.tup ys)) st2) : eI C (.zp a b) ρ st = .ok (zipW (xs.map .dat) (ys.map .dat), none) st2 := by
  simp only [eX_eq, eXs_eq, eC_eq, eO_eq, eI_eq, eDi_eq, eS_eq, eSs_eq, cF_eq, bW_eq, mW_eq] at *
  exact W0.i_zpT h1 h2
theorem i_zpL {xs ys : List D} (h1 : eX C a ρ st = .ok (.dat (.lst xs)) st1) (h2 : eX C b ρ st1 = .ok (.dat (.lst ys)) st2) : eI C (.zp a b) ρ st = .ok (zipW (xs.map .dat) (ys.map .dat), none) st2 := by
  simp only [eX_eq, eXs_eq, eC_eq, eO_eq, eI_eq, eDi_eq, eS_eq, eSs_eq, cF_eq, bW_eq, mW_eq] at *
  exact W0.i_zpL h1 h2
theorem i_en {xs : List D} (h1 : eX C a ρ st = .ok x st1) (h2 : vw x st1 = .dat (.lst xs)) : eI C (.en a) ρ st = .ok (enumW 0 (xs.map .dat), refOf x) st1 := by
  simp only [eX_eq, eXs_eq, eC_eq, eO_eq, eI_eq, eDi_eq, eS_eq, eSs_eq, cF_eq, bW_eq, mW_eq] at *
  exact W0.i_en h1 h2
theorem lenS {z : Str} (h : z.length ≤ bigLine) : bW .len [.dat (.str z)] = some (.dat (.int z.length)) := by
  simp only [eX_eq, eXs_eq, eC_eq, eO_eq, eI_eq, eDi_eq, eS_eq, eSs_eq, cF_eq, bW_eq, mW_eq] at *
  exact W0.lenS h
theorem lenT {xs : List D} : bW .len [.dat (.tup xs)] = some (.dat (.int xs.length)) := by
  simp only [eX_eq, eXs_eq, eC_eq, eO_eq, eI_eq, eDi_eq, eS_eq, eSs_eq, cF_eq, bW_eq, mW_eq] at *
  exact W0.lenT 
theorem lenL {xs : List D} : bW .len [.dat (.lst xs)] = some (.dat (.int xs.length)) := by
  simp only [eX_eq, eXs_eq, eC_eq, eO_eq, eI_eq, eDi_eq, eS_eq, eSs_eq, cF_eq, bW_eq, mW_eq] at *
  exact W0.lenL 
theorem allB {α : Type} {f : α → Bool} {xs : List α} : bW .all [.dat (.lst (xs.map fun x => D.bl (f x)))] = some (.dat (.bl (xs.all f))) := by
  simp only [eX_eq, eXs_eq, eC_eq, eO_eq, eI_eq, eDi_eq, eS_eq, eSs_eq, cF_eq, bW_eq, mW_eq] at *
  exact W0.allB 
theorem anyB {α : Type} {f : α → Bool} {xs : List α} : bW .any [.dat (.lst (xs.map fun x => D.bl (f x)))] = some (.dat (.bl (xs.any f))) := by
  simp only [eX_eq, eXs_eq, eC_eq, eO_eq, eI_eq, eDi_eq, eS_eq, eSs_eq, cF_eq, bW_eq, mW_eq] at *
  exact W0.anyB 
theorem lenset_ok {xs : List D} (h : xs.all isLeaf = true) (hl : xs.length ≤ 4000) : bW .lenset [.dat (.tup xs)] = some (.dat (.int (nubD xs).length)) := by
  simp only [eX_eq, eXs_eq, eC_eq, eO_eq, eI_eq, eDi_eq, eS_eq, eSs_eq, cF_eq, bW_eq, mW_eq] at *
  exact W0.lenset_ok h hl
theorem lc_eq {p : Pt} {it : Wk} {o : Ox} {own : List Nat} {n : Option Nat} (h1 : eI C it ρ st = .ok (ws, n) st1) (h2 : ws.length ≤ bigLine) : eX C (.lc e p it o own) ρ st = (lcGo n st1 (lcB C e p o own ρ) ws [] >>= fun ds => pure (W.dat (.lst ds))) st1 := by
  simp only [eX_eq, eXs_eq, eC_eq, eO_eq, eI_eq, eDi_eq, eS_eq, eSs_eq, cF_eq, bW_eq, mW_eq] at *
  exact W0.lc_eq h1 h2
theorem x_lcO {α : Type} {as : List α} {k : α → W} {h : α → Option D} {p : Pt} {it : Wk} {o : Ox} {own : List Nat} {n : Option Nat} (h1 : eI C it ρ st = .ok (as.map k, n) st1) (h2 : as.length ≤ bigLine) (hs : stays n st1 st1 = true) (hb : ∀ a ∈ as, lcB C e p o own ρ (k a) st1 = .ok (h a) st1) : eX C (.lc e p it o own) ρ st = .ok (.dat (.lst (as.filterMap h))) st1 := by
  simp only [eX_eq, eXs_eq, eC_eq, eO_eq, eI_eq, eDi_eq, eS_eq, eSs_eq, cF_eq, bW_eq, mW_eq] at *
  exact W0.x_lcO h1 h2 hs hb
theorem x_lc {α : Type} {as : List α} {k : α → W} {g : α → D} {p : Pt} {it : Wk} {own : List Nat} {n : Option Nat} (h1 : eI C it ρ st = .ok (as.map k, n) st1) (h2 : as.length ≤ bigLine) (hs : stays n st1 st1 = true) (hb : ∀ a ∈ as, ∃ ρ', bindP p (k a) (wipeE ρ own) = some ρ' ∧ eX C e ρ' st1 = .ok (.dat (g a)) st1) : eX C (.lc e p it .no own) ρ st = .ok (.dat (.lst (as.map g))) st1 := by
  simp only [eX_eq, eXs_eq, eC_eq, eO_eq, eI_eq, eDi_eq, eS_eq, eSs_eq, cF_eq, bW_eq, mW_eq] at *
  exact W0.x_lc h1 h2 hs hb
theorem x_lcf {α : Type} {as : List α} {k : α → W} {g : α → D} {q : α → Bool} {c : Ex} {p : Pt} {it : Wk} {own : List Nat} {n : Option Nat} (h1 : eI C it ρ st = .ok (as.map k, n) st1) (h2 : as.length ≤ bigLine) (hs : stays n st1 st1 = true) (hb : ∀ a ∈ as, ∃ ρ', bindP p (k a) (wipeE ρ own) = some ρ' ∧ eX C c ρ' st1 = .ok (.dat (.bl (q a))) st1 ∧ (q a = true → eX C e ρ' st1 = .ok (.dat (g a)) st1)) : eX C (.lc e p it (.so c) own) ρ st = .ok (.dat (.lst ((as.filter q).map g))) st1 := by
  simp only [eX_eq, eXs_eq, eC_eq, eO_eq, eI_eq, eDi_eq, eS_eq, eSs_eq, cF_eq, bW_eq, mW_eq] at *
  exact W0.x_lcf h1 h2 hs hb
theorem x_lcI {I : List W → List D → Store → Prop} {p : Pt} {it : Wk} {o : Ox} {own : List Nat} (h1 : eI C it ρ st = .ok (ws, none) st1) (h2 : ws.length ≤ bigLine) (h0 : I ws [] st1) (hb : ∀ w ws acc st, I (w :: ws) acc st → ∃ r st', lcB C e p o own ρ w st = .ok r st' ∧ I ws (acc ++ r.toList) st') : ∃ ds st', eX C (.lc e p it o own) ρ st = .ok (.dat (.lst ds)) st' ∧ I [] ds st' := by
  simp only [eX_eq, eXs_eq, eC_eq, eO_eq, eI_eq, eDi_eq, eS_eq, eSs_eq, cF_eq, bW_eq, mW_eq] at *
  exact W0.x_lcI h1 h2 h0 hb
end
section
variable {C : Nat → List W → M W} {F : Nat} {ρ ρ' : Env} {st st1 st2 st3 : Store} {c e i o : Ex} {p : Pt} {it : Wk} {x y z w : W} {ws : List W} {dx dy d : D} {r sa sb : Ss} {P : Res Fl → Prop}
theorem Ss_app (a r : Ss) : ∀ (ρ : Env) (st : Store), eSs C F (a.app r) ρ st = match eSs C F a ρ st with
    | .ok (.nx ρ') st' => eSs C F r ρ' st'
    | .ok f st' => .ok f st'
    | .exn x st' => .exn x st'
    | .stuck => .stuck := by
  simp only [eX_eq, eXs_eq, eC_eq, eO_eq, eI_eq, eDi_eq, eS_eq, eSs_eq, cF_eq, bW_eq, mW_eq] at *
  exact W0.Ss_app a r
theorem ss_nil (h : P (.ok (.nx ρ) st)) : Go P (eSs C F .nil ρ st) := by
  simp only [eX_eq, eXs_eq, eC_eq, eO_eq, eI_eq, eDi_eq, eS_eq, eSs_eq, cF_eq, bW_eq, mW_eq] at *
  exact W0.ss_nil h
theorem ss_asg (h1 : eX C e ρ st = .ok w st1) (h2 : bindP p w ρ = some ρ') (h3 : Go P (eSs C F r ρ' st1)) : Go P (eSs C F (.cons (.asg p e) r) ρ st) := by
  simp only [eX_eq, eXs_eq, eC_eq, eO_eq, eI_eq, eDi_eq, eS_eq, eSs_eq, cF_eq, bW_eq, mW_eq] at *
  exact W0.ss_asg h1 h2 h3
theorem ss_aug {op : Operator} {n : Nat} (h0 : ρ[n]?.join = some x) (h1 : eX C e ρ st = .ok y st1) (h2 : augM op x (vw y st1) st1 = .ok w st2) (h3 : Go P (eSs C F r (ρ.set n (some w)) st2)) : Go P (eSs C F (.cons (.aug op n e) r) ρ st) := by
  simp only [eX_eq, eXs_eq, eC_eq, eO_eq, eI_eq, eDi_eq, eS_eq, eSs_eq, cF_eq, bW_eq, mW_eq] at *
  exact W0.ss_aug h0 h1 h2 h3
theorem ss_ex (h1 : eX C e ρ st = .ok w st1) (h3 : Go P (eSs C F r ρ st1)) : Go P (eSs C F (.cons (.ex e) r) ρ st) := by
  simp only [eX_eq, eXs_eq, eC_eq, eO_eq, eI_eq, eDi_eq, eS_eq, eSs_eq, cF_eq, bW_eq, mW_eq] at *
  exact W0.ss_ex h1 h3
theorem ss_exX {ex : Exn} (h1 : eX C e ρ st = .exn ex st1) (h3 : P (.exn ex st1)) : Go P (eSs C F (.cons (.ex e) r) ρ st) := by
  simp only [eX_eq, eXs_eq, eC_eq, eO_eq, eI_eq, eDi_eq, eS_eq, eSs_eq, cF_eq, bW_eq, mW_eq] at *
  exact W0.ss_exX h1 h3
theorem ss_sst {n : Nat} {cl cl' : Cell} {di dw : D} (h1 : eX C e ρ st = .ok (.dat dw) st1) (h2 : eX C o ρ st1 = .ok (.ref n) st2) (h3 : eX C i ρ st2 = .ok (.dat di) st3) (h4 : st3[n]? = some cl) (h5 : setC cl di dw = some cl') (h6 : Go P (eSs C F r ρ (st3.set n cl'))) : Go P (eSs C F (.cons (.sst o i e) r) ρ st) := by
  simp only [eX_eq, eXs_eq, eC_eq, eO_eq, eI_eq, eDi_eq, eS_eq, eSs_eq, cF_eq, bW_eq, mW_eq] at *
  exact W0.ss_sst h1 h2 h3 h4 h5 h6
theorem ss_ife {q : Bool} (h1 : eX C c ρ st = .ok (.dat (.bl q)) st1) (ht : q = true → Go P (eSs C F (sa.app r) ρ st1)) (hf : q = false → Go P (eSs C F (sb.app r) ρ st1)) : Go P (eSs C F (.cons (.ife c sa sb) r) ρ st) := by
  simp only [eX_eq, eXs_eq, eC_eq, eO_eq, eI_eq, eDi_eq, eS_eq, eSs_eq, cF_eq, bW_eq, mW_eq] at *
  exact W0.ss_ife h1 ht hf
theorem ss_ifT {q : Bool} (h1 : eX C c ρ st = .ok (.dat (.bl q)) st1) (hq : q = true) (ht : Go P (eSs C F (sa.app r) ρ st1)) : Go P (eSs C F (.cons (.ife c sa sb) r) ρ st) := by
  simp only [eX_eq, eXs_eq, eC_eq, eO_eq, eI_eq, eDi_eq, eS_eq, eSs_eq, cF_eq, bW_eq, mW_eq] at *
  exact W0.ss_ifT h1 hq ht
theorem ss_ifF {q : Bool} (h1 : eX C c ρ st = .ok (.dat (.bl q)) st1) (hq : q = false) (ht : Go P (eSs C F (sb.app r) ρ st1)) : Go P (eSs C F (.cons (.ife c sa sb) r) ρ st) := by
  simp only [eX_eq, eXs_eq, eC_eq, eO_eq, eI_eq, eDi_eq, eS_eq, eSs_eq, cF_eq, bW_eq, mW_eq] at *
  exact W0.ss_ifF h1 hq ht
theorem ss_ret (h1 : eX C e ρ st = .ok w st1) (h : P (.ok (.ret w) st1)) : Go P (eSs C F (.cons (.ret e) r) ρ st) := by
  simp only [eX_eq, eXs_eq, eC_eq, eO_eq, eI_eq, eDi_eq, eS_eq, eSs_eq, cF_eq, bW_eq, mW_eq] at *
  exact W0.ss_ret h1 h
theorem ss_retn (h : P (.ok (.ret (.dat .non)) st)) : Go P (eSs C F (.cons .retn r) ρ st) := by
  simp only [eX_eq, eXs_eq, eC_eq, eO_eq, eI_eq, eDi_eq, eS_eq, eSs_eq, cF_eq, bW_eq, mW_eq] at *
  exact W0.ss_retn h
theorem ss_brk (h : P (.ok (.brk ρ) st)) : Go P (eSs C F (.cons .brk r) ρ st) := by
  simp only [eX_eq, eXs_eq, eC_eq, eO_eq, eI_eq, eDi_eq, eS_eq, eSs_eq, cF_eq, bW_eq, mW_eq] at *
  exact W0.ss_brk h
theorem ss_cnt (h : P (.ok (.ct ρ) st)) : Go P (eSs C F (.cons .cnt r) ρ st) := by
  simp only [eX_eq, eXs_eq, eC_eq, eO_eq, eI_eq, eDi_eq, eS_eq, eSs_eq, cF_eq, bW_eq, mW_eq] at *
  exact W0.ss_cnt h
theorem ss_pas (h : Go P (eSs C F r ρ st)) : Go P (eSs C F (.cons .pas r) ρ st) := by
  simp only [eX_eq, eXs_eq, eC_eq, eO_eq, eI_eq, eDi_eq, eS_eq, eSs_eq, cF_eq, bW_eq, mW_eq] at *
  exact W0.ss_pas h
theorem forB_go {b : Ss} {Q : Res Fl → Prop} (h : bindP p w ρ = some ρ') (g : Go Q (eSs C F b ρ' st)) : Q (forB C F p b w ρ st) := by
  simp only [eX_eq, eXs_eq, eC_eq, eO_eq, eI_eq, eDi_eq, eS_eq, eSs_eq, cF_eq, bW_eq, mW_eq] at *
  exact W0.forB_go h g
theorem for_out {α : Type} {b : Ss} {n : Option Nat} {st0 : Store} {k : α → W} {I : List α → Env → Store → Prop} {Q : Fl → Store → Prop} (h0 : ∀ ρ st, I [] ρ st → Q (.nx ρ) st) (hb : ∀ a as ρ st, I (a :: as) ρ st → ∃ ρ', bindP p (k a) ρ = some ρ' ∧ Go (ForEnd Q (I as) n st0) (eSs C F b ρ' st)) : ∀ (as : List α) (ρ : Env) (st : Store), I as ρ st → ∃ fl st', forGo n st0 (forB C F p b) (as.map k) ρ st = .ok fl st' ∧ Q fl st':= by
  simp only [eX_eq, eXs_eq, eC_eq, eO_eq, eI_eq, eDi_eq, eS_eq, eSs_eq, cF_eq, bW_eq, mW_eq] at *
  exact W0.for_out h0 hb
theorem ss_for {b : Ss} {n : Option Nat} {Q : Fl → Store → Prop} (h1 : eI C it ρ st = .ok (ws, n) st1) (h2 : ∃ fl st', forGo n st1 (forB C F p b) ws ρ st1 = .ok fl st' ∧ Q fl st') (hn : ∀ ρ' st', Q (.nx ρ') st' → Go P (eSs C F r ρ' st')) (hr : ∀ w st', Q (.ret w) st' → P (.ok (.ret w) st')) (hq : ∀ fl st', Q fl st' → (∃ ρ', fl = .nx ρ') ∨ ∃ w, fl = .ret w) : Go P (eSs C F (.cons (.for p it b) r) ρ st) := by
  simp only [eX_eq, eXs_eq, eC_eq, eO_eq, eI_eq, eDi_eq, eS_eq, eSs_eq, cF_eq, bW_eq, mW_eq] at *
  exact W0.ss_for h1 h2 hn hr hq
theorem ss_forI {α : Type} {as : List α} {b : Ss} {n : Option Nat} {k : α → W} {I : List α → Env → Store → Prop} (h1 : eI C it ρ st = .ok (as.map k, n) st1) (hi : I as ρ st1) (hb : ∀ a as ρ st, I (a :: as) ρ st → ∃ ρ', bindP p (k a) ρ = some ρ' ∧ Go (ForEnd (fun _ _ => False) (I as) n st1) (eSs C F b ρ' st)) (hn : ∀ ρ' st', I [] ρ' st' → Go P (eSs C F r ρ' st')) : Go P (eSs C F (.cons (.for p it b) r) ρ st) := by
  simp only [eX_eq, eXs_eq, eC_eq, eO_eq, eI_eq, eDi_eq, eS_eq, eSs_eq, cF_eq, bW_eq, mW_eq] at *
  exact W0.ss_forI h1 hi hb hn
theorem wh_out {b : Ss} {I : Nat → Env → Store → Prop} {Q : Fl → Store → Prop} (hb : ∀ n ρ st, I n ρ st → ∃ q st1, eX C c ρ st = .ok (.dat (.bl q)) st1 ∧ (q = false → Q (.nx ρ) st1) ∧ (q = true → Go (WhEnd Q fun ρ st => ∃ m, m < n ∧ I m ρ st) (eSs C F b ρ st1))) : ∀ (G n : Nat) (ρ : Env) (st : Store), n < G → I n ρ st → ∃ fl st', whGo (eX C c) (eSs C F b) G ρ st = .ok fl st' ∧ Q fl st':= by
  simp only [eX_eq, eXs_eq, eC_eq, eO_eq, eI_eq, eDi_eq, eS_eq, eSs_eq, cF_eq, bW_eq, mW_eq] at *
  exact W0.wh_out hb
theorem ss_wh {b : Ss} {Q : Fl → Store → Prop} (h2 : ∃ fl st', whGo (eX C c) (eSs C F b) F ρ st = .ok fl st' ∧ Q fl st') (hn : ∀ ρ' st', Q (.nx ρ') st' → Go P (eSs C F r ρ' st')) (hr : ∀ w st', Q (.ret w) st' → P (.ok (.ret w) st')) (hq : ∀ fl st', Q fl st' → (∃ ρ', fl = .nx ρ') ∨ ∃ w, fl = .ret w) : Go P (eSs C F (.cons (.wh c b) r) ρ st) := by
  simp only [eX_eq, eXs_eq, eC_eq, eO_eq, eI_eq, eDi_eq, eS_eq, eSs_eq, cF_eq, bW_eq, mW_eq] at *
  exact W0.ss_wh h2 hn hr hq
end
theorem call_fd {T : Nat → Option FD} {F k f : Nat} {fd : FD} {ws : List W} {st : Store} {P : Res W → Prop} (hT : T f = some fd) (hl : ws.length = fd.np) (h : Go (fun r => P (leave fd.mkr st.length r)) (eSs (cF T F k) F fd.body (startE fd.ns ws) st)) : Cl P (cF T F (k + 1) f ws st) := by
  simp only [eX_eq, eXs_eq, eC_eq, eO_eq, eI_eq, eDi_eq, eS_eq, eSs_eq, cF_eq, bW_eq, mW_eq] at *
  exact W0.call_fd hT hl h
theorem imp_x {p : Prop} {C : Nat → List W → M W} {e : Ex} {ρ : Env} {st : Store} {r : Res W} (h : eX C e ρ st = r) : p → eX C e ρ st = r := by
  simp only [eX_eq, eXs_eq, eC_eq, eO_eq, eI_eq, eDi_eq, eS_eq, eSs_eq, cF_eq, bW_eq, mW_eq] at *
  exact W0.imp_x h
theorem intI {i : Int} : bW .int [.dat (.int i)] = some (.dat (.int i)) := by
  simp only [eX_eq, eXs_eq, eC_eq, eO_eq, eI_eq, eDi_eq, eS_eq, eSs_eq, cF_eq, bW_eq, mW_eq] at *
  exact W0.intI 
theorem intB {b : Bool} : bW .int [.dat (.bl b)] = some (.dat (.int (if b then 1 else 0))) := by
  simp only [eX_eq, eXs_eq, eC_eq, eO_eq, eI_eq, eDi_eq, eS_eq, eSs_eq, cF_eq, bW_eq, mW_eq] at *
  exact W0.intB 
theorem absI {i : Int} : bW .abs [.dat (.int i)] = some (.dat (.int (if i < 0 then -i else i))) := by
  simp only [eX_eq, eXs_eq, eC_eq, eO_eq, eI_eq, eDi_eq, eS_eq, eSs_eq, cF_eq, bW_eq, mW_eq] at *
  exact W0.absI 
theorem listT {xs : List D} : bW .list [.dat (.tup xs)] = some (.dat (.lst xs)) := by
  simp only [eX_eq, eXs_eq, eC_eq, eO_eq, eI_eq, eDi_eq, eS_eq, eSs_eq, cF_eq, bW_eq, mW_eq] at *
  exact W0.listT 
theorem listL {xs : List D} : bW .list [.dat (.lst xs)] = some (.dat (.lst xs)) := by
  simp only [eX_eq, eXs_eq, eC_eq, eO_eq, eI_eq, eDi_eq, eS_eq, eSs_eq, cF_eq, bW_eq, mW_eq] at *
  exact W0.listL 
theorem listScr {ns : List Int} : bW .list [.scr ns] = some (.dat (.lst (ns.map .int))) := by
  simp only [eX_eq, eXs_eq, eC_eq, eO_eq, eI_eq, eDi_eq, eS_eq, eSs_eq, cF_eq, bW_eq, mW_eq] at *
  exact W0.listScr 
theorem tupT {xs : List D} : bW .tuple [.dat (.tup xs)] = some (.dat (.tup xs)) := by
  simp only [eX_eq, eXs_eq, eC_eq, eO_eq, eI_eq, eDi_eq, eS_eq, eSs_eq, cF_eq, bW_eq, mW_eq] at *
  exact W0.tupT 
theorem tupL {xs : List D} : bW .tuple [.dat (.lst xs)] = some (.dat (.tup xs)) := by
  simp only [eX_eq, eXs_eq, eC_eq, eO_eq, eI_eq, eDi_eq, eS_eq, eSs_eq, cF_eq, bW_eq, mW_eq] at *
  exact W0.tupL 
theorem minI {i j : Int} : bW .min [.dat (.int i), .dat (.int j)] = some (.dat (.int (if j < i then j else i))) := by
  simp only [eX_eq, eXs_eq, eC_eq, eO_eq, eI_eq, eDi_eq, eS_eq, eSs_eq, cF_eq, bW_eq, mW_eq] at *
  exact W0.minI 
theorem maxI {i j : Int} : bW .max [.dat (.int i), .dat (.int j)] = some (.dat (.int (if j > i then j else i))) := by
  simp only [eX_eq, eXs_eq, eC_eq, eO_eq, eI_eq, eDi_eq, eS_eq, eSs_eq, cF_eq, bW_eq, mW_eq] at *
  exact W0.maxI 
theorem strS {z : Str} : bW .str [.dat (.str z)] = some (.dat (.str z)) := by
  simp only [eX_eq, eXs_eq, eC_eq, eO_eq, eI_eq, eDi_eq, eS_eq, eSs_eq, cF_eq, bW_eq, mW_eq] at *
  exact W0.strS 
theorem strI {i : Int} (h : i.natAbs < 10 ^ 100) : bW .str [.dat (.int i)] = some (.dat (.str (Str.ofString (toString i)))) := by
  simp only [eX_eq, eXs_eq, eC_eq, eO_eq, eI_eq, eDi_eq, eS_eq, eSs_eq, cF_eq, bW_eq, mW_eq] at *
  exact W0.strI h
theorem boolB {b : Bool} : bW .bool [.dat (.bl b)] = some (.dat (.bl b)) := by
  simp only [eX_eq, eXs_eq, eC_eq, eO_eq, eI_eq, eDi_eq, eS_eq, eSs_eq, cF_eq, bW_eq, mW_eq] at *
  exact W0.boolB 
theorem di_nil {C : Nat → List W → M W} {ρ : Env} {st : Store} : eDi C .nil ρ st = .ok [] st := by
  simp only [eX_eq, eXs_eq, eC_eq, eO_eq, eI_eq, eDi_eq, eS_eq, eSs_eq, cF_eq, bW_eq, mW_eq] at *
  exact W0.di_nil 
theorem di_cons {C : Nat → List W → M W} {ρ : Env} {st st1 st2 st3 : Store} {k v : Ex} {r : Kvs} {a b : D} {kvs : List (D × D)} (h1 : eX C k ρ st = .ok (.dat a) st1) (h2 : eX C v ρ st1 = .ok (.dat b) st2) (h3 : eDi C r ρ st2 = .ok kvs st3) (h4 : isLeaf a = true) : eDi C (.cons k v r) ρ st = .ok ((a, b) :: kvs) st3 := by
  simp only [eX_eq, eXs_eq, eC_eq, eO_eq, eI_eq, eDi_eq, eS_eq, eSs_eq, cF_eq, bW_eq, mW_eq] at *
  exact W0.di_cons h1 h2 h3 h4
theorem x_dic {C : Nat → List W → M W} {ρ : Env} {st st1 : Store} {ps : Kvs} {kvs : List (D × D)} (h : eDi C ps ρ st = .ok kvs st1) : eX C (.dic ps) ρ st = .ok (.fdi false (kvs.foldl (fun acc p => putKey acc p.1 p.2) [])) st1 := by
  simp only [eX_eq, eXs_eq, eC_eq, eO_eq, eI_eq, eDi_eq, eS_eq, eSs_eq, cF_eq, bW_eq, mW_eq] at *
  exact W0.x_dic h
theorem lcB_no {C : Nat → List W → M W} {e : Ex} {p : Pt} {own : List Nat} {ρ ρ' : Env} {w : W} {st st1 : Store} {d : D} (h : bindP p w (wipeE ρ own) = some ρ') (h2 : eX C e ρ' st = .ok (.dat d) st1) : lcB C e p .no own ρ w st = .ok (some d) st1 := by
  simp only [eX_eq, eXs_eq, eC_eq, eO_eq, eI_eq, eDi_eq, eS_eq, eSs_eq, cF_eq, bW_eq, mW_eq] at *
  exact W0.lcB_no h h2
theorem lcB_so {C : Nat → List W → M W} {e c : Ex} {p : Pt} {own : List Nat} {ρ ρ' : Env} {w : W} {st st1 st2 : Store} {d : D} {q : Bool} (h : bindP p w (wipeE ρ own) = some ρ') (h1 : eX C c ρ' st = .ok (.dat (.bl q)) st1) (h2 : q = true → eX C e ρ' st1 = .ok (.dat d) st2) (h3 : q = false → st2 = st1) : lcB C e p (.so c) own ρ w st = .ok (if q then some d else none) st2 := by
  simp only [eX_eq, eXs_eq, eC_eq, eO_eq, eI_eq, eDi_eq, eS_eq, eSs_eq, cF_eq, bW_eq, mW_eq] at *
  exact W0.lcB_so h h1 h2 h3
theorem upS {z : Str} (h : z.length ≤ 5592405) : mW .upper (.dat (.str z)) [] = some (.dat (.str (Txt.upper z))) := by
  simp only [eX_eq, eXs_eq, eC_eq, eO_eq, eI_eq, eDi_eq, eS_eq, eSs_eq, cF_eq, bW_eq, mW_eq] at *
  exact W0.upS h
theorem biW_sorted (xs : List D) : bW .sorted [.dat (.lst xs)] = if alikeAllD xs && sortOk xs && Nat.ble (D.depths xs) 50 then some (.dat (.lst (sortD xs))) else none := by
  simp only [eX_eq, eXs_eq, eC_eq, eO_eq, eI_eq, eDi_eq, eS_eq, eSs_eq, cF_eq, bW_eq, mW_eq] at *
  exact W0.biW_sorted xs
theorem biW_sortedF (t : Bool) (kvs : List (D × D)) : bW .sorted [.fdi t kvs] = if alikeAllD (kvs.map (·.1)) && sortOk (kvs.map (·.1)) && Nat.ble (D.depths (kvs.map (·.1))) 50 then some (.dat (.lst (sortD (kvs.map (·.1))))) else none := by
  simp only [eX_eq, eXs_eq, eC_eq, eO_eq, eI_eq, eDi_eq, eS_eq, eSs_eq, cF_eq, bW_eq, mW_eq] at *
  exact W0.biW_sortedF t kvs
end Ev

/-! EvZ: from the head's facts to ProgOk; the law's run. -/
namespace Ev
open PySem PySem.Spec PyProof.Rows L2
/-- positional parameters alone -/
def argsOk (a : Arguments) (ps : List Str) : Bool := (match a with
  | ⟨[], as, none, [], [], none, []⟩ => decide (as.map (fun z : Arg => z.arg) = ps)
  | _ => false) && decide ps.Nodup
theorem lookup_zip {ν β : Type} [BEq ν] [LawfulBEq ν] : ∀ {ps : List ν} {us : List β}, us.length = ps.length → ∀ n ∈ ps, ∃ u, (ps.zip us).lookup n = some u
  | [], _, _, n, hn => absurd hn (by simp)
  | p :: ps, [], h, _, _ => by simp at h
  | p :: ps, u :: us, h, n, hn => by
    rw [List.zip_cons_cons, List.lookup_cons]
    by_cases q : (n == p) = true
    · rw [q]; exact ⟨u, rfl⟩
    · simp only [Bool.not_eq_true] at q
      rw [q]
      refine lookup_zip (by simpa using h) n ?_
      rcases List.mem_cons.mp hn with rfl | hn
      · simp at q
      · exact hn
theorem filter_zip {ν β : Type} [BEq ν] [LawfulBEq ν] {ps : List ν} {us : List β} (h : us.length = ps.length) : (ps.filter fun n => ((ps.zip us).lookup n).isNone) = [] := by
  rw [List.filter_eq_nil_iff]
  intro n hn
  obtain ⟨u, e⟩ := lookup_zip h n hn
  rw [e]; simp
theorem filterMap_zip {ν β : Type} [BEq ν] [LawfulBEq ν] : ∀ {ps : List ν} {us : List β}, ps.Nodup → us.length = ps.length → (ps.filterMap fun n => ((ps.zip us).lookup n).map (n, ·)) = ps.zip us
  | [], _, _, _ => rfl
  | p :: ps, [], _, h => by simp at h
  | p :: ps, u :: us, nd, h => by
    rw [List.nodup_cons] at nd
    have ih := filterMap_zip nd.2 (us := us) (by simpa using h)
    rw [List.zip_cons_cons, List.filterMap_cons, List.lookup_cons]
    simp only [beq_self_eq_true, Option.map_some]
    congr 1
    have key : ∀ l : List ν, p ∉ l → (l.filterMap fun n => (((p, u) :: ps.zip us).lookup n).map (n, ·)) = l.filterMap fun n => ((ps.zip us).lookup n).map (n, ·) := by
      intro l
      induction l with
      | nil => intro _; rfl
      | cons m l ihl =>
        intro hm
        rw [List.mem_cons, not_or] at hm
        have q : (m == p) = false := by
          rw [beq_eq_false_iff_ne]
          exact fun z => hm.1 z.symm
        rw [List.filterMap_cons, List.filterMap_cons, List.lookup_cons, q, ihl hm.2]
    rw [key ps nd.1, ih]
theorem binds_eq {x q : Str} {as : List Arg} {body : List Stmt} {sc : Scope} (nd : (as.map (fun z : Arg => z.arg)).Nodup) (kV doc pm : Value) (an : Option Addr) (cdv ct : Value) (us : List Value) (hl : us.length = (as.map (fun z : Arg => z.arg)).length) : bindArgs (PySem.W.fnOf x q ⟨[], as, none, [], [], none, []⟩ body sc .none kV doc pm an cdv ct) ⟨us, []⟩ = pure ((as.map (fun z : Arg => z.arg)).zip us) := by
  have h1 := filter_zip hl
  have h2 := filterMap_zip nd hl
  unfold bindArgs
  have e0 : (W.fnOf x q ⟨[], as, none, [], [], none, []⟩ body sc Value.none kV doc pm an cdv ct).params = ⟨[], as, none, [], [], none, []⟩ := rfl
  have e1 : (W.fnOf x q ⟨[], as, none, [], [], none, []⟩ body sc Value.none kV doc pm an cdv ct).defaults = .none := rfl
  simp only [e0, e1]
  have e2 : seqItems? Value.none = (pure none : Sem (Option (Array Value))) := rfl
  rw [e2]
  simp only [List.map_nil, List.nil_append, List.append_nil]
  clear e0 e1
  generalize as.map (fun z : Arg => z.arg) = ps at *
  have hlt : ¬ (ps.length < us.length) := by omega
  simp [hlt, h1, h2]
theorem binds_as {K : PySem.W.Frag} {x q : Str} {as : List Arg} {body : List Stmt} {sc : Scope} {f : Addr} {fd : FuncData} (F : FunD K x q ⟨[], as, none, [], [], none, []⟩ body sc [] [] f fd) (nd : (as.map (fun z : Arg => z.arg)).Nodup) : Binds K fd (as.map (fun z : Arg => z.arg)) [] :=
  FunD.bindsN F fun kV doc pm an cdv ct us hl => binds_eq nd kV doc pm an cdv ct us hl
theorem bindsTo_ok {K : PySem.W.Frag} {x q p : Str} {a : Arguments} {body : List Stmt} {sc : Scope} {f : Addr} {fd : FuncData} (F : FunD K x q a body sc [] [] f fd) (h : argsOk a [p] = true) (s : Shared) (u : Value) : BindsTo s fd ⟨[u], []⟩ [(p, u)] := by
  unfold argsOk at h
  rw [Bool.and_eq_true, decide_eq_true_eq] at h
  obtain ⟨h, nd⟩ := h
  split at h
  · rename_i as
    simp only [decide_eq_true_eq] at h
    have := FunD.bindsA (ps := as.map (fun z : Arg => z.arg)) F (fun kV doc pm an cdv ct us hl => binds_eq (h ▸ nd) kV doc pm an cdv ct us hl) s [u] (by rw [h]; rfl)
    rw [h] at this
    exact this
  · cases h
theorem binds_ok {K : PySem.W.Frag} {x q : Str} {a : Arguments} {ps : List Str} {body : List Stmt} {sc : Scope} {f : Addr} {fd : FuncData} (F : FunD K x q a body sc [] [] f fd) (h : argsOk a ps = true) : Binds K fd ps [] := by
  unfold argsOk at h
  rw [Bool.and_eq_true, decide_eq_true_eq] at h
  obtain ⟨h, nd⟩ := h
  split at h
  · simp only [decide_eq_true_eq] at h
    subst h
    exact binds_as F nd
  · cases h
/-- a constant's fact -/
def faC (p : Str × D) : He.Fa := match p.2 with
  | .int i => .int p.1 i
  | .str s => .str p.1 s
  | _ => .glo p.1
def okC (p : Str × D) : Bool := match p.2 with
  | .int _ => true
  | .str _ => true
  | _ => false
def fnOf (Ts : List DefC) (As : List Arguments) : List He.DefD := (Ts.zip As).map fun p => ⟨(p.1.name, none), p.1.name, p.1.name, p.2, p.1.stmts, p.1.sc, [], []⟩
def faOf (Ts : List DefC) (gcs : List (Str × D)) (frs : List Str) : List He.Fa := Ts.map (fun d => .glo d.name) ++ (gcs.map faC ++ frs.map .free)
def gcOf (gcs : List (Str × D)) (x : Str) : Option D := gcs.lookup x
def frOf (frs : List Str) (x : Str) : Bool := frs.contains x
def tab (Ts : List DefC) (f : Nat) : Option DefC := Ts[f]?
theorem lookup_mem {x : Str} {d : D} : ∀ {l : List (Str × D)}, l.lookup x = some d → (x, d) ∈ l
  | (y, e) :: l, h => by
    rw [List.lookup_cons] at h
    by_cases q : (x == y) = true
    · rw [q] at h
      cases h
      rw [eq_of_beq q]
      exact List.mem_cons_self
    · simp only [Bool.not_eq_true] at q
      rw [q] at h
      exact List.mem_cons_of_mem _ (lookup_mem h)
def allOk (Ts : List DefC) (As : List Arguments) : Bool := Ts.length == As.length && (Ts.zip As).all fun p => argsOk p.2 p.1.ps
theorem fact_of {fa : List He.Fa} {fn : List He.DefD} {K : PySem.W.Frag} (c : He.SaysD fa fn K) {f : He.Fa} (h : f ∈ fa) : f.ok K = true := by
  obtain ⟨i, e⟩ := List.mem_iff_getElem?.mp h
  exact c.fact i e
theorem def_of {Ts : List DefC} {As : List Arguments} {gcs : List (Str × D)} {frs : List Str} {K : PySem.W.Frag} (c : He.SaysD (faOf Ts gcs frs) (fnOf Ts As) K) (h : allOk Ts As = true) {f : Nat} {d : DefC} (hd : Ts[f]? = some d) : ∃ (fd : FuncData) (a : Arguments), FunD K d.name d.name a d.stmts d.sc [] [] (He.ga K d.name) fd ∧ Binds K fd d.ps [] := by
  simp only [allOk, Bool.and_eq_true, beq_iff_eq] at h
  obtain ⟨hl, h⟩ := h
  have hf := (List.getElem?_eq_some_iff.mp hd).1
  have hA : As[f]? = some As[f] := List.getElem?_eq_getElem (by omega)
  have hz : (Ts.zip As)[f]? = some (d, As[f]) := by
    rw [List.getElem?_zip_eq_some]
    exact ⟨hd, hA⟩
  have hn : (fnOf Ts As)[f]? = some ⟨(d.name, none), d.name, d.name, As[f], d.stmts, d.sc, [], []⟩ := by
    unfold fnOf
    rw [List.getElem?_map, hz]; rfl
  obtain ⟨fd, F⟩ := c.def_ f hn
  exact ⟨fd, As[f], F, binds_ok F (List.all_eq_true.mp h _ (List.mem_of_getElem? hz))⟩
theorem progOk {Ts : List DefC} {As : List Arguments} {gcs : List (Str × D)} {frs : List Str} {K : PySem.W.Frag} {w : World} {h : Heap} {mg : Str → Option Value} (X : K.In h) (G : h.Ns mainGlobals mg) (c : He.SaysD (faOf Ts gcs frs) (fnOf Ts As) K) (ha : allOk Ts As = true) (hg : gcs.all okC = true) (hc : Ts.all (chkD (tab Ts) (gcOf gcs) (frOf frs)) = true) : ProgOk ⟨K, w⟩ mg (tab Ts) (gcOf gcs) (frOf frs) where
  const x d hx := by
    have hm := lookup_mem hx
    have hf := fact_of c (f := faC (x, d)) (by unfold faOf; exact List.mem_append_right _ (List.mem_append_left _ (List.mem_map_of_mem hm)))
    have ho := List.all_eq_true.mp hg _ hm
    cases d with
    | int i => obtain ⟨t, e⟩ := He.int_ok X G (x := x) (i := i) hf; exact ⟨.int i, _, e, ⟨t, rfl⟩, fun _ => rfl⟩
    | str s => obtain ⟨t, e⟩ := He.str_ok X G (x := x) (z := s) hf; exact ⟨.str s, _, e, ⟨t, rfl⟩, fun _ => rfl⟩
    | _ => cases ho
  frees x hx := by
    have hm : x ∈ frs := by simpa [frOf] using hx
    exact He.free_ok X G (fact_of c (f := .free x) (by unfold faOf; exact List.mem_append_right _ (List.mem_append_right _ (List.mem_map_of_mem hm))))
  defs f d hd := by
    obtain ⟨fd, a, F, B⟩ := def_of c ha (show Ts[f]? = some d from hd)
    have hm : d ∈ Ts := List.mem_of_getElem? (show Ts[f]? = some d from hd)
    exact ⟨_, fd, a, F, He.glo_ok X G (fact_of c (f := .glo d.name) (by unfold faOf; exact List.mem_append_left _ (List.mem_map_of_mem hm))), B⟩
  chk f d hd := List.all_eq_true.mp hc d (List.mem_of_getElem? (show Ts[f]? = some d from hd))
/-- the law's def, called with the script -/
theorem law_run {P : Program} {w : World} {Ts : List DefC} {As : List Arguments} {gcs : List (Str × D)} {frs : List Str} {K : PySem.W.Frag} {h : Heap} {mg : Str → Option Value} {fL : Addr} {F k f : Nat} {d : DefC}
    (X : K.In h) (G : h.Ns mainGlobals mg) (hfa : mg d.name = some (.ref fL)) (c : He.SaysD (faOf Ts gcs frs) (fnOf Ts As) K) (ha : allOk Ts As = true) (hg : gcs.all okC = true) (hc : Ts.all (chkD (tab Ts) (gcOf gcs) (frOf frs)) = true) (hd : Ts[f]? = some d) (hp : d.ps = [("script" : Str)])
    (hrun : ∀ ns : List Int, ns.length ≤ 63 → ∃ st, callF (fds (tab Ts)) F k f [.scr ns] [] = .ok (.dat (.bl true)) st) :
    ∃ (fd : FuncData) (sp : Sp), (∀ (s : Shared) (u : Value), BindsTo s fd ⟨[u], []⟩ [("script", u)]) ∧
      (∀ (H : Hp) (a : Addr) (ns : List Int), ns.length ≤ 63 → Only H → SqL K H a (ns.map V.int) → sp [.ref a] H (fun v _ => v = .bl true) fun _ _ _ => False) ∧
      ∀ base : Heap, K.In base → base.Ns mainGlobals mg → FnOk P w K mg base (L2.CX P w) k fL fd ["script"] sp := by
  have O : ProgOk ⟨K, w⟩ mg (tab Ts) (gcOf gcs) (frOf frs) := progOk X G c ha hg hc
  obtain ⟨fd0, a0, F0, B0⟩ := def_of c ha hd
  have hm : d ∈ Ts := List.mem_of_getElem? hd
  have e0 : mg d.name = some (.ref (He.ga K d.name)) := He.glo_ok X G (fact_of c (f := .glo d.name) (by unfold faOf; exact List.mem_append_left _ (List.mem_map_of_mem hm)))
  rw [e0] at hfa
  cases hfa
  refine ⟨fd0, spF ⟨K, w⟩ (fun _ => 0) (callF (fds (tab Ts)) F k f) 1, fun s u => ?_, fun H a ns hl hO hS => ?_, fun base X' G' => ?_⟩
  · have hA : ∃ a1, argsOk a1 [("script" : Str)] = true ∧ FunD K d.name d.name a1 d.stmts d.sc [] [] (He.ga K d.name) fd0 := by
      simp only [allOk, Bool.and_eq_true, beq_iff_eq] at ha
      obtain ⟨hl, h⟩ := ha
      have hf := (List.getElem?_eq_some_iff.mp hd).1
      have hA : As[f]? = some As[f] := List.getElem?_eq_getElem (by omega)
      have hz : (Ts.zip As)[f]? = some (d, As[f]) := by
        rw [List.getElem?_zip_eq_some]
        exact ⟨hd, hA⟩
      have hn : (fnOf Ts As)[f]? = some ⟨(d.name, none), d.name, d.name, As[f], d.stmts, d.sc, [], []⟩ := by
        unfold fnOf
        rw [List.getElem?_map, hz]; rfl
      obtain ⟨fd1, F1⟩ := c.def_ f hn
      have h9 := List.all_eq_true.mp h _ (List.mem_of_getElem? hz)
      rw [show d.ps = [("script" : Str)] from hp] at h9
      have : fd0 = fd1 := by
        obtain ⟨_, _, _, _, _, _, _, _, _, _, rfl, lk0, _⟩ := F0.ex
        obtain ⟨_, _, _, _, _, _, _, _, _, _, rfl, lk1, _⟩ := F1.ex
        have lk1 : K.lookup (He.ga K d.name) = _ := lk1
        rw [lk0] at lk1
        cases lk1
        rfl
      exact ⟨As[f], h9, this ▸ F1⟩
    obtain ⟨a1, h1, F1⟩ := hA
    exact bindsTo_ok F1 h1 s u
  · obtain ⟨st, hr⟩ := hrun ns hl
    refine ⟨rfl, [.scr ns], [], [], ⟨.ref a, [], rfl, ⟨a, rfl, ?_⟩, rfl⟩, ⟨rfl, List.nodup_nil, fun n c h => by simp at h⟩, ?_⟩
    · rcases hS with (hS | hS) | hS
      · rcases hO a with z | ⟨o, xs, z⟩
        · rw [z] at hS; cases hS
        · rw [z] at hS; cases hS
      · exact .inl hS
      · exact .inr hS
    · rw [hr]
      intro H' μ' _ _ v hv
      exact hv
  · obtain ⟨fa', fd', hm', _, _, ⟨ps, F'⟩, ok⟩ := prog_ok (P := P) (base := base) (cA := fun _ => 0) (F := F) O k f d hd
    rw [e0] at hm'
    cases hm'
    have : fd0 = fd' := by
      obtain ⟨_, _, _, _, _, _, _, _, _, _, rfl, lk0, _⟩ := F0.ex
      obtain ⟨_, _, _, _, _, _, _, _, _, _, rfl, lk1, _⟩ := F'.ex
      have lk1 : K.lookup (He.ga K d.name) = _ := lk1
      rw [lk0] at lk1
      cases lk1
      rfl
    subst this
    rw [hp] at ok
    exact ok
/-- a law's end; exceptions may fly within -/
theorem walk_ev {l : PySem.W.OpenLaw} {n k : Nat} {q : Program} {loose : List Str} {XP : (Str → Option Value) → Heap → Prop} {YP : World → Heap → Prop} {d : DefRec} {x : Str}
    (hn : l.most = some n) (hn2 : n ≤ sizeLine) (hdf : d.params.defaults = []) (hr : Room k callerA)
    (F : ∀ (w : World) (mg : Str → Option Value) (fa : Addr) (h : Heap), YP w h → h.Ns mainGlobals mg → mg d.name = some (.ref fa) →
      ∃ (K : PySem.W.Frag) (fd : FuncData) (sp : Sp), K.In h ∧ (∀ (s : Shared) (u : Value), BindsTo s fd ⟨[u], []⟩ [(x, u)]) ∧
        (∀ (H : Hp) (a : Addr) (ns : List Int), ns.length ≤ n → Only H → SqL K H a (ns.map V.int) → sp [.ref a] H (fun v _ => v = .bl true) fun _ _ _ => False) ∧
        ∀ base : Heap, K.In base → base.Ns mainGlobals mg → FnOk l.prog w K mg base (L2.CX l.prog w) k fa fd [x] sp) :
    PySem.W.WalkO q loose XP YP l.row.toRowW d [] (fun f vs => PySem.call f vs) := by
  refine Att.attach_call hn hdf fun w s₀ s₁ mg mb fa o pm cd doc a vs ns G Y ho hd hcd hmg hobj hints hlen hg => ?_
  obtain ⟨K, fd, sp, KX, hb, hsp, hF⟩ := F w mg fa _ Y G.T.g hmg
  refine law_call KX G.T.g G.T.b G.T.builtins G.T.nolimit hg hobj hints (Nat.le_trans hlen hn2) hr hF hb (fun H hO hS => hsp H a ns hlen hO hS) fun H e s' h => ?_
  obtain ⟨_, _, _, _, _, _, _, _, _, _, _, _, z⟩ := h
  exact z
end Ev

namespace Ev
open PySem PySem.Spec PyProof.Rows L2
def top (i : Nat) : Stmt := PySem.Challenge.pw_askedofall_k02_whole_values_near_questio.main.body.getD i (.Pass ⟨0, 0, 0, 0⟩)
def D_fits_name : DefC := ⟨"fits_name", ["value"], ["value", "sign"], false,
  (.cons (.ife (.or (.nt (.isi (.v 0) "str")) (.nt (.cmp2 .LtE .LtE (.c (.int 1)) (.bi .len (.cons (.v 0) .nil)) (.g "LONGEST" (.int 12))))) (.cons (.ret (.c (.bl false)))
    .nil) .nil)
    (.cons (.ret (.and (.cmp .In (.ix (.v 0) (.c (.int 0))) (.g "LETTERS" (.str "abcdefghijklmnopqrstuvwxyz"))) (.bi .all (.cons (.lc (.cmp .In (.v 1) (.g "SIGNS" (.str "abcdefghijklmnopqrstuvwxyz0123456789"))) (.n 1) (.sq (.v 0)) .no [1]) .nil))))
    .nil)),
  defScope (top 7), defBody (top 7)⟩
def D_fits_whole : DefC := ⟨"fits_whole", ["value", "low", "high"], ["value", "low", "high"], false,
  (.cons (.ret (.and (.isi (.v 0) "int") (.and (.nt (.isi (.v 0) "bool")) (.cmp2 .LtE .LtE (.v 1) (.v 0) (.v 2)))))
    .nil),
  defScope (top 8), defBody (top 8)⟩
def D_is_tuple_of : DefC := ⟨"is_tuple_of", ["value", "least", "most"], ["value", "least", "most"], false,
  (.cons (.ret (.and (.isi (.v 0) "tuple") (.cmp2 .LtE .LtE (.v 1) (.bi .len (.cons (.v 0) .nil)) (.v 2))))
    .nil),
  defScope (top 9), defBody (top 9)⟩
def D_are_words : DefC := ⟨"are_words", ["value", "least", "most"], ["value", "least", "most", "one"], false,
  (.cons (.ife (.or (.nt (.call 2 (.cons (.v 0) (.cons (.v 1) (.cons (.v 2) .nil))))) (.nt (.bi .all (.cons (.lc (.call 0 (.cons (.v 3) .nil)) (.n 3) (.sq (.v 0)) .no [3]) .nil)))) (.cons (.ret (.c (.bl false)))
    .nil) .nil)
    (.cons (.ret (.cmp .Eq (.lens (.v 0)) (.bi .len (.cons (.v 0) .nil))))
    .nil)),
  defScope (top 10), defBody (top 10)⟩
def D_fits_kind : DefC := ⟨"fits_kind", ["value"], ["value"], false,
  (.cons (.ife (.or (.nt (.call 2 (.cons (.v 0) (.cons (.c (.int 1)) (.cons (.c (.int 4)) .nil))))) (.nt (.isi (.ix (.v 0) (.c (.int 0))) "str"))) (.cons (.ret (.c (.bl false)))
    .nil) .nil)
    (.cons (.ife (.cmp .Eq (.ix (.v 0) (.c (.int 0))) (.c (.str "one"))) (.cons (.ret (.and (.cmp .Eq (.bi .len (.cons (.v 0) .nil)) (.c (.int 2))) (.call 3 (.cons (.ix (.v 0) (.c (.int 1))) (.cons (.c (.int 1)) (.cons (.c (.int 12)) .nil))))))
    .nil) .nil)
    (.cons (.ife (.cmp .Eq (.ix (.v 0) (.c (.int 0))) (.c (.str "some"))) (.cons (.ife (.or (.cmp .NotEq (.bi .len (.cons (.v 0) .nil)) (.c (.int 4))) (.or (.nt (.call 3 (.cons (.ix (.v 0) (.c (.int 1))) (.cons (.c (.int 1)) (.cons (.c (.int 8)) .nil))))) (.nt (.call 1 (.cons (.ix (.v 0) (.c (.int 2))) (.cons (.c (.int 0)) (.cons (.bi .len (.cons (.ix (.v 0) (.c (.int 1))) .nil)) .nil))))))) (.cons (.ret (.c (.bl false)))
    .nil) .nil)
    (.cons (.ret (.call 1 (.cons (.ix (.v 0) (.c (.int 3))) (.cons (.ix (.v 0) (.c (.int 2))) (.cons (.bi .len (.cons (.ix (.v 0) (.c (.int 1))) .nil)) .nil)))))
    .nil)) .nil)
    (.cons (.ife (.cmp .Eq (.ix (.v 0) (.c (.int 0))) (.c (.str "number"))) (.cons (.ret (.and (.cmp .Eq (.bi .len (.cons (.v 0) .nil)) (.c (.int 3))) (.and (.call 1 (.cons (.ix (.v 0) (.c (.int 1))) (.cons (.neg (.g "FAR" (.int 9999))) (.cons (.g "FAR" (.int 9999)) .nil)))) (.call 1 (.cons (.ix (.v 0) (.c (.int 2))) (.cons (.ix (.v 0) (.c (.int 1))) (.cons (.g "FAR" (.int 9999)) .nil)))))))
    .nil) .nil)
    (.cons (.ret (.cmp .Eq (.v 0) (.tup (.cons (.c (.str "yes")) .nil))))
    .nil))))),
  defScope (top 11), defBody (top 11)⟩
def D_fits_question : DefC := ⟨"fits_question", ["value"], ["value"], false,
  (.cons (.ret (.and (.call 2 (.cons (.v 0) (.cons (.c (.int 3)) (.cons (.c (.int 3)) .nil)))) (.and (.call 0 (.cons (.ix (.v 0) (.c (.int 0))) .nil)) (.and (.call 4 (.cons (.ix (.v 0) (.c (.int 1))) .nil)) (.isi (.ix (.v 0) (.c (.int 2))) "bool")))))
    .nil),
  defScope (top 12), defBody (top 12)⟩
def D_fits_questions : DefC := ⟨"fits_questions", ["value"], ["value", "one", "other"], false,
  (.cons (.ife (.or (.nt (.call 2 (.cons (.v 0) (.cons (.c (.int 0)) (.cons (.g "QUESTIONS" (.int 30)) .nil))))) (.nt (.bi .all (.cons (.lc (.call 5 (.cons (.v 1) .nil)) (.n 1) (.sq (.v 0)) .no [1]) .nil)))) (.cons (.ret (.c (.bl false)))
    .nil) .nil)
    (.cons (.ret (.bi .all (.cons (.lc (.cmp .Lt (.ix (.v 1) (.c (.int 0))) (.ix (.v 2) (.c (.int 0)))) (.t [1, 2]) (.zp (.v 0) (.sl (.v 0) (.so (.c (.int 1))) .no)) .no [1, 2]) .nil)))
    .nil)),
  defScope (top 13), defBody (top 13)⟩
def D_fits_place : DefC := ⟨"fits_place", ["value"], ["value", "one"], false,
  (.cons (.ife (.or (.nt (.call 2 (.cons (.v 0) (.cons (.c (.int 2)) (.cons (.c (.int 2)) .nil))))) (.nt (.call 0 (.cons (.ix (.v 0) (.c (.int 0))) .nil)))) (.cons (.ret (.c (.bl false)))
    .nil) .nil)
    (.cons (.ret (.and (.call 2 (.cons (.ix (.v 0) (.c (.int 1))) (.cons (.c (.int 0)) (.cons (.c (.int 2)) .nil)))) (.bi .all (.cons (.lc (.call 0 (.cons (.v 1) .nil)) (.n 1) (.sq (.ix (.v 0) (.c (.int 1)))) .no [1]) .nil))))
    .nil)),
  defScope (top 14), defBody (top 14)⟩
def D_fits_shape : DefC := ⟨"fits_shape", ["value"], ["value"], false,
  (.cons (.ife (.or (.cmp .Is (.v 0) (.c .non)) (.isi (.v 0) "bool")) (.cons (.ret (.c (.bl true)))
    .nil) .nil)
    (.cons (.ret (.or (.call 0 (.cons (.v 0) .nil)) (.or (.call 1 (.cons (.v 0) (.cons (.neg (.g "FAR" (.int 9999))) (.cons (.g "FAR" (.int 9999)) .nil)))) (.call 3 (.cons (.v 0) (.cons (.c (.int 0)) (.cons (.c (.int 8)) .nil)))))))
    .nil)),
  defScope (top 15), defBody (top 15)⟩
def D_fits_said : DefC := ⟨"fits_said", ["value"], ["value", "one", "other"], false,
  (.cons (.ife (.or (.nt (.call 2 (.cons (.v 0) (.cons (.c (.int 0)) (.cons (.g "PLACES" (.int 200)) .nil))))) (.nt (.bi .all (.cons (.lc (.call 2 (.cons (.v 1) (.cons (.c (.int 2)) (.cons (.c (.int 2)) .nil)))) (.n 1) (.sq (.v 0)) .no [1]) .nil)))) (.cons (.ret (.c (.bl false)))
    .nil) .nil)
    (.cons (.ife (.nt (.bi .all (.cons (.lc (.and (.call 7 (.cons (.ix (.v 1) (.c (.int 0))) .nil)) (.call 8 (.cons (.ix (.v 1) (.c (.int 1))) .nil))) (.n 1) (.sq (.v 0)) .no [1]) .nil))) (.cons (.ret (.c (.bl false)))
    .nil) .nil)
    (.cons (.ret (.bi .all (.cons (.lc (.cmp .Lt (.ix (.v 1) (.c (.int 0))) (.ix (.v 2) (.c (.int 0)))) (.t [1, 2]) (.zp (.v 0) (.sl (.v 0) (.so (.c (.int 1))) .no)) .no [1, 2]) .nil)))
    .nil))),
  defScope (top 16), defBody (top 16)⟩
def D_is_name : DefC := ⟨"is_name", ["value"], ["value"], false,
  (.cons (.ret (.call 0 (.cons (.v 0) .nil)))
    .nil),
  defScope (top 17), defBody (top 17)⟩
def D_is_kind : DefC := ⟨"is_kind", ["value"], ["value"], false,
  (.cons (.ret (.call 4 (.cons (.v 0) .nil)))
    .nil),
  defScope (top 18), defBody (top 18)⟩
def D_are_questions : DefC := ⟨"are_questions", ["value"], ["value"], false,
  (.cons (.ret (.call 6 (.cons (.v 0) .nil)))
    .nil),
  defScope (top 19), defBody (top 19)⟩
def D_is_place : DefC := ⟨"is_place", ["value"], ["value"], false,
  (.cons (.ret (.call 7 (.cons (.v 0) .nil)))
    .nil),
  defScope (top 20), defBody (top 20)⟩
def D_is_said : DefC := ⟨"is_said", ["value"], ["value"], false,
  (.cons (.ret (.call 9 (.cons (.v 0) .nil)))
    .nil),
  defScope (top 21), defBody (top 21)⟩
def D__law_cup : DefC := ⟨"_law_cup", ["script"], ["script", "cell"], true,
  (.cons (.asg (.n 1) (.bi .abs (.cons (.ix (.bin .Add (.bi .list (.cons (.v 0) .nil)) (.lst (.cons (.c (.int 0)) .nil))) (.c (.int 0))) .nil)))
    (.cons (.ret (.nl (.lst (.cons (.ite (.cmp .GtE (.v 1) (.bin .Pow (.c (.int 10)) (.c (.int 18)))) (.bin .FloorDiv (.v 1) (.c (.int 5109))) (.c (.int 0))) (.cons (.bin .Add (.bin .Mod (.bi .int (.cons (.bin .Add (.bin .Mult (.v 1) (.c (.int 6011))) (.c (.int 14021))) .nil)) (.c (.int 2097624031))) (.c (.int 5527))) .nil)))))
    .nil)),
  defScope (top 23), defBody (top 23)⟩
def D__law_roll : DefC := ⟨"_law_roll", ["cup", "many"], ["cup", "many", "found", "deep"], false,
  (.cons (.ife (.cmp .Gt (.ix (.v 0) (.c (.int 0))) (.c (.int 0))) (.cons (.asg (.n 2) (.bin .Mod (.bi .int (.cons (.ix (.v 0) (.c (.int 0))) .nil)) (.v 1)))
    (.cons (.sst (.v 0) (.c (.int 0)) (.bin .FloorDiv (.ix (.v 0) (.c (.int 0))) (.v 1)))
    (.cons (.ret (.v 2))
    .nil))) .nil)
    (.cons (.sst (.v 0) (.c (.int 1)) (.bin .Mod (.bi .int (.cons (.bin .Add (.bin .Mult (.ix (.v 0) (.c (.int 1))) (.c (.int 39545))) (.c (.int 15025))) .nil)) (.c (.int 2147483497))))
    (.cons (.asg (.n 3) (.bin .Mod (.bi .int (.cons (.bin .Mult (.ix (.v 0) (.c (.int 1))) (.bin .Add (.ix (.v 0) (.c (.int 1))) (.c (.int 4625)))) .nil)) (.c (.int 2147483237))))
    (.cons (.ret (.bin .Mod (.bi .int (.cons (.bin .FloorDiv (.v 3) (.c (.int 5307))) .nil)) (.v 1)))
    .nil)))),
  defScope (top 24), defBody (top 24)⟩
def D__law_some : DefC := ⟨"_law_some", ["cup", "things"], ["cup", "things"], false,
  (.cons (.ret (.ix (.v 1) (.call 16 (.cons (.v 0) (.cons (.bi .len (.cons (.v 1) .nil)) .nil)))))
    .nil),
  defScope (top 25), defBody (top 25)⟩
def D__law_turned : DefC := ⟨"_law_turned", ["cup", "things"], ["cup", "things", "left", "found", "turn"], false,
  (.cons (.asg (.t [2, 3]) (.tup (.cons (.nl (.bi .list (.cons (.v 1) .nil))) (.cons (.nl (.lst .nil)) .nil))))
    (.cons (.for (.n 4) (.sq (.v 1)) (.cons (.ex (.mt .append (.v 3) (.cons (.mt .pop (.v 2) (.cons (.call 16 (.cons (.v 0) (.cons (.bi .len (.cons (.v 2) .nil)) .nil))) .nil)) .nil)))
    .nil))
    (.cons (.ret (.v 3))
    .nil))),
  defScope (top 26), defBody (top 26)⟩
def D__law_kind : DefC := ⟨"_law_kind", ["cup", "many"], ["cup", "many", "words", "kind", "low", "least"], false,
  (.cons (.asg (.n 2) (.bi .tuple (.cons (.sl (.call 18 (.cons (.v 0) (.cons (.lst (.cons (.c (.str "ant")) (.cons (.c (.str "bee")) (.cons (.c (.str "cat")) (.cons (.c (.str "dog")) (.cons (.c (.str "elk")) (.cons (.c (.str "fox")) .nil))))))) .nil))) .no (.so (.bin .Add (.c (.int 1)) (.call 16 (.cons (.v 0) (.cons (.v 1) .nil)))))) .nil)))
    (.cons (.asg (.n 3) (.call 17 (.cons (.v 0) (.cons (.lst (.cons (.c (.str "yes")) (.cons (.c (.str "one")) (.cons (.c (.str "some")) (.cons (.c (.str "number")) .nil))))) .nil))))
    (.cons (.asg (.n 4) (.call 17 (.cons (.v 0) (.cons (.lst (.cons (.c (.int 0)) (.cons (.neg (.c (.int 2))) (.cons (.call 16 (.cons (.v 0) (.cons (.c (.int 5)) .nil))) (.cons (.neg (.c (.int 9999))) (.cons (.c (.int 9990)) .nil)))))) .nil))))
    (.cons (.ife (.cmp .Eq (.v 3) (.c (.str "some"))) (.cons (.asg (.n 5) (.call 16 (.cons (.v 0) (.cons (.bin .Add (.bi .len (.cons (.v 2) .nil)) (.c (.int 1))) .nil))))
    (.cons (.ret (.tup (.cons (.c (.str "some")) (.cons (.v 2) (.cons (.v 5) (.cons (.bin .Add (.v 5) (.call 16 (.cons (.v 0) (.cons (.bin .Add (.bin .Sub (.bi .len (.cons (.v 2) .nil)) (.v 5)) (.c (.int 1))) .nil)))) .nil))))))
    .nil)) .nil)
    (.cons (.ret (.ix (.dic (.cons (.c (.str "yes")) (.tup (.cons (.c (.str "yes")) .nil)) (.cons (.c (.str "one")) (.tup (.cons (.c (.str "one")) (.cons (.v 2) .nil))) (.cons (.c (.str "number")) (.tup (.cons (.c (.str "number")) (.cons (.v 4) (.cons (.bin .Add (.v 4) (.call 16 (.cons (.v 0) (.cons (.c (.int 8)) .nil)))) .nil)))) .nil)))) (.v 3)))
    .nil))))),
  defScope (top 27), defBody (top 27)⟩
def D__law_questions : DefC := ⟨"_law_questions", ["cup", "many", "size"], ["cup", "many", "size", "names", "name"], false,
  (.cons (.asg (.n 3) (.sl (.lst (.cons (.c (.str "a")) (.cons (.c (.str "b")) (.cons (.c (.str "c")) (.cons (.c (.str "d")) (.cons (.c (.str "e")) .nil)))))) .no (.so (.bin .Add (.c (.int 1)) (.call 16 (.cons (.v 0) (.cons (.v 1) .nil)))))))
    (.cons (.ret (.bi .tuple (.cons (.lc (.tup (.cons (.v 4) (.cons (.call 19 (.cons (.v 0) (.cons (.v 2) .nil))) (.cons (.cmp .Eq (.call 16 (.cons (.v 0) (.cons (.c (.int 2)) .nil))) (.c (.int 0))) .nil)))) (.n 4) (.sq (.v 3)) .no [4]) .nil)))
    .nil)),
  defScope (top 28), defBody (top 28)⟩
def D__law_answers : DefC := ⟨"_law_answers", ["question"], ["question", "name", "kind", "free", "found", "rows", "at", "row"], false,
  (.cons (.asg (.t [1, 2, 3]) (.v 0))
    (.cons (.ife (.cmp .Eq (.ix (.v 2) (.c (.int 0))) (.c (.str "yes"))) (.cons (.asg (.n 4) (.lst (.cons (.c (.bl false)) (.cons (.c (.bl true)) .nil))))
    .nil) (.cons (.ife (.cmp .Eq (.ix (.v 2) (.c (.int 0))) (.c (.str "one"))) (.cons (.asg (.n 4) (.bi .list (.cons (.ix (.v 2) (.c (.int 1))) .nil)))
    .nil) (.cons (.ife (.cmp .Eq (.ix (.v 2) (.c (.int 0))) (.c (.str "number"))) (.cons (.asg (.n 4) (.lrg (.ix (.v 2) (.c (.int 1))) (.bin .Add (.ix (.v 2) (.c (.int 2))) (.c (.int 1)))))
    .nil) (.cons (.asg (.n 5) (.lst (.cons (.tup .nil) .nil)))
    (.cons (.for (.n 6) (.r1 (.bi .len (.cons (.ix (.v 2) (.c (.int 1))) .nil))) (.cons (.asg (.n 5) (.bin .Add (.v 5) (.lc (.bin .Add (.v 7) (.tup (.cons (.v 6) .nil))) (.n 7) (.sq (.v 5)) .no [7])))
    .nil))
    (.cons (.asg (.n 4) (.lc (.bi .tuple (.cons (.lc (.ix (.ix (.v 2) (.c (.int 1))) (.v 6)) (.n 6) (.sq (.v 7)) .no [6]) .nil)) (.n 7) (.sq (.bi .sorted (.cons (.v 5) .nil))) (.so (.cmp2 .LtE .LtE (.ix (.v 2) (.c (.int 2))) (.bi .len (.cons (.v 7) .nil)) (.ix (.v 2) (.c (.int 3))))) [7]))
    .nil))))
    .nil))
    .nil))
    (.cons (.ret (.bin .Add (.ite (.v 3) (.lst (.cons (.c .non) .nil)) (.lst .nil)) (.v 4)))
    .nil))),
  defScope (top 29), defBody (top 29)⟩
def D__law_said : DefC := ⟨"_law_said", ["cup", "questions", "many"], ["cup", "questions", "many", "found", "turn", "question", "words", "word", "place"], false,
  (.cons (.asg (.n 3) .ndt)
    (.cons (.for (.n 4) (.r1 (.call 16 (.cons (.v 0) (.cons (.bin .Add (.v 2) (.c (.int 1))) .nil)))) (.cons (.asg (.n 5) (.call 17 (.cons (.v 0) (.cons (.v 1) .nil))))
    (.cons (.asg (.n 6) (.bi .tuple (.cons (.lc (.call 17 (.cons (.v 0) (.cons (.lst (.cons (.c (.str "ant")) (.cons (.c (.str "bee")) (.cons (.c (.str "cat")) .nil)))) .nil))) (.n 7) (.r1 (.call 17 (.cons (.v 0) (.cons (.lst (.cons (.c (.int 0)) (.cons (.c (.int 0)) (.cons (.c (.int 1)) (.cons (.c (.int 2)) .nil))))) .nil)))) .no [7]) .nil)))
    (.cons (.sst (.v 3) (.tup (.cons (.ix (.v 5) (.c (.int 0))) (.cons (.v 6) .nil))) (.call 17 (.cons (.v 0) (.cons (.call 21 (.cons (.v 5) .nil)) .nil))))
    .nil))))
    (.cons (.ret (.bi .tuple (.cons (.lc (.tup (.cons (.v 8) (.cons (.ix (.v 3) (.v 8)) .nil))) (.n 8) (.sq (.bi .sorted (.cons (.v 3) .nil))) .no [8]) .nil)))
    .nil))),
  defScope (top 30), defBody (top 30)⟩
def D__law_kinds_right : DefC := ⟨"_law_kinds_right", ["cup"], ["cup", "kind", "odds", "words", "rest", "many", "at", "bent", "least", "most", "odd"], false,
  (.cons (.asg (.n 1) (.call 19 (.cons (.v 0) (.cons (.c (.int 6)) .nil))))
    (.cons (.asg (.n 2) (.nl (.lst (.cons (.bi .list (.cons (.v 1) .nil)) (.cons (.sl (.v 1) .no (.so (.neg (.c (.int 1))))) (.cons (.bin .Add (.v 1) (.tup (.cons (.c (.int 1)) .nil))) (.cons (.bin .Add (.tup (.cons (.mt .upper (.ix (.v 1) (.c (.int 0))) .nil) .nil)) (.sl (.v 1) (.so (.c (.int 1))) .no)) (.cons (.bin .Add (.tup (.cons (.c .non) .nil)) (.sl (.v 1) (.so (.c (.int 1))) .no)) (.cons (.c (.str "yes")) (.cons (.c .non) (.cons (.c (.int 5)) (.cons (.tup .nil) .nil))))))))))))
    (.cons (.ife (.cmp .Eq (.ix (.v 1) (.c (.int 0))) (.c (.str "number"))) (.cons (.asg (.n 2) (.bin .Add (.v 2) (.lst (.cons (.tup (.cons (.c (.str "number")) (.cons (.bin .Add (.ix (.v 1) (.c (.int 2))) (.c (.int 1))) (.cons (.ix (.v 1) (.c (.int 2))) .nil)))) (.cons (.tup (.cons (.c (.str "number")) (.cons (.neg (.c (.int 10000))) (.cons (.c (.int 0)) .nil)))) (.cons (.tup (.cons (.c (.str "number")) (.cons (.c (.int 0)) (.cons (.c (.int 10000)) .nil)))) .nil))))))
    (.cons (.asg (.n 2) (.bin .Add (.v 2) (.lst (.cons (.tup (.cons (.c (.str "number")) (.cons (.c (.bl true)) (.cons (.c (.int 5)) .nil)))) (.cons (.tup (.cons (.c (.str "number")) (.cons (.c (.int 0)) (.cons (.c .non) .nil)))) (.cons (.tup (.cons (.c (.str "number")) (.cons (.c (.str "0")) (.cons (.c (.int 5)) .nil)))) .nil))))))
    .nil)) .nil)
    (.cons (.ife (.cmp .In (.ix (.v 1) (.c (.int 0))) (.tup (.cons (.c (.str "one")) (.cons (.c (.str "some")) .nil)))) (.cons (.asg (.t [3, 4]) (.tup (.cons (.ix (.v 1) (.c (.int 1))) (.cons (.sl (.v 1) (.so (.c (.int 2))) .no) .nil))))
    (.cons (.asg (.n 5) (.bi .tuple (.cons (.lc (.bin .Add (.c (.str "w")) (.bi .str (.cons (.v 6) .nil))) (.n 6) (.r2 (.c (.int 10)) (.c (.int 23))) .no [6]) .nil)))
    (.cons (.for (.n 7) (.sq (.tup (.cons (.bi .list (.cons (.v 3) .nil)) (.cons (.tup .nil) (.cons (.bin .Add (.v 3) (.sl (.v 3) .no (.so (.c (.int 1))))) (.cons (.bin .Add (.v 3) (.tup (.cons (.c (.str "Ant")) .nil))) (.cons (.bin .Add (.v 3) (.tup (.cons (.c (.int 5)) .nil))) (.cons (.bin .Add (.v 3) (.tup (.cons (.c (.str "")) .nil))) (.cons (.c (.str "ant")) (.cons (.v 5) .nil)))))))))) (.cons (.ex (.mt .append (.v 2) (.cons (.bin .Add (.tup (.cons (.ix (.v 1) (.c (.int 0))) (.cons (.v 7) .nil))) (.v 4)) .nil)))
    .nil))
    .nil))) .nil)
    (.cons (.ife (.cmp .Eq (.ix (.v 1) (.c (.int 0))) (.c (.str "some"))) (.cons (.asg (.t [3, 8, 9]) (.sl (.v 1) (.so (.c (.int 1))) .no))
    (.cons (.asg (.n 2) (.bin .Add (.v 2) (.lst (.cons (.tup (.cons (.c (.str "some")) (.cons (.v 3) (.cons (.bin .Add (.v 9) (.c (.int 1))) (.cons (.v 9) .nil))))) (.cons (.tup (.cons (.c (.str "some")) (.cons (.v 3) (.cons (.neg (.c (.int 1))) (.cons (.v 9) .nil))))) .nil)))))
    (.cons (.asg (.n 2) (.bin .Add (.v 2) (.lst (.cons (.tup (.cons (.c (.str "some")) (.cons (.v 3) (.cons (.v 8) (.cons (.bin .Add (.bi .len (.cons (.v 3) .nil)) (.c (.int 1))) .nil))))) (.cons (.tup (.cons (.c (.str "some")) (.cons (.v 3) (.cons (.c (.bl true)) (.cons (.c (.int 1)) .nil))))) .nil)))))
    (.cons (.asg (.n 2) (.bin .Add (.v 2) (.lst (.cons (.tup (.cons (.c (.str "some")) (.cons (.v 3) (.cons (.v 8) (.cons (.c .non) .nil))))) (.cons (.tup (.cons (.c (.str "some")) (.cons (.bi .tuple (.cons (.lc (.bin .Add (.c (.str "w")) (.bi .str (.cons (.v 6) .nil))) (.n 6) (.r1 (.c (.int 9))) .no [6]) .nil)) (.cons (.c (.int 0)) (.cons (.c (.int 1)) .nil))))) .nil)))))
    .nil)))) .nil)
    (.cons (.for (.n 10) (.sq (.v 2)) (.cons (.ife (.or (.cmp .IsNot (.call 11 (.cons (.v 10) .nil)) (.c (.bl false))) (.cmp .IsNot (.call 11 (.cons (.v 1) .nil)) (.c (.bl true)))) (.cons (.ret (.c (.bl false)))
    .nil) .nil)
    .nil))
    (.cons (.ret (.c (.bl true)))
    .nil))))))),
  defScope (top 31), defBody (top 31)⟩
def D__law_questions_right : DefC := ⟨"_law_questions_right", ["cup"], ["cup", "questions", "at", "name", "kind", "free", "rows", "odds", "row", "odd"], false,
  (.cons (.asg (.n 1) (.call 20 (.cons (.v 0) (.cons (.c (.int 5)) (.cons (.c (.int 4)) .nil)))))
    (.cons (.asg (.n 2) (.call 16 (.cons (.v 0) (.cons (.bi .len (.cons (.v 1) .nil)) .nil))))
    (.cons (.asg (.t [3, 4, 5]) (.ix (.v 1) (.v 2)))
    (.cons (.asg (.n 6) (.lst (.cons (.tup (.cons (.v 3) (.cons (.v 4) .nil))) (.cons (.tup (.cons (.v 3) (.cons (.v 4) (.cons (.v 5) (.cons (.c (.int 1)) .nil))))) (.cons (.lst (.cons (.v 3) (.cons (.v 4) (.cons (.v 5) .nil)))) (.cons (.tup (.cons (.v 3) (.cons (.v 4) (.cons (.c (.int 0)) .nil)))) .nil))))))
    (.cons (.asg (.n 6) (.bin .Add (.v 6) (.lst (.cons (.tup (.cons (.v 3) (.cons (.v 4) (.cons (.c (.int 1)) .nil)))) (.cons (.tup (.cons (.v 3) (.cons (.v 4) (.cons (.c .non) .nil)))) (.cons (.tup (.cons (.v 3) (.cons (.tup (.cons (.c (.str "yes")) (.cons (.c (.int 1)) .nil))) (.cons (.v 5) .nil)))) .nil))))))
    (.cons (.asg (.n 6) (.bin .Add (.v 6) (.lst (.cons (.tup (.cons (.c (.str "")) (.cons (.v 4) (.cons (.v 5) .nil)))) (.cons (.tup (.cons (.c (.str "A")) (.cons (.v 4) (.cons (.v 5) .nil)))) (.cons (.tup (.cons (.bin .Add (.v 3) (.c (.str "_"))) (.cons (.v 4) (.cons (.v 5) .nil)))) (.cons (.tup (.cons (.c (.int 5)) (.cons (.v 4) (.cons (.v 5) .nil)))) (.cons (.c .non) (.cons (.tup (.cons (.v 3) (.cons (.c (.str "yes")) (.cons (.v 5) .nil)))) .nil)))))))))
    (.cons (.asg (.n 7) (.lc (.bin .Add (.bin .Add (.sl (.v 1) .no (.so (.v 2))) (.tup (.cons (.v 8) .nil))) (.sl (.v 1) (.so (.bin .Add (.v 2) (.c (.int 1)))) .no)) (.n 8) (.sq (.v 6)) .no [8]))
    (.cons (.asg (.n 7) (.bin .Add (.v 7) (.lst (.cons (.bi .list (.cons (.v 1) .nil)) (.cons (.bin .Add (.v 1) (.sl (.v 1) (.so (.neg (.c (.int 1)))) .no)) (.cons (.c .non) (.cons (.c (.int 5)) (.cons (.c (.str "a")) (.cons (.bin .Add (.tup (.cons (.tup (.cons (.c (.str "zz")) (.cons (.tup (.cons (.c (.str "yes")) .nil)) (.cons (.c (.bl false)) .nil)))) .nil)) (.v 1)) .nil)))))))))
    (.cons (.asg (.n 7) (.bin .Add (.v 7) (.lst (.cons (.ite (.cmp .Gt (.bi .len (.cons (.v 1) .nil)) (.c (.int 1))) (.rv (.v 1)) (.tup (.cons (.c .non) .nil))) .nil))))
    (.cons (.for (.n 9) (.sq (.v 7)) (.cons (.ife (.or (.cmp .IsNot (.call 12 (.cons (.v 9) .nil)) (.c (.bl false))) (.cmp .IsNot (.call 12 (.cons (.v 1) .nil)) (.c (.bl true)))) (.cons (.ret (.c (.bl false)))
    .nil) .nil)
    .nil))
    (.cons (.ret (.c (.bl true)))
    .nil))))))))))),
  defScope (top 32), defBody (top 32)⟩
def D__law_said_right : DefC := ⟨"_law_said_right", ["cup"], ["cup", "said", "words", "word", "place", "odds", "odd", "bent", "answer", "at", "many"], false,
  (.cons (.asg (.n 1) (.call 22 (.cons (.v 0) (.cons (.call 20 (.cons (.v 0) (.cons (.c (.int 5)) (.cons (.c (.int 4)) .nil)))) (.cons (.c (.int 8)) .nil)))))
    (.cons (.asg (.n 2) (.bi .tuple (.cons (.lc (.call 17 (.cons (.v 0) (.cons (.lst (.cons (.c (.str "ant")) (.cons (.c (.str "ant")) (.cons (.c (.str "bee")) .nil)))) .nil))) (.n 3) (.r1 (.call 16 (.cons (.v 0) (.cons (.c (.int 3)) .nil)))) .no [3]) .nil)))
    (.cons (.asg (.n 4) (.tup (.cons (.call 17 (.cons (.v 0) (.cons (.lst (.cons (.c (.str "a")) (.cons (.c (.str "z9")) (.cons (.c (.str "abcdefghijkl")) .nil)))) .nil))) (.cons (.v 2) .nil))))
    (.cons (.ife (.or (.cmp .IsNot (.call 14 (.cons (.v 1) .nil)) (.c (.bl true))) (.cmp .IsNot (.call 13 (.cons (.v 4) .nil)) (.c (.bl true)))) (.cons (.ret (.c (.bl false)))
    .nil) .nil)
    (.cons (.asg (.n 5) (.lst (.cons (.tup (.cons (.ix (.v 4) (.c (.int 0))) .nil)) (.cons (.bin .Add (.v 4) (.tup (.cons (.tup .nil) .nil))) (.cons (.lst (.cons (.ix (.v 4) (.c (.int 0))) (.cons (.v 2) .nil))) (.cons (.tup (.cons (.ix (.v 4) (.c (.int 0))) (.cons (.bi .list (.cons (.v 2) .nil)) .nil))) (.cons (.tup (.cons (.c (.str "A")) (.cons (.v 2) .nil))) (.cons (.tup (.cons (.c .non) (.cons (.v 2) .nil))) (.cons (.c .non) (.cons (.c (.int 5)) .nil))))))))))
    (.cons (.for (.n 6) (.sq (.bin .Add (.v 5) (.lc (.tup (.cons (.ix (.v 4) (.c (.int 0))) (.cons (.v 7) .nil))) (.n 7) (.sq (.tup (.cons (.bin .Mult (.tup (.cons (.c (.str "ant")) .nil)) (.c (.int 3))) (.cons (.tup (.cons (.c (.str "Ant")) .nil)) (.cons (.tup (.cons (.c .non) .nil)) (.cons (.c (.str "ant")) (.cons (.tup (.cons (.c (.str "ant")) (.cons (.c (.str "")) .nil))) .nil))))))) .no [7]))) (.cons (.ife (.or (.cmp .IsNot (.call 13 (.cons (.v 6) .nil)) (.c (.bl false))) (.cmp .IsNot (.call 14 (.cons (.tup (.cons (.tup (.cons (.v 6) (.cons (.c .non) .nil))) .nil)) .nil)) (.c (.bl false)))) (.cons (.ret (.c (.bl false)))
    .nil) .nil)
    .nil))
    (.cons (.for (.n 8) (.sq (.tup (.cons (.c .non) (.cons (.c (.bl true)) (.cons (.c (.bl false)) (.cons (.c (.int 9999)) (.cons (.neg (.c (.int 9999))) (.cons (.c (.int 0)) (.cons (.c (.str "ant")) (.cons (.tup .nil) (.cons (.tup (.cons (.c (.str "ant")) .nil)) (.cons (.tup (.cons (.c (.str "b")) (.cons (.c (.str "a")) .nil))) (.cons (.bi .tuple (.cons (.lc (.bin .Add (.c (.str "w")) (.bi .str (.cons (.v 9) .nil))) (.n 9) (.r1 (.c (.int 8))) .no [9]) .nil)) .nil))))))))))))) (.cons (.ife (.cmp .IsNot (.call 14 (.cons (.tup (.cons (.tup (.cons (.v 4) (.cons (.v 8) .nil))) .nil)) .nil)) (.c (.bl true))) (.cons (.ret (.c (.bl false)))
    .nil) .nil)
    .nil))
    (.cons (.asg (.n 10) (.bi .tuple (.cons (.lc (.bin .Add (.c (.str "w")) (.bi .str (.cons (.v 9) .nil))) (.n 9) (.r1 (.c (.int 9))) .no [9]) .nil)))
    (.cons (.for (.n 8) (.sq (.tup (.cons (.c (.int 10000)) (.cons (.neg (.c (.int 10000))) (.cons (.c (.str "Ant")) (.cons (.c (.str "")) (.cons (.lst (.cons (.c (.str "ant")) .nil)) (.cons (.tup (.cons (.c (.str "ant")) (.cons (.c (.str "ant")) .nil))) (.cons (.tup (.cons (.c .non) .nil)) (.cons (.tup (.cons (.c (.int 1)) .nil)) (.cons (.tup (.cons (.c (.str "ant")) (.cons (.c (.str "")) .nil))) (.cons (.v 10) (.cons (.tup (.cons (.tup .nil) .nil)) .nil))))))))))))) (.cons (.ife (.cmp .IsNot (.call 14 (.cons (.tup (.cons (.tup (.cons (.v 4) (.cons (.v 8) .nil))) .nil)) .nil)) (.c (.bl false))) (.cons (.ret (.c (.bl false)))
    .nil) .nil)
    .nil))
    (.cons (.asg (.n 5) (.lst (.cons (.bi .list (.cons (.v 1) .nil)) (.cons (.ite (.cmp .NotEq (.v 1) (.tup .nil)) (.bin .Add (.v 1) (.sl (.v 1) (.so (.neg (.c (.int 1)))) .no)) (.c (.int 5))) (.cons (.ite (.cmp .Gt (.bi .len (.cons (.v 1) .nil)) (.c (.int 1))) (.rv (.v 1)) (.c .non)) (.cons (.bin .Add (.v 1) (.tup (.cons (.tup (.cons (.v 4) .nil)) .nil))) .nil))))))
    (.cons (.asg (.n 5) (.bin .Add (.v 5) (.lst (.cons (.bin .Add (.v 1) (.tup (.cons (.tup (.cons (.v 4) (.cons (.c (.int 1)) (.cons (.c (.int 2)) .nil)))) .nil))) (.cons (.bin .Add (.v 1) (.tup (.cons (.lst (.cons (.v 4) (.cons (.c (.int 1)) .nil))) .nil))) (.cons (.bin .Add (.v 1) (.tup (.cons (.c .non) .nil))) .nil))))))
    (.cons (.ret (.and (.cmp .Eq (.lc (.v 6) (.n 6) (.sq (.v 5)) (.so (.cmp .IsNot (.call 14 (.cons (.v 6) .nil)) (.c (.bl false)))) [6]) (.lst .nil)) (.cmp .Is (.call 14 (.cons (.v 1) .nil)) (.c (.bl true)))))
    .nil)))))))))))),
  defScope (top 33), defBody (top 33)⟩
def D_law : DefC := ⟨"law", ["script"], ["script", "cup", "name", "odd", "eight", "twelve", "at", "kinds", "kind", "many", "pair", "told", "value", "pairs", "turn"], false,
  (.cons (.asg (.n 1) (.call 15 (.cons (.v 0) .nil)))
    (.cons (.ife (.cmp .NotEq (.lc (.v 2) (.n 2) (.sq (.tup (.cons (.c (.str "a")) (.cons (.c (.str "z9")) (.cons (.c (.str "abcdefghijkl")) (.cons (.c (.str "x0y1")) .nil)))))) (.so (.cmp .IsNot (.call 10 (.cons (.v 2) .nil)) (.c (.bl true)))) [2]) (.lst .nil)) (.cons (.ret (.c (.bl false)))
    .nil) .nil)
    (.cons (.ife (.cmp .NotEq (.lc (.v 3) (.n 3) (.sq (.tup (.cons (.c (.str "")) (.cons (.c (.str "9a")) (.cons (.c (.str "abcdefghijklm")) (.cons (.c (.str "Age")) (.cons (.c (.str "a b")) (.cons (.c (.str "a-b")) (.cons (.c .non) (.cons (.c (.int 5)) (.cons (.tup (.cons (.c (.str "a")) .nil)) (.cons (.lst (.cons (.c (.str "a")) .nil)) (.cons (.c (.bl true)) .nil))))))))))))) (.so (.cmp .IsNot (.call 10 (.cons (.v 3) .nil)) (.c (.bl false)))) [3]) (.lst .nil)) (.cons (.ret (.c (.bl false)))
    .nil) .nil)
    (.cons (.asg (.t [4, 5]) (.tup (.cons (.bi .tuple (.cons (.lc (.bin .Add (.c (.str "w")) (.bi .str (.cons (.v 6) .nil))) (.n 6) (.r1 (.c (.int 8))) .no [6]) .nil)) (.cons (.bi .tuple (.cons (.lc (.bin .Add (.c (.str "w")) (.bi .str (.cons (.v 6) .nil))) (.n 6) (.r3 (.c (.int 21)) (.c (.int 9)) (.neg (.c (.int 1)))) .no [6]) .nil)) .nil))))
    (.cons (.asg (.n 7) (.tup (.cons (.tup (.cons (.c (.str "yes")) .nil)) (.cons (.tup (.cons (.c (.str "one")) (.cons (.v 5) .nil))) (.cons (.tup (.cons (.c (.str "some")) (.cons (.v 4) (.cons (.c (.int 8)) (.cons (.c (.int 8)) .nil))))) (.cons (.tup (.cons (.c (.str "some")) (.cons (.v 4) (.cons (.c (.int 0)) (.cons (.c (.int 0)) .nil))))) (.cons (.tup (.cons (.c (.str "number")) (.cons (.neg (.c (.int 9999))) (.cons (.c (.int 9999)) .nil)))) (.cons (.tup (.cons (.c (.str "number")) (.cons (.c (.int 7)) (.cons (.c (.int 7)) .nil)))) .nil))))))))
    (.cons (.ife (.cmp .NotEq (.lc (.v 8) (.n 8) (.sq (.v 7)) (.so (.cmp .IsNot (.call 11 (.cons (.v 8) .nil)) (.c (.bl true)))) [8]) (.lst .nil)) (.cons (.ret (.c (.bl false)))
    .nil) .nil)
    (.cons (.ife (.cmp .IsNot (.call 11 (.cons (.tup (.cons (.c (.str "one")) (.cons (.bin .Add (.v 5) (.tup (.cons (.c (.str "x")) .nil))) .nil))) .nil)) (.c (.bl false))) (.cons (.ret (.c (.bl false)))
    .nil) .nil)
    (.cons (.ife (.cmp .IsNot (.call 11 (.cons (.tup (.cons (.c (.str "maybe")) .nil)) .nil)) (.c (.bl false))) (.cons (.ret (.c (.bl false)))
    .nil) .nil)
    (.cons (.asg (.n 9) (.bi .tuple (.cons (.lc (.tup (.cons (.bin .Add (.c (.str "q")) (.bi .str (.cons (.v 6) .nil))) (.cons (.tup (.cons (.c (.str "yes")) .nil)) (.cons (.cmp .Gt (.v 6) (.c (.int 20))) .nil)))) (.n 6) (.r2 (.c (.int 10)) (.c (.int 41))) .no [6]) .nil)))
    (.cons (.asg (.n 10) (.tup (.cons (.tup (.cons (.c (.str "q10")) (.cons (.tup (.cons (.c (.str "yes")) .nil)) (.cons (.c (.bl true)) .nil)))) (.cons (.tup (.cons (.c (.str "q9")) (.cons (.tup (.cons (.c (.str "yes")) .nil)) (.cons (.c (.bl true)) .nil)))) .nil))))
    (.cons (.asg (.n 11) (.bin .Add (.lc (.call 12 (.cons (.v 12) .nil)) (.n 12) (.sq (.tup (.cons (.sl (.v 9) .no (.so (.c (.int 30)))) (.cons (.v 9) (.cons (.tup .nil) (.cons (.v 10) (.cons (.rv (.v 10)) .nil))))))) .no [12]) (.lst (.cons (.call 13 (.cons (.tup (.cons (.c (.str "a")) (.cons (.tup (.cons (.c (.str "b")) (.cons (.c (.str "b")) .nil))) .nil))) .nil)) .nil))))
    (.cons (.ife (.cmp .NotEq (.v 11) (.lst (.cons (.c (.bl true)) (.cons (.c (.bl false)) (.cons (.c (.bl true)) (.cons (.c (.bl true)) (.cons (.c (.bl false)) (.cons (.c (.bl true)) .nil)))))))) (.cons (.ret (.c (.bl false)))
    .nil) .nil)
    (.cons (.asg (.n 13) (.lst (.cons (.tup (.cons (.tup (.cons (.c (.str "a")) (.cons (.tup .nil) .nil))) (.cons (.c (.int 1)) .nil))) (.cons (.tup (.cons (.tup (.cons (.c (.str "a")) (.cons (.tup (.cons (.c (.str "b")) .nil)) .nil))) (.cons (.c (.int 1)) .nil))) (.cons (.tup (.cons (.tup (.cons (.c (.str "a")) (.cons (.tup (.cons (.c (.str "b")) (.cons (.c (.str "a")) .nil))) .nil))) (.cons (.c (.int 1)) .nil))) (.cons (.tup (.cons (.tup (.cons (.c (.str "a")) (.cons (.tup (.cons (.c (.str "c")) .nil)) .nil))) (.cons (.c (.int 1)) .nil))) (.cons (.tup (.cons (.tup (.cons (.c (.str "ab")) (.cons (.tup .nil) .nil))) (.cons (.c (.int 1)) .nil))) .nil)))))))
    (.cons (.ife (.cmp .IsNot (.call 14 (.cons (.bi .tuple (.cons (.v 13) .nil)) .nil)) (.c (.bl true))) (.cons (.ret (.c (.bl false)))
    .nil) .nil)
    (.cons (.ife (.cmp .NotEq (.lc (.v 6) (.n 6) (.r1 (.c (.int 4))) (.so (.cmp .IsNot (.call 14 (.cons (.bi .tuple (.cons (.bin .Add (.bin .Add (.sl (.v 13) .no (.so (.v 6))) (.lst (.cons (.ix (.v 13) (.bin .Add (.v 6) (.c (.int 1)))) (.cons (.ix (.v 13) (.v 6)) .nil)))) (.sl (.v 13) (.so (.bin .Add (.v 6) (.c (.int 2)))) .no)) .nil)) .nil)) (.c (.bl false)))) [6]) (.lst .nil)) (.cons (.ret (.c (.bl false)))
    .nil) .nil)
    (.cons (.for (.n 14) (.r1 (.c (.int 9))) (.cons (.ife (.or (.nt (.call 23 (.cons (.v 1) .nil))) (.or (.nt (.call 24 (.cons (.v 1) .nil))) (.nt (.call 25 (.cons (.v 1) .nil))))) (.cons (.ret (.c (.bl false)))
    .nil) .nil)
    .nil))
    (.cons (.ret (.c (.bl true)))
    .nil))))))))))))))))),
  defScope (top 34), defBody (top 34)⟩
def Ts : List DefC := [D_fits_name, D_fits_whole, D_is_tuple_of, D_are_words, D_fits_kind, D_fits_question, D_fits_questions, D_fits_place, D_fits_shape, D_fits_said, D_is_name, D_is_kind, D_are_questions, D_is_place, D_is_said, D__law_cup, D__law_roll, D__law_some, D__law_turned, D__law_kind, D__law_questions, D__law_answers, D__law_said, D__law_kinds_right, D__law_questions_right, D__law_said_right, D_law]
def As : List Arguments := [defArgs (top 7), defArgs (top 8), defArgs (top 9), defArgs (top 10), defArgs (top 11), defArgs (top 12), defArgs (top 13), defArgs (top 14), defArgs (top 15), defArgs (top 16), defArgs (top 17), defArgs (top 18), defArgs (top 19), defArgs (top 20), defArgs (top 21), defArgs (top 23), defArgs (top 24), defArgs (top 25), defArgs (top 26), defArgs (top 27), defArgs (top 28), defArgs (top 29), defArgs (top 30), defArgs (top 31), defArgs (top 32), defArgs (top 33), defArgs (top 34)]
def gcs : List (Str × D) := [("FAR", (.int 9999)), ("LETTERS", (.str "abcdefghijklmnopqrstuvwxyz")), ("LONGEST", (.int 12)), ("PLACES", (.int 200)), ("QUESTIONS", (.int 30)), ("SIGNS", (.str "abcdefghijklmnopqrstuvwxyz0123456789"))]
def frs : List Str := ["abs", "all", "bool", "int", "isinstance", "len", "list", "range", "set", "sorted", "str", "tuple", "zip"]
abbrev T : Nat → Option FD := fds (tab Ts)
abbrev F_fits_name : Nat := 0
abbrev F_fits_whole : Nat := 1
abbrev F_is_tuple_of : Nat := 2
abbrev F_are_words : Nat := 3
abbrev F_fits_kind : Nat := 4
abbrev F_fits_question : Nat := 5
abbrev F_fits_questions : Nat := 6
abbrev F_fits_place : Nat := 7
abbrev F_fits_shape : Nat := 8
abbrev F_fits_said : Nat := 9
abbrev F_is_name : Nat := 10
abbrev F_is_kind : Nat := 11
abbrev F_are_questions : Nat := 12
abbrev F_is_place : Nat := 13
abbrev F_is_said : Nat := 14
abbrev F__law_cup : Nat := 15
abbrev F__law_roll : Nat := 16
abbrev F__law_some : Nat := 17
abbrev F__law_turned : Nat := 18
abbrev F__law_kind : Nat := 19
abbrev F__law_questions : Nat := 20
abbrev F__law_answers : Nat := 21
abbrev F__law_said : Nat := 22
abbrev F__law_kinds_right : Nat := 23
abbrev F__law_questions_right : Nat := 24
abbrev F__law_said_right : Nat := 25
abbrev F_law : Nat := 26

end Ev
namespace Ev
open PySem PySem.Spec PyProof.Rows L2
open W0
/-! names, kinds, questions, places, what was said: what the program's defs compute -/
/-- texts are not too long -/
def smStr (s : Str) : Bool := Nat.ble s.length bigLine
mutual
def sm : D → Bool
  | .str s => smStr s
  | .tup xs => sms xs
  | .lst xs => sms xs
  | _ => true
def sms : List D → Bool
  | [] => true
  | x :: xs => sm x && sms xs
end
theorem smStr_le {s : Str} (h : smStr s = true) : s.length ≤ bigLine := Nat.le_of_ble_eq_true h
theorem sms_mem {xs : List D} (h : sms xs = true) {x : D} (hx : x ∈ xs) : sm x = true := by
  induction xs with
  | nil => cases hx
  | cons y ys ih =>
    simp only [sms, Bool.and_eq_true] at h
    rcases List.mem_cons.mp hx with rfl | hx
    · exact h.1
    · exact ih h.2 hx
theorem nlt (a b : Int) : (!decide (a < b)) = decide (b ≤ a) := by
  by_cases h : a < b <;> simp [h] <;> omega
def letters : Str := "abcdefghijklmnopqrstuvwxyz"
def signs : Str := "abcdefghijklmnopqrstuvwxyz0123456789"
def gName : D → Bool
  | .str s => decide (1 ≤ s.length) && decide (s.length ≤ 12) && (match s.cps[0]? with | some c => inStr ⟨#[c]⟩ letters | none => false) && s.cps.toList.all fun c => inStr ⟨#[c]⟩ signs
  | _ => false
section
variable {F : Nat}
theorem fits_name_ok (k : Nat) (d : D) (st : Store) (h : sm d = true) : cF T F (k + 1) F_fits_name [.dat d] st = .ok (.dat (.bl (gName d))) st := by
  refine call_fd (P := fun r => r = _) rfl rfl ?_
  cases d with
  | str s =>
    have hs := smStr_le h
    apply ss_ife
    · (repeat' (first | exact lenS hs | exact x_c | exact x_g | exact xs_nil | exact c_no | exact di_nil | exact o_no | exact x_v rfl | apply xs_cons | apply x_tup | apply x_lst | apply x_bin | apply x_neg | apply x_nt | apply x_and | apply x_or | apply x_cmp | apply x_cmp2 | apply x_ix | apply x_sl | apply x_rv | apply x_call | apply x_bi | apply x_lens | apply x_lrg | apply x_lrg0 | apply x_isi | apply o_so | apply c_so | apply i_r1 | apply i_r2 | apply i_sq | apply x_mtW | apply di_cons | apply x_dic | apply x_nl | apply x_lc | apply x_lcf | (intro a ha; refine ⟨_, rfl, ?_, ?_⟩) | (intro a ha; refine ⟨_, rfl, ?_⟩) | exact allB | exact anyB | exact cW_eq (okD_r (by decide)) | exact cW_ne (okD_r (by decide)) | exact cW_lt | exact cW_gt | exact cW_le | exact cW_ge | exact cW_inS | exact cW_is | exact cW_isn | exact cW_isN | exact cW_isnN | exact lenT | exact intI | exact intB | exact absI | exact listT | exact listL | exact tupT | exact tupL | exact minI | exact maxI | exact strS | exact boolB | exact listScr | exact lenL | exact ixT0 | exact ixT1 | exact ixT2 | exact ixT3 | exact ixL0 | exact rfl | exact Nat.le_of_ble_eq_true rfl | exact fun hp => absurd hp fnt | exact fun hp => absurd hp tnf | refine imp_x ?_ | (intro (hp : (_ : Bool) = _)) | exact (false : Bool) | exact D.non | assumption))
    · intro hp
      refine ss_ret x_c (leave_eq ?_)
      simp [gName] at hp ⊢
      intro h1 h2
      omega
    · intro hp
      simp at hp
      have h1 : 1 ≤ s.length ∧ s.length ≤ 12 := by omega
      obtain ⟨c, hc⟩ : ∃ c, s.cps[0]? = some c := ⟨s.cps[0]'(by have := h1.1; exact this), Array.getElem?_eq_getElem _⟩
      have hl : s.cps.toList.length ≤ bigLine := hs
      apply ss_ret
      · (repeat' (first | exact ixS0 hs hc | exact x_c | exact x_g | exact xs_nil | exact c_no | exact di_nil | exact o_no | exact x_v rfl | apply xs_cons | apply x_tup | apply x_lst | apply x_bin | apply x_neg | apply x_nt | apply x_and | apply x_or | apply x_cmp | apply x_cmp2 | apply x_ix | apply x_sl | apply x_rv | apply x_call | apply x_bi | apply x_lens | apply x_lrg | apply x_lrg0 | apply x_isi | apply o_so | apply c_so | apply i_r1 | apply i_r2 | apply i_sq | apply x_mtW | apply di_cons | apply x_dic | apply x_nl | apply x_lc | apply x_lcf | (intro a ha; refine ⟨_, rfl, ?_, ?_⟩) | (intro a ha; refine ⟨_, rfl, ?_⟩) | exact allB | exact anyB | exact cW_eq (okD_r (by decide)) | exact cW_ne (okD_r (by decide)) | exact cW_lt | exact cW_gt | exact cW_le | exact cW_ge | exact cW_inS | exact cW_is | exact cW_isn | exact cW_isN | exact cW_isnN | exact lenT | exact intI | exact intB | exact absI | exact listT | exact listL | exact tupT | exact tupL | exact minI | exact maxI | exact strS | exact boolB | exact listScr | exact lenL | exact ixT0 | exact ixT1 | exact ixT2 | exact ixT3 | exact ixL0 | exact rfl | exact Nat.le_of_ble_eq_true rfl | exact fun hp => absurd hp fnt | exact fun hp => absurd hp tnf | refine imp_x ?_ | (intro (hp : (_ : Bool) = _)) | exact (false : Bool) | exact D.non | assumption))
      · refine leave_eq ?_
        simp [gName, hc, h1]
        rfl
  | _ => exact ss_ifT (x_orT (x_nt (x_isi (x_v rfl) rfl rfl)) rfl) rfl (ss_ret x_c (leave_eq rfl))
def gWhole (lo hi : Int) : D → Bool
  | .int i => decide (lo ≤ i) && decide (i ≤ hi)
  | _ => false
theorem fits_whole_ok (k : Nat) (d : D) (lo hi : Int) (st : Store) : cF T F (k + 1) F_fits_whole [.dat d, .dat (.int lo), .dat (.int hi)] st = .ok (.dat (.bl (gWhole lo hi d))) st := by
  refine call_fd (P := fun r => r = _) rfl rfl ?_
  cases d with
  | int i =>
    apply ss_ret
    · (repeat' (first | exact x_c | exact x_g | exact xs_nil | exact c_no | exact di_nil | exact o_no | exact x_v rfl | apply xs_cons | apply x_tup | apply x_lst | apply x_bin | apply x_neg | apply x_nt | apply x_and | apply x_or | apply x_cmp | apply x_cmp2 | apply x_ix | apply x_sl | apply x_rv | apply x_call | apply x_bi | apply x_lens | apply x_lrg | apply x_lrg0 | apply x_isi | apply o_so | apply c_so | apply i_r1 | apply i_r2 | apply i_sq | apply x_mtW | apply di_cons | apply x_dic | apply x_nl | apply x_lc | apply x_lcf | (intro a ha; refine ⟨_, rfl, ?_, ?_⟩) | (intro a ha; refine ⟨_, rfl, ?_⟩) | exact allB | exact anyB | exact cW_eq (okD_r (by decide)) | exact cW_ne (okD_r (by decide)) | exact cW_lt | exact cW_gt | exact cW_le | exact cW_ge | exact cW_inS | exact cW_is | exact cW_isn | exact cW_isN | exact cW_isnN | exact lenT | exact intI | exact intB | exact absI | exact listT | exact listL | exact tupT | exact tupL | exact minI | exact maxI | exact strS | exact boolB | exact listScr | exact lenL | exact ixT0 | exact ixT1 | exact ixT2 | exact ixT3 | exact ixL0 | exact rfl | exact Nat.le_of_ble_eq_true rfl | exact fun hp => absurd hp fnt | exact fun hp => absurd hp tnf | refine imp_x ?_ | (intro (hp : (_ : Bool) = _)) | exact (false : Bool) | exact D.non | assumption))
    · refine leave_eq ?_
      simp only [nlt]
      simp [gWhole, nlt]
  | bl b => exact ss_ret (x_andT (x_isi (x_v rfl) rfl rfl) rfl (x_andF (x_nt (x_isi (x_v rfl) rfl rfl)) rfl)) (leave_eq rfl)
  | _ => exact ss_ret (x_andF (x_isi (x_v rfl) rfl rfl) rfl) (leave_eq rfl)
def gTup (l m : Int) : D → Bool
  | .tup xs => decide (l ≤ xs.length) && decide (xs.length ≤ m)
  | _ => false
theorem is_tuple_of_ok (k : Nat) (d : D) (lo hi : Int) (st : Store) : cF T F (k + 1) F_is_tuple_of [.dat d, .dat (.int lo), .dat (.int hi)] st = .ok (.dat (.bl (gTup lo hi d))) st := by
  refine call_fd (P := fun r => r = _) rfl rfl ?_
  cases d with
  | tup xs =>
    apply ss_ret
    · (repeat' (first | exact x_c | exact x_g | exact xs_nil | exact c_no | exact di_nil | exact o_no | exact x_v rfl | apply xs_cons | apply x_tup | apply x_lst | apply x_bin | apply x_neg | apply x_nt | apply x_and | apply x_or | apply x_cmp | apply x_cmp2 | apply x_ix | apply x_sl | apply x_rv | apply x_call | apply x_bi | apply x_lens | apply x_lrg | apply x_lrg0 | apply x_isi | apply o_so | apply c_so | apply i_r1 | apply i_r2 | apply i_sq | apply x_mtW | apply di_cons | apply x_dic | apply x_nl | apply x_lc | apply x_lcf | (intro a ha; refine ⟨_, rfl, ?_, ?_⟩) | (intro a ha; refine ⟨_, rfl, ?_⟩) | exact allB | exact anyB | exact cW_eq (okD_r (by decide)) | exact cW_ne (okD_r (by decide)) | exact cW_lt | exact cW_gt | exact cW_le | exact cW_ge | exact cW_inS | exact cW_is | exact cW_isn | exact cW_isN | exact cW_isnN | exact lenT | exact intI | exact intB | exact absI | exact listT | exact listL | exact tupT | exact tupL | exact minI | exact maxI | exact strS | exact boolB | exact listScr | exact lenL | exact ixT0 | exact ixT1 | exact ixT2 | exact ixT3 | exact ixL0 | exact rfl | exact Nat.le_of_ble_eq_true rfl | exact fun hp => absurd hp fnt | exact fun hp => absurd hp tnf | refine imp_x ?_ | (intro (hp : (_ : Bool) = _)) | exact (false : Bool) | exact D.non | assumption))
    · refine leave_eq ?_
      simp only [nlt]
      simp [gTup, nlt]
  | _ => exact ss_ret (x_andF (x_isi (x_v rfl) rfl rfl) rfl) (leave_eq rfl)
def gWords (l m : Int) : D → Bool
  | .tup xs => decide (l ≤ xs.length) && decide (xs.length ≤ m) && xs.all gName && ((nubD xs).length == xs.length)
  | _ => false
theorem names_leaf {xs : List D} (h : xs.all gName = true) : xs.all isLeaf = true := by
  rw [List.all_eq_true] at h ⊢
  intro x hx
  have := h x hx
  cases x <;> first | rfl | cases this
theorem are_words_ok (k : Nat) (d : D) (lo hi : Int) (st : Store) (h : sm d = true) (hh : hi ≤ 4000) : cF T F (k + 2) F_are_words [.dat d, .dat (.int lo), .dat (.int hi)] st = .ok (.dat (.bl (gWords lo hi d))) st := by
  refine call_fd (P := fun r => r = _) rfl rfl ?_
  cases d with
  | tup xs =>
    have hm : ∀ x ∈ xs, sm x = true := fun x hx => sms_mem h hx
    by_cases hl : gTup lo hi (.tup xs) = true
    · have hl' := hl
      simp [gTup] at hl
      have hb : xs.length ≤ bigLine := by unfold bigLine; omega
      apply ss_ife
      · (repeat' (first | exact is_tuple_of_ok _ _ _ _ _ | exact fits_name_ok _ _ _ (hm _ ha) | exact x_c | exact x_g | exact xs_nil | exact c_no | exact di_nil | exact o_no | exact x_v rfl | apply xs_cons | apply x_tup | apply x_lst | apply x_bin | apply x_neg | apply x_nt | apply x_and | apply x_or | apply x_cmp | apply x_cmp2 | apply x_ix | apply x_sl | apply x_rv | apply x_call | apply x_bi | apply x_lens | apply x_lrg | apply x_lrg0 | apply x_isi | apply o_so | apply c_so | apply i_r1 | apply i_r2 | apply i_sq | apply x_mtW | apply di_cons | apply x_dic | apply x_nl | apply x_lc | apply x_lcf | (intro a ha; refine ⟨_, rfl, ?_, ?_⟩) | (intro a ha; refine ⟨_, rfl, ?_⟩) | exact allB | exact anyB | exact cW_eq (okD_r (by decide)) | exact cW_ne (okD_r (by decide)) | exact cW_lt | exact cW_gt | exact cW_le | exact cW_ge | exact cW_inS | exact cW_is | exact cW_isn | exact cW_isN | exact cW_isnN | exact lenT | exact intI | exact intB | exact absI | exact listT | exact listL | exact tupT | exact tupL | exact minI | exact maxI | exact strS | exact boolB | exact listScr | exact lenL | exact ixT0 | exact ixT1 | exact ixT2 | exact ixT3 | exact ixL0 | exact rfl | exact Nat.le_of_ble_eq_true rfl | exact fun hp => absurd hp fnt | exact fun hp => absurd hp tnf | refine imp_x ?_ | (intro (hp : (_ : Bool) = _)) | exact (false : Bool) | exact D.non | assumption))
      · intro hp
        refine ss_ret x_c (leave_eq ?_)
        simp [hl'] at hp
        simp [gWords, hl]
        intro h1
        obtain ⟨x, hx, h2⟩ := hp
        rw [h1 x hx] at h2
        cases h2
      · intro hp
        simp [hl'] at hp
        have ha : xs.all gName = true := List.all_eq_true.mpr hp
        apply ss_ret
        · (repeat' (first | exact lenset_ok (names_leaf ha) (by omega) | exact x_c | exact x_g | exact xs_nil | exact c_no | exact di_nil | exact o_no | exact x_v rfl | apply xs_cons | apply x_tup | apply x_lst | apply x_bin | apply x_neg | apply x_nt | apply x_and | apply x_or | apply x_cmp | apply x_cmp2 | apply x_ix | apply x_sl | apply x_rv | apply x_call | apply x_bi | apply x_lens | apply x_lrg | apply x_lrg0 | apply x_isi | apply o_so | apply c_so | apply i_r1 | apply i_r2 | apply i_sq | apply x_mtW | apply di_cons | apply x_dic | apply x_nl | apply x_lc | apply x_lcf | (intro a ha; refine ⟨_, rfl, ?_, ?_⟩) | (intro a ha; refine ⟨_, rfl, ?_⟩) | exact allB | exact anyB | exact cW_eq (okD_r (by decide)) | exact cW_ne (okD_r (by decide)) | exact cW_lt | exact cW_gt | exact cW_le | exact cW_ge | exact cW_inS | exact cW_is | exact cW_isn | exact cW_isN | exact cW_isnN | exact lenT | exact intI | exact intB | exact absI | exact listT | exact listL | exact tupT | exact tupL | exact minI | exact maxI | exact strS | exact boolB | exact listScr | exact lenL | exact ixT0 | exact ixT1 | exact ixT2 | exact ixT3 | exact ixL0 | exact rfl | exact Nat.le_of_ble_eq_true rfl | exact fun hp => absurd hp fnt | exact fun hp => absurd hp tnf | refine imp_x ?_ | (intro (hp : (_ : Bool) = _)) | exact (false : Bool) | exact D.non | assumption))
        · refine leave_eq ?_
          simp [gWords, hl, eqD]
          rw [Bool.eq_iff_iff]
          simp
          exact ⟨fun h => ⟨hp, by omega⟩, fun h => by omega⟩
    · simp only [Bool.not_eq_true] at hl
      refine ss_ifT (x_orT (x_nt (x_call (xs_cons (x_v rfl) (xs_cons (x_v rfl) (xs_cons (x_v rfl) xs_nil))) (is_tuple_of_ok _ _ _ _ _))) (by rw [hl]; rfl)) rfl (ss_ret x_c (leave_eq ?_))
      simp [gTup] at hl
      simp [gWords]
      intro h1 h2
      omega
  | _ => exact ss_ifT (x_orT (x_nt (x_call (xs_cons (x_v rfl) (xs_cons (x_v rfl) (xs_cons (x_v rfl) xs_nil))) (is_tuple_of_ok _ _ _ _ _))) rfl) rfl (ss_ret x_c (leave_eq rfl))

def gKind : D → Bool
  | .tup (.str t :: r) =>
    if t == "one" then (match r with
      | [ws] => gWords 1 12 ws
      | _ => false)
    else if t == "some" then (match r with
      | [ws, a, b] => (match ws, a with
        | .tup xs, .int i => gWords 1 8 ws && gWhole 0 xs.length a && gWhole i xs.length b
        | _, _ => false)
      | _ => false)
    else if t == "number" then (match r with
      | [a, b] => (match a with
        | .int i => gWhole (-9999) 9999 a && gWhole i 9999 b
        | _ => false)
      | _ => false)
    else t == "yes" && r.isEmpty
  | _ => false
theorem fits_kind_ok (k : Nat) (d : D) (st : Store) (h : sm d = true) : cF T F (k + 3) F_fits_kind [.dat d] st = .ok (.dat (.bl (gKind d))) st := by
  refine call_fd (P := fun r => r = _) rfl rfl ?_
  cases d with
  | tup xs =>
    have hm : ∀ x ∈ xs, sm x = true := fun x hx => sms_mem h hx
    match xs, hm with
    | [], _ => (repeat' (first | apply ss_ife | apply ss_ret | apply ss_asg | apply ss_ex | apply ss_aug | refine ss_nil ?_ | refine ss_retn ?_ | refine ss_pas ?_ | refine leave_eq ?_ | exact is_tuple_of_ok _ _ _ _ _ | exact x_c | exact x_g | exact xs_nil | exact c_no | exact di_nil | exact o_no | exact x_v rfl | apply xs_cons | apply x_tup | apply x_lst | apply x_bin | apply x_neg | apply x_nt | apply x_and | apply x_or | apply x_cmp | apply x_cmp2 | apply x_ix | apply x_sl | apply x_rv | apply x_call | apply x_bi | apply x_lens | apply x_lrg | apply x_lrg0 | apply x_isi | apply o_so | apply c_so | apply i_r1 | apply i_r2 | apply i_sq | apply x_mtW | apply di_cons | apply x_dic | apply x_nl | apply x_lc | apply x_lcf | (intro a ha; refine ⟨_, rfl, ?_, ?_⟩) | (intro a ha; refine ⟨_, rfl, ?_⟩) | exact allB | exact anyB | exact cW_eq (okD_r (by decide)) | exact cW_ne (okD_r (by decide)) | exact cW_lt | exact cW_gt | exact cW_le | exact cW_ge | exact cW_inS | exact cW_is | exact cW_isn | exact cW_isN | exact cW_isnN | exact lenT | exact intI | exact intB | exact absI | exact listT | exact listL | exact tupT | exact tupL | exact minI | exact maxI | exact strS | exact boolB | exact listScr | exact lenL | exact ixT0 | exact ixT1 | exact ixT2 | exact ixT3 | exact ixL0 | exact rfl | exact Nat.le_of_ble_eq_true rfl | exact fun hp => absurd hp fnt | exact fun hp => absurd hp tnf | refine imp_x ?_ | (intro (hp : (_ : Bool) = _)) | exact (false : Bool) | exact D.non | assumption))
    | a :: r, hm =>
      cases a with
      | str t =>
        match r, hm with
        | [], hm => 
          (repeat' (first | apply ss_ife | apply ss_ret | apply ss_asg | apply ss_ex | apply ss_aug | refine ss_nil ?_ | refine ss_retn ?_ | refine ss_pas ?_ | refine leave_eq ?_ | exact is_tuple_of_ok _ _ _ _ _ | exact x_c | exact x_g | exact xs_nil | exact c_no | exact di_nil | exact o_no | exact x_v rfl | apply xs_cons | apply x_tup | apply x_lst | apply x_bin | apply x_neg | apply x_nt | apply x_and | apply x_or | apply x_cmp | apply x_cmp2 | apply x_ix | apply x_sl | apply x_rv | apply x_call | apply x_bi | apply x_lens | apply x_lrg | apply x_lrg0 | apply x_isi | apply o_so | apply c_so | apply i_r1 | apply i_r2 | apply i_sq | apply x_mtW | apply di_cons | apply x_dic | apply x_nl | apply x_lc | apply x_lcf | (intro a ha; refine ⟨_, rfl, ?_, ?_⟩) | (intro a ha; refine ⟨_, rfl, ?_⟩) | exact allB | exact anyB | exact cW_eq (okD_r (by decide)) | exact cW_ne (okD_r (by decide)) | exact cW_lt | exact cW_gt | exact cW_le | exact cW_ge | exact cW_inS | exact cW_is | exact cW_isn | exact cW_isN | exact cW_isnN | exact lenT | exact intI | exact intB | exact absI | exact listT | exact listL | exact tupT | exact tupL | exact minI | exact maxI | exact strS | exact boolB | exact listScr | exact lenL | exact ixT0 | exact ixT1 | exact ixT2 | exact ixT3 | exact ixL0 | exact rfl | exact Nat.le_of_ble_eq_true rfl | exact fun hp => absurd hp fnt | exact fun hp => absurd hp tnf | refine imp_x ?_ | (intro (hp : (_ : Bool) = _)) | exact (false : Bool) | exact D.non | assumption))
          all_goals simp_all [gKind, eqD, eqDs]
        | [x], hm =>
          have hx := hm x (by simp)
          (repeat' (first | apply ss_ife | apply ss_ret | apply ss_asg | apply ss_ex | apply ss_aug | refine ss_nil ?_ | refine ss_retn ?_ | refine ss_pas ?_ | refine leave_eq ?_ | exact is_tuple_of_ok _ _ _ _ _ | exact are_words_ok _ _ _ _ _ hx (by decide) | exact x_c | exact x_g | exact xs_nil | exact c_no | exact di_nil | exact o_no | exact x_v rfl | apply xs_cons | apply x_tup | apply x_lst | apply x_bin | apply x_neg | apply x_nt | apply x_and | apply x_or | apply x_cmp | apply x_cmp2 | apply x_ix | apply x_sl | apply x_rv | apply x_call | apply x_bi | apply x_lens | apply x_lrg | apply x_lrg0 | apply x_isi | apply o_so | apply c_so | apply i_r1 | apply i_r2 | apply i_sq | apply x_mtW | apply di_cons | apply x_dic | apply x_nl | apply x_lc | apply x_lcf | (intro a ha; refine ⟨_, rfl, ?_, ?_⟩) | (intro a ha; refine ⟨_, rfl, ?_⟩) | exact allB | exact anyB | exact cW_eq (okD_r (by decide)) | exact cW_ne (okD_r (by decide)) | exact cW_lt | exact cW_gt | exact cW_le | exact cW_ge | exact cW_inS | exact cW_is | exact cW_isn | exact cW_isN | exact cW_isnN | exact lenT | exact intI | exact intB | exact absI | exact listT | exact listL | exact tupT | exact tupL | exact minI | exact maxI | exact strS | exact boolB | exact listScr | exact lenL | exact ixT0 | exact ixT1 | exact ixT2 | exact ixT3 | exact ixL0 | exact rfl | exact Nat.le_of_ble_eq_true rfl | exact fun hp => absurd hp fnt | exact fun hp => absurd hp tnf | refine imp_x ?_ | (intro (hp : (_ : Bool) = _)) | exact (false : Bool) | exact D.non | assumption))
          all_goals simp_all [gKind, eqD, eqDs]
        | [x, y], hm =>
          cases x <;> (repeat' (first | apply ss_ife | apply ss_ret | apply ss_asg | apply ss_ex | apply ss_aug | refine ss_nil ?_ | refine ss_retn ?_ | refine ss_pas ?_ | refine leave_eq ?_ | exact is_tuple_of_ok _ _ _ _ _ | exact fits_whole_ok _ _ _ _ _ | exact x_c | exact x_g | exact xs_nil | exact c_no | exact di_nil | exact o_no | exact x_v rfl | apply xs_cons | apply x_tup | apply x_lst | apply x_bin | apply x_neg | apply x_nt | apply x_and | apply x_or | apply x_cmp | apply x_cmp2 | apply x_ix | apply x_sl | apply x_rv | apply x_call | apply x_bi | apply x_lens | apply x_lrg | apply x_lrg0 | apply x_isi | apply o_so | apply c_so | apply i_r1 | apply i_r2 | apply i_sq | apply x_mtW | apply di_cons | apply x_dic | apply x_nl | apply x_lc | apply x_lcf | (intro a ha; refine ⟨_, rfl, ?_, ?_⟩) | (intro a ha; refine ⟨_, rfl, ?_⟩) | exact allB | exact anyB | exact cW_eq (okD_r (by decide)) | exact cW_ne (okD_r (by decide)) | exact cW_lt | exact cW_gt | exact cW_le | exact cW_ge | exact cW_inS | exact cW_is | exact cW_isn | exact cW_isN | exact cW_isnN | exact lenT | exact intI | exact intB | exact absI | exact listT | exact listL | exact tupT | exact tupL | exact minI | exact maxI | exact strS | exact boolB | exact listScr | exact lenL | exact ixT0 | exact ixT1 | exact ixT2 | exact ixT3 | exact ixL0 | exact rfl | exact Nat.le_of_ble_eq_true rfl | exact fun hp => absurd hp fnt | exact fun hp => absurd hp tnf | refine imp_x ?_ | (intro (hp : (_ : Bool) = _)) | exact (false : Bool) | exact D.non | assumption))
          all_goals simp_all [gKind, eqD, eqDs, gWhole]
        | [x, y, z], hm =>
          have hx := hm x (by simp)
          cases x with
          | tup xs =>
            cases y <;> (repeat' (first | apply ss_ife | apply ss_ret | apply ss_asg | apply ss_ex | apply ss_aug | refine ss_nil ?_ | refine ss_retn ?_ | refine ss_pas ?_ | refine leave_eq ?_ | exact is_tuple_of_ok _ _ _ _ _ | exact fits_whole_ok _ _ _ _ _ | exact are_words_ok _ _ _ _ _ hx (by decide) | exact x_c | exact x_g | exact xs_nil | exact c_no | exact di_nil | exact o_no | exact x_v rfl | apply xs_cons | apply x_tup | apply x_lst | apply x_bin | apply x_neg | apply x_nt | apply x_and | apply x_or | apply x_cmp | apply x_cmp2 | apply x_ix | apply x_sl | apply x_rv | apply x_call | apply x_bi | apply x_lens | apply x_lrg | apply x_lrg0 | apply x_isi | apply o_so | apply c_so | apply i_r1 | apply i_r2 | apply i_sq | apply x_mtW | apply di_cons | apply x_dic | apply x_nl | apply x_lc | apply x_lcf | (intro a ha; refine ⟨_, rfl, ?_, ?_⟩) | (intro a ha; refine ⟨_, rfl, ?_⟩) | exact allB | exact anyB | exact cW_eq (okD_r (by decide)) | exact cW_ne (okD_r (by decide)) | exact cW_lt | exact cW_gt | exact cW_le | exact cW_ge | exact cW_inS | exact cW_is | exact cW_isn | exact cW_isN | exact cW_isnN | exact lenT | exact intI | exact intB | exact absI | exact listT | exact listL | exact tupT | exact tupL | exact minI | exact maxI | exact strS | exact boolB | exact listScr | exact lenL | exact ixT0 | exact ixT1 | exact ixT2 | exact ixT3 | exact ixL0 | exact rfl | exact Nat.le_of_ble_eq_true rfl | exact fun hp => absurd hp fnt | exact fun hp => absurd hp tnf | refine imp_x ?_ | (intro (hp : (_ : Bool) = _)) | exact (false : Bool) | exact D.non | assumption))
            all_goals simp_all [gKind, eqD, eqDs, gWhole]
            intro h1 h2 h3
            rcases hp with hp | hp | hp
            · rw [h1] at hp; cases hp
            · omega
            · omega
          | _ =>
            (repeat' (first | apply ss_ife | apply ss_ret | apply ss_asg | apply ss_ex | apply ss_aug | refine ss_nil ?_ | refine ss_retn ?_ | refine ss_pas ?_ | refine leave_eq ?_ | exact is_tuple_of_ok _ _ _ _ _ | exact fits_whole_ok _ _ _ _ _ | exact are_words_ok _ _ _ _ _ hx (by decide) | exact x_c | exact x_g | exact xs_nil | exact c_no | exact di_nil | exact o_no | exact x_v rfl | apply xs_cons | apply x_tup | apply x_lst | apply x_bin | apply x_neg | apply x_nt | apply x_and | apply x_or | apply x_cmp | apply x_cmp2 | apply x_ix | apply x_sl | apply x_rv | apply x_call | apply x_bi | apply x_lens | apply x_lrg | apply x_lrg0 | apply x_isi | apply o_so | apply c_so | apply i_r1 | apply i_r2 | apply i_sq | apply x_mtW | apply di_cons | apply x_dic | apply x_nl | apply x_lc | apply x_lcf | (intro a ha; refine ⟨_, rfl, ?_, ?_⟩) | (intro a ha; refine ⟨_, rfl, ?_⟩) | exact allB | exact anyB | exact cW_eq (okD_r (by decide)) | exact cW_ne (okD_r (by decide)) | exact cW_lt | exact cW_gt | exact cW_le | exact cW_ge | exact cW_inS | exact cW_is | exact cW_isn | exact cW_isN | exact cW_isnN | exact lenT | exact intI | exact intB | exact absI | exact listT | exact listL | exact tupT | exact tupL | exact minI | exact maxI | exact strS | exact boolB | exact listScr | exact lenL | exact ixT0 | exact ixT1 | exact ixT2 | exact ixT3 | exact ixL0 | exact rfl | exact Nat.le_of_ble_eq_true rfl | exact fun hp => absurd hp fnt | exact fun hp => absurd hp tnf | refine imp_x ?_ | (intro (hp : (_ : Bool) = _)) | exact (false : Bool) | exact D.non | assumption))
            all_goals simp_all [gKind, eqD, eqDs, gWords]
        | x :: y :: z :: u :: r, hm =>
          have e : gTup 1 4 (.tup (.str t :: x :: y :: z :: u :: r)) = false := by simp [gTup]; omega
          refine ss_ifT (x_orT (x_nt (x_call (xs_cons (x_v rfl) (xs_cons x_c (xs_cons x_c xs_nil))) (is_tuple_of_ok _ _ _ _ _))) (by rw [e]; rfl)) rfl (ss_ret x_c (leave_eq ?_))
          simp [gKind]
      | _ => 
        (repeat' (first | apply ss_ife | apply ss_ret | apply ss_asg | apply ss_ex | apply ss_aug | refine ss_nil ?_ | refine ss_retn ?_ | refine ss_pas ?_ | refine leave_eq ?_ | exact is_tuple_of_ok _ _ _ _ _ | exact x_c | exact x_g | exact xs_nil | exact c_no | exact di_nil | exact o_no | exact x_v rfl | apply xs_cons | apply x_tup | apply x_lst | apply x_bin | apply x_neg | apply x_nt | apply x_and | apply x_or | apply x_cmp | apply x_cmp2 | apply x_ix | apply x_sl | apply x_rv | apply x_call | apply x_bi | apply x_lens | apply x_lrg | apply x_lrg0 | apply x_isi | apply o_so | apply c_so | apply i_r1 | apply i_r2 | apply i_sq | apply x_mtW | apply di_cons | apply x_dic | apply x_nl | apply x_lc | apply x_lcf | (intro a ha; refine ⟨_, rfl, ?_, ?_⟩) | (intro a ha; refine ⟨_, rfl, ?_⟩) | exact allB | exact anyB | exact cW_eq (okD_r (by decide)) | exact cW_ne (okD_r (by decide)) | exact cW_lt | exact cW_gt | exact cW_le | exact cW_ge | exact cW_inS | exact cW_is | exact cW_isn | exact cW_isN | exact cW_isnN | exact lenT | exact intI | exact intB | exact absI | exact listT | exact listL | exact tupT | exact tupL | exact minI | exact maxI | exact strS | exact boolB | exact listScr | exact lenL | exact ixT0 | exact ixT1 | exact ixT2 | exact ixT3 | exact ixL0 | exact rfl | exact Nat.le_of_ble_eq_true rfl | exact fun hp => absurd hp fnt | exact fun hp => absurd hp tnf | refine imp_x ?_ | (intro (hp : (_ : Bool) = _)) | exact (false : Bool) | exact D.non | assumption))
        all_goals simp_all [gKind]
  | _ => (repeat' (first | apply ss_ife | apply ss_ret | apply ss_asg | apply ss_ex | apply ss_aug | refine ss_nil ?_ | refine ss_retn ?_ | refine ss_pas ?_ | refine leave_eq ?_ | exact is_tuple_of_ok _ _ _ _ _ | exact x_c | exact x_g | exact xs_nil | exact c_no | exact di_nil | exact o_no | exact x_v rfl | apply xs_cons | apply x_tup | apply x_lst | apply x_bin | apply x_neg | apply x_nt | apply x_and | apply x_or | apply x_cmp | apply x_cmp2 | apply x_ix | apply x_sl | apply x_rv | apply x_call | apply x_bi | apply x_lens | apply x_lrg | apply x_lrg0 | apply x_isi | apply o_so | apply c_so | apply i_r1 | apply i_r2 | apply i_sq | apply x_mtW | apply di_cons | apply x_dic | apply x_nl | apply x_lc | apply x_lcf | (intro a ha; refine ⟨_, rfl, ?_, ?_⟩) | (intro a ha; refine ⟨_, rfl, ?_⟩) | exact allB | exact anyB | exact cW_eq (okD_r (by decide)) | exact cW_ne (okD_r (by decide)) | exact cW_lt | exact cW_gt | exact cW_le | exact cW_ge | exact cW_inS | exact cW_is | exact cW_isn | exact cW_isN | exact cW_isnN | exact lenT | exact intI | exact intB | exact absI | exact listT | exact listL | exact tupT | exact tupL | exact minI | exact maxI | exact strS | exact boolB | exact listScr | exact lenL | exact ixT0 | exact ixT1 | exact ixT2 | exact ixT3 | exact ixL0 | exact rfl | exact Nat.le_of_ble_eq_true rfl | exact fun hp => absurd hp fnt | exact fun hp => absurd hp tnf | refine imp_x ?_ | (intro (hp : (_ : Bool) = _)) | exact (false : Bool) | exact D.non | assumption))
def gQuestion : D → Bool
  | .tup [n, k, .bl _] => gName n && gKind k
  | _ => false
theorem tup3 {xs : List D} (h : gTup 3 3 (.tup xs) = true) : ∃ a b c, xs = [a, b, c] := by
  simp [gTup] at h
  match xs, h with
  | [a, b, c], _ => exact ⟨a, b, c, rfl⟩
  | [], h => simp at h
  | [_], h => simp at h
  | [_, _], h => simp at h
  | _ :: _ :: _ :: _ :: _, h => simp at h; omega
theorem fits_question_ok (k : Nat) (d : D) (st : Store) (h : sm d = true) : cF T F (k + 4) F_fits_question [.dat d] st = .ok (.dat (.bl (gQuestion d))) st := by
  refine call_fd (P := fun r => r = _) rfl rfl ?_
  by_cases hl : gTup 3 3 d = true
  · cases d with
    | tup xs =>
      obtain ⟨a, b, c, rfl⟩ := tup3 hl
      have ha := sms_mem h (x := a) (by simp)
      have hb := sms_mem h (x := b) (by simp)
      cases c <;> (repeat' (first | apply ss_ife | apply ss_ret | apply ss_asg | apply ss_ex | apply ss_aug | refine ss_nil ?_ | refine ss_retn ?_ | refine ss_pas ?_ | refine leave_eq ?_ | exact is_tuple_of_ok _ _ _ _ _ | exact fits_name_ok _ _ _ ha | exact fits_kind_ok _ _ _ hb | exact x_c | exact x_g | exact xs_nil | exact c_no | exact di_nil | exact o_no | exact x_v rfl | apply xs_cons | apply x_tup | apply x_lst | apply x_bin | apply x_neg | apply x_nt | apply x_and | apply x_or | apply x_cmp | apply x_cmp2 | apply x_ix | apply x_sl | apply x_rv | apply x_call | apply x_bi | apply x_lens | apply x_lrg | apply x_lrg0 | apply x_isi | apply o_so | apply c_so | apply i_r1 | apply i_r2 | apply i_sq | apply x_mtW | apply di_cons | apply x_dic | apply x_nl | apply x_lc | apply x_lcf | (intro a ha; refine ⟨_, rfl, ?_, ?_⟩) | (intro a ha; refine ⟨_, rfl, ?_⟩) | exact allB | exact anyB | exact cW_eq (okD_r (by decide)) | exact cW_ne (okD_r (by decide)) | exact cW_lt | exact cW_gt | exact cW_le | exact cW_ge | exact cW_inS | exact cW_is | exact cW_isn | exact cW_isN | exact cW_isnN | exact lenT | exact intI | exact intB | exact absI | exact listT | exact listL | exact tupT | exact tupL | exact minI | exact maxI | exact strS | exact boolB | exact listScr | exact lenL | exact ixT0 | exact ixT1 | exact ixT2 | exact ixT3 | exact ixL0 | exact rfl | exact Nat.le_of_ble_eq_true rfl | exact fun hp => absurd hp fnt | exact fun hp => absurd hp tnf | refine imp_x ?_ | (intro (hp : (_ : Bool) = _)) | exact (false : Bool) | exact D.non | assumption))
      all_goals simp_all [gQuestion, gTup]
    | _ => cases hl
  · simp only [Bool.not_eq_true] at hl
    refine ss_ret (x_andF (x_call (xs_cons (x_v rfl) (xs_cons x_c (xs_cons x_c xs_nil))) (is_tuple_of_ok _ _ _ _ _)) hl) (leave_eq ?_)
    unfold gQuestion
    split
    · simp [gTup] at hl
    · rfl
end

section
variable {F : Nat}
theorem smE {xs : List D} (h : sm (.tup xs) = true) : ∀ x ∈ xs, sm x = true := fun x hx => sms_mem (show sms xs = true from h) hx
theorem tupB {l m : Int} {xs : List D} (h : gTup l m (.tup xs) = true) (hm : m ≤ 4000) : xs.length ≤ bigLine := by
  simp [gTup] at h; unfold bigLine; omega
/-- names go up -/
def ltName : D → D → Bool
  | .tup (.str a :: _), .tup (.str b :: _) => decide (a.cps.toList < b.cps.toList)
  | _, _ => false
def pairs {α : Type} (xs : List α) : List (α × α) := xs.zip (xs.drop 1)
theorem zipW_pairs (xs : List D) : zipW (xs.map .dat) ((xs.drop 1).map .dat) = (pairs xs).map fun p => W.tup [.dat p.1, .dat p.2] := by
  unfold pairs
  generalize xs.drop 1 = ys
  induction xs generalizing ys with
  | nil => rfl
  | cons x xs ih =>
    cases ys with
    | nil => rfl
    | cons y ys => simp only [List.map_cons, zipW, List.zip_cons_cons, ih]
theorem cut1 (xs : List D) : cutD xs (some 1) none = xs.drop 1 := by
  have h1 : slB xs.length 0 (some 1) = min 1 xs.length := rfl
  have h2 : slB xs.length xs.length none = xs.length := rfl
  unfold cutD
  rw [h1, h2]
  cases xs with
  | nil => rfl
  | cons x xs =>
    have : min 1 (x :: xs).length = 1 := by simp
    rw [this, List.take_of_length_le (by simp)]
theorem sl1 (xs : List D) : slW (.dat (.tup xs)) (some 1) none = some (.dat (.tup (xs.drop 1))) := by rw [← cut1]; rfl
theorem sl1L (xs : List D) : slW (.dat (.lst xs)) (some 1) none = some (.dat (.lst (xs.drop 1))) := by rw [← cut1]; rfl
theorem pairs_mem {α : Type} {xs : List α} {p : α × α} (h : p ∈ pairs xs) : p.1 ∈ xs ∧ p.2 ∈ xs := by
  unfold pairs at h
  have := List.of_mem_zip h
  exact ⟨this.1, List.mem_of_mem_drop this.2⟩
theorem pairs_len {α : Type} (xs : List α) : (pairs xs).length ≤ xs.length := by unfold pairs; simp
def gQuestions : D → Bool
  | .tup qs => decide (qs.length ≤ 30) && qs.all gQuestion && (pairs qs).all fun p => ltName p.1 p.2
  | _ => false
theorem question_eq {d : D} (h : gQuestion d = true) : ∃ n k b, d = .tup [.str n, k, .bl b] := by
  unfold gQuestion at h
  split at h
  · rename_i n k b
    cases n with
    | str n => exact ⟨n, k, b, rfl⟩
    | _ => simp [gName] at h
  · cases h
theorem fits_questions_ok (k : Nat) (d : D) (st : Store) (h : sm d = true) : cF T F (k + 5) F_fits_questions [.dat d] st = .ok (.dat (.bl (gQuestions d))) st := by
  refine call_fd (P := fun r => r = _) rfl rfl ?_
  by_cases hl : gTup 0 30 d = true
  · cases d with
    | tup xs =>
      have hm := smE h
      have hb := tupB hl (by decide)
      have hl' : xs.length ≤ 30 := by simp [gTup] at hl; omega
      apply ss_ife
      · (repeat' (first | exact is_tuple_of_ok _ _ _ _ _ | exact fits_question_ok _ _ _ (hm _ ha) | exact x_c | exact x_g | exact xs_nil | exact c_no | exact di_nil | exact o_no | exact x_v rfl | apply xs_cons | apply x_tup | apply x_lst | apply x_bin | apply x_neg | apply x_nt | apply x_and | apply x_or | apply x_cmp | apply x_cmp2 | apply x_ix | apply x_sl | apply x_rv | apply x_call | apply x_bi | apply x_lens | apply x_lrg | apply x_lrg0 | apply x_isi | apply o_so | apply c_so | apply i_r1 | apply i_r2 | apply i_sq | apply x_mtW | apply di_cons | apply x_dic | apply x_nl | apply x_lc | apply x_lcf | (intro a ha; refine ⟨_, rfl, ?_, ?_⟩) | (intro a ha; refine ⟨_, rfl, ?_⟩) | exact allB | exact anyB | exact cW_eq (okD_r (by decide)) | exact cW_ne (okD_r (by decide)) | exact cW_lt | exact cW_gt | exact cW_le | exact cW_ge | exact cW_inS | exact cW_is | exact cW_isn | exact cW_isN | exact cW_isnN | exact lenT | exact intI | exact intB | exact absI | exact listT | exact listL | exact tupT | exact tupL | exact minI | exact maxI | exact strS | exact boolB | exact listScr | exact lenL | exact ixT0 | exact ixT1 | exact ixT2 | exact ixT3 | exact ixL0 | exact rfl | exact Nat.le_of_ble_eq_true rfl | exact fun hp => absurd hp fnt | exact fun hp => absurd hp tnf | refine imp_x ?_ | (intro (hp : (_ : Bool) = _)) | exact (false : Bool) | exact D.non | assumption))
      · intro hp
        refine ss_ret x_c (leave_eq ?_)
        simp [hl] at hp
        simp [gQuestions]
        intro _ h1
        obtain ⟨x, hx, h2⟩ := hp
        rw [h1 x hx] at h2
        cases h2
      · intro hp
        simp [hl] at hp
        have hz : eI (cF T F (k + 4)) (.zp (.v 0) (.sl (.v 0) (.so (.c (.int 1))) .no)) (startE D_fits_questions.fd.ns [.dat (.tup xs)]) st = .ok ((pairs xs).map (fun p => W.tup [.dat p.1, .dat p.2]), none) st := by
          rw [i_zpT (x_v rfl) (x_sl (x := .dat (.tup xs)) (x_v rfl) (o_so x_c) o_no (sl1 xs)), zipW_pairs]
        have hlen := pairs_len xs
        apply ss_ret
        · refine x_bi (xs_cons (x_lc (g := fun p => .bl (ltName p.1 p.2)) hz (by omega) rfl ?_) xs_nil) allB
          intro p hpm
          obtain ⟨h1, h2⟩ := pairs_mem hpm
          obtain ⟨n1, k1, b1, e1⟩ := question_eq (hp _ h1)
          obtain ⟨n2, k2, b2, e2⟩ := question_eq (hp _ h2)
          refine ⟨_, rfl, ?_⟩
          rw [e1, e2]
          exact x_cmp (x_ix (x_v rfl) x_c ixT0) (x_ix (x_v rfl) x_c ixT0) rfl
        · refine leave_eq ?_
          simp [gQuestions, hl', List.all_eq_true.mpr hp]
    | _ => cases hl
  · simp only [Bool.not_eq_true] at hl
    refine ss_ifT (x_orT (x_nt (x_call (xs_cons (x_v rfl) (xs_cons x_c (xs_cons x_g xs_nil))) (is_tuple_of_ok _ _ _ _ _))) (by rw [hl]; rfl)) rfl (ss_ret x_c (leave_eq ?_))
    unfold gQuestions
    split
    · simp [gTup] at hl
      simp
      intro h1; omega
    · rfl
def gPlace : D → Bool
  | .tup [n, .tup ws] => gName n && decide (ws.length ≤ 2) && ws.all gName
  | _ => false
theorem tup2 {xs : List D} (h : gTup 2 2 (.tup xs) = true) : ∃ a b, xs = [a, b] := by
  simp [gTup] at h
  match xs, h with
  | [a, b], _ => exact ⟨a, b, rfl⟩
  | [], h => simp at h
  | [_], h => simp at h
  | _ :: _ :: _ :: _, h => simp at h; omega
theorem fits_place_ok (k : Nat) (d : D) (st : Store) (h : sm d = true) : cF T F (k + 2) F_fits_place [.dat d] st = .ok (.dat (.bl (gPlace d))) st := by
  refine call_fd (P := fun r => r = _) rfl rfl ?_
  by_cases hl : gTup 2 2 d = true
  · cases d with
    | tup xs =>
      obtain ⟨a, b, rfl⟩ := tup2 hl
      have ha := smE h a (by simp)
      have hb := smE h b (by simp)
      cases b with
      | tup ws =>
        have hm := smE hb
        by_cases hw : gTup 0 2 (.tup ws) = true
        · have hwb := tupB hw (by decide)
          (repeat' (first | apply ss_ife | apply ss_ret | apply ss_asg | apply ss_ex | apply ss_aug | refine ss_nil ?_ | refine ss_retn ?_ | refine ss_pas ?_ | refine leave_eq ?_ | exact is_tuple_of_ok _ _ _ _ _ | exact fits_name_ok _ _ _ ha | exact fits_name_ok _ _ _ (hm _ (by assumption)) | exact x_c | exact x_g | exact xs_nil | exact c_no | exact di_nil | exact o_no | exact x_v rfl | apply xs_cons | apply x_tup | apply x_lst | apply x_bin | apply x_neg | apply x_nt | apply x_and | apply x_or | apply x_cmp | apply x_cmp2 | apply x_ix | apply x_sl | apply x_rv | apply x_call | apply x_bi | apply x_lens | apply x_lrg | apply x_lrg0 | apply x_isi | apply o_so | apply c_so | apply i_r1 | apply i_r2 | apply i_sq | apply x_mtW | apply di_cons | apply x_dic | apply x_nl | apply x_lc | apply x_lcf | (intro a ha; refine ⟨_, rfl, ?_, ?_⟩) | (intro a ha; refine ⟨_, rfl, ?_⟩) | exact allB | exact anyB | exact cW_eq (okD_r (by decide)) | exact cW_ne (okD_r (by decide)) | exact cW_lt | exact cW_gt | exact cW_le | exact cW_ge | exact cW_inS | exact cW_is | exact cW_isn | exact cW_isN | exact cW_isnN | exact lenT | exact intI | exact intB | exact absI | exact listT | exact listL | exact tupT | exact tupL | exact minI | exact maxI | exact strS | exact boolB | exact listScr | exact lenL | exact ixT0 | exact ixT1 | exact ixT2 | exact ixT3 | exact ixL0 | exact rfl | exact Nat.le_of_ble_eq_true rfl | exact fun hp => absurd hp fnt | exact fun hp => absurd hp tnf | refine imp_x ?_ | (intro (hp : (_ : Bool) = _)) | exact (false : Bool) | exact D.non | assumption))
          all_goals (simp [hl, hw, gTup] at *; simp_all [gPlace])
          omega
        · simp only [Bool.not_eq_true] at hw
          apply ss_ife
          · (repeat' (first | exact is_tuple_of_ok _ _ _ _ _ | exact fits_name_ok _ _ _ ha | exact x_c | exact x_g | exact xs_nil | exact c_no | exact di_nil | exact o_no | exact x_v rfl | apply xs_cons | apply x_tup | apply x_lst | apply x_bin | apply x_neg | apply x_nt | apply x_and | apply x_or | apply x_cmp | apply x_cmp2 | apply x_ix | apply x_sl | apply x_rv | apply x_call | apply x_bi | apply x_lens | apply x_lrg | apply x_lrg0 | apply x_isi | apply o_so | apply c_so | apply i_r1 | apply i_r2 | apply i_sq | apply x_mtW | apply di_cons | apply x_dic | apply x_nl | apply x_lc | apply x_lcf | (intro a ha; refine ⟨_, rfl, ?_, ?_⟩) | (intro a ha; refine ⟨_, rfl, ?_⟩) | exact allB | exact anyB | exact cW_eq (okD_r (by decide)) | exact cW_ne (okD_r (by decide)) | exact cW_lt | exact cW_gt | exact cW_le | exact cW_ge | exact cW_inS | exact cW_is | exact cW_isn | exact cW_isN | exact cW_isnN | exact lenT | exact intI | exact intB | exact absI | exact listT | exact listL | exact tupT | exact tupL | exact minI | exact maxI | exact strS | exact boolB | exact listScr | exact lenL | exact ixT0 | exact ixT1 | exact ixT2 | exact ixT3 | exact ixL0 | exact rfl | exact Nat.le_of_ble_eq_true rfl | exact fun hp => absurd hp fnt | exact fun hp => absurd hp tnf | refine imp_x ?_ | (intro (hp : (_ : Bool) = _)) | exact (false : Bool) | exact D.non | assumption))
          · intro hp
            refine ss_ret x_c (leave_eq ?_)
            simp [hl] at hp
            simp [gPlace, hp]
          · intro hp
            refine ss_ret (x_andF (x_call (xs_cons (x_ix (x_v rfl) x_c ixT1) (xs_cons x_c (xs_cons x_c xs_nil))) (is_tuple_of_ok _ _ _ _ _)) hw) (leave_eq ?_)
            simp [gTup] at hw
            simp [gPlace]
            intro _ h1; omega
      | _ =>
        apply ss_ife
        · (repeat' (first | exact is_tuple_of_ok _ _ _ _ _ | exact fits_name_ok _ _ _ ha | exact x_c | exact x_g | exact xs_nil | exact c_no | exact di_nil | exact o_no | exact x_v rfl | apply xs_cons | apply x_tup | apply x_lst | apply x_bin | apply x_neg | apply x_nt | apply x_and | apply x_or | apply x_cmp | apply x_cmp2 | apply x_ix | apply x_sl | apply x_rv | apply x_call | apply x_bi | apply x_lens | apply x_lrg | apply x_lrg0 | apply x_isi | apply o_so | apply c_so | apply i_r1 | apply i_r2 | apply i_sq | apply x_mtW | apply di_cons | apply x_dic | apply x_nl | apply x_lc | apply x_lcf | (intro a ha; refine ⟨_, rfl, ?_, ?_⟩) | (intro a ha; refine ⟨_, rfl, ?_⟩) | exact allB | exact anyB | exact cW_eq (okD_r (by decide)) | exact cW_ne (okD_r (by decide)) | exact cW_lt | exact cW_gt | exact cW_le | exact cW_ge | exact cW_inS | exact cW_is | exact cW_isn | exact cW_isN | exact cW_isnN | exact lenT | exact intI | exact intB | exact absI | exact listT | exact listL | exact tupT | exact tupL | exact minI | exact maxI | exact strS | exact boolB | exact listScr | exact lenL | exact ixT0 | exact ixT1 | exact ixT2 | exact ixT3 | exact ixL0 | exact rfl | exact Nat.le_of_ble_eq_true rfl | exact fun hp => absurd hp fnt | exact fun hp => absurd hp tnf | refine imp_x ?_ | (intro (hp : (_ : Bool) = _)) | exact (false : Bool) | exact D.non | assumption))
        · intro hp
          exact ss_ret x_c (leave_eq rfl)
        · intro hp
          exact ss_ret (x_andF (x_call (xs_cons (x_ix (x_v rfl) x_c ixT1) (xs_cons x_c (xs_cons x_c xs_nil))) (is_tuple_of_ok _ _ _ _ _)) rfl) (leave_eq rfl)
    | _ => cases hl
  · simp only [Bool.not_eq_true] at hl
    refine ss_ifT (x_orT (x_nt (x_call (xs_cons (x_v rfl) (xs_cons x_c (xs_cons x_c xs_nil))) (is_tuple_of_ok _ _ _ _ _))) (by rw [hl]; rfl)) rfl (ss_ret x_c (leave_eq ?_))
    unfold gPlace
    split
    · simp [gTup] at hl
    · rfl
def gShape (d : D) : Bool := (match d with
  | .non => true
  | .bl _ => true
  | _ => false) || gName d || gWhole (-9999) 9999 d || gWords 0 8 d
theorem fits_shape_ok (k : Nat) (d : D) (st : Store) (h : sm d = true) : cF T F (k + 3) F_fits_shape [.dat d] st = .ok (.dat (.bl (gShape d))) st := by
  refine call_fd (P := fun r => r = _) rfl rfl ?_
  cases d <;> (repeat' (first | apply ss_ife | apply ss_ret | apply ss_asg | apply ss_ex | apply ss_aug | refine ss_nil ?_ | refine ss_retn ?_ | refine ss_pas ?_ | refine leave_eq ?_ | exact fits_name_ok _ _ _ h | exact fits_whole_ok _ _ _ _ _ | exact are_words_ok _ _ _ _ _ h (by decide) | exact x_c | exact x_g | exact xs_nil | exact c_no | exact di_nil | exact o_no | exact x_v rfl | apply xs_cons | apply x_tup | apply x_lst | apply x_bin | apply x_neg | apply x_nt | apply x_and | apply x_or | apply x_cmp | apply x_cmp2 | apply x_ix | apply x_sl | apply x_rv | apply x_call | apply x_bi | apply x_lens | apply x_lrg | apply x_lrg0 | apply x_isi | apply o_so | apply c_so | apply i_r1 | apply i_r2 | apply i_sq | apply x_mtW | apply di_cons | apply x_dic | apply x_nl | apply x_lc | apply x_lcf | (intro a ha; refine ⟨_, rfl, ?_, ?_⟩) | (intro a ha; refine ⟨_, rfl, ?_⟩) | exact allB | exact anyB | exact cW_eq (okD_r (by decide)) | exact cW_ne (okD_r (by decide)) | exact cW_lt | exact cW_gt | exact cW_le | exact cW_ge | exact cW_inS | exact cW_is | exact cW_isn | exact cW_isN | exact cW_isnN | exact lenT | exact intI | exact intB | exact absI | exact listT | exact listL | exact tupT | exact tupL | exact minI | exact maxI | exact strS | exact boolB | exact listScr | exact lenL | exact ixT0 | exact ixT1 | exact ixT2 | exact ixT3 | exact ixL0 | exact rfl | exact Nat.le_of_ble_eq_true rfl | exact fun hp => absurd hp fnt | exact fun hp => absurd hp tnf | refine imp_x ?_ | (intro (hp : (_ : Bool) = _)) | exact (false : Bool) | exact D.non | assumption))
  all_goals simp_all [gShape, D.isNon, Bool.or_assoc]
def gPair : D → Bool
  | .tup [p, a] => gPlace p && gShape a
  | _ => false
/-- the order of two pairs' places -/
def ltPl : D → D → Bool
  | .tup (p :: _), .tup (q :: _) => ltD p q
  | _, _ => false
def gSaid : D → Bool
  | .tup xs => decide (xs.length ≤ 200) && xs.all gPair && (pairs xs).all fun p => ltPl p.1 p.2
  | _ => false
theorem place_eq {d : D} (h : gPlace d = true) : ∃ (n : Str) (ws : List Str), d = .tup [.str n, .tup (ws.map .str)] ∧ ws.length ≤ 2 := by
  unfold gPlace at h
  split at h
  · rename_i n ws
    simp only [Bool.and_eq_true, decide_eq_true_eq, List.all_eq_true] at h
    obtain ⟨⟨h1, h2⟩, h3⟩ := h
    cases n with
    | str n =>
      have : ∃ vs : List Str, ws = vs.map .str := by
        clear h1 h2
        induction ws with
        | nil => exact ⟨[], rfl⟩
        | cons w ws ih =>
          obtain ⟨vs, e⟩ := ih fun x hx => h3 x (List.mem_cons_of_mem _ hx)
          have := h3 w List.mem_cons_self
          cases w with
          | str s => exact ⟨s :: vs, by rw [e]; rfl⟩
          | _ => cases this
      obtain ⟨vs, rfl⟩ := this
      exact ⟨n, vs, rfl, by simpa using h2⟩
    | _ => simp [gName] at h1
  · cases h
theorem alike_strs : ∀ (vs us : List Str), alikeDs (vs.map .str) (us.map .str) = true
  | [], _ => by simp [alikeDs]
  | _ :: _, [] => by simp [alikeDs]
  | v :: vs, u :: us => by simp [alikeDs, alikeD, alike_strs vs us]
theorem alike_place {p q : D} (hp : gPlace p = true) (hq : gPlace q = true) : alikeD p q = true := by
  obtain ⟨n, ws, rfl, _⟩ := place_eq hp
  obtain ⟨m, us, rfl, _⟩ := place_eq hq
  simp [alikeD, alikeDs, alike_strs]
theorem depth_strs : ∀ (vs : List Str), D.depths (vs.map .str) = 0
  | [] => rfl
  | v :: vs => by simp [D.depths, D.depth, depth_strs vs]
theorem depth_place {p : D} (hp : gPlace p = true) : p.depth ≤ 60 := by
  obtain ⟨n, ws, rfl, _⟩ := place_eq hp
  simp [D.depth, D.depths, depth_strs]
theorem lt_place {p q : D} (hp : gPlace p = true) (hq : gPlace q = true) : cmpW .Lt (.dat p) (.dat q) = some (ltD p q) := by
  show (if okDepth p q && alikeD p q && !p.isNon then some (ltD p q) else none) = _
  rw [if_pos]
  rw [okD_l (depth_place hp), alike_place hp hq]
  obtain ⟨n, ws, rfl, _⟩ := place_eq hp
  rfl
theorem fits_said_ok (k : Nat) (d : D) (st : Store) (h : sm d = true) : cF T F (k + 4) F_fits_said [.dat d] st = .ok (.dat (.bl (gSaid d))) st := by
  refine call_fd (P := fun r => r = _) rfl rfl ?_
  by_cases hl : gTup 0 200 d = true
  · cases d with
    | tup xs =>
      have hm := smE h
      have hb := tupB hl (by decide)
      have hl' : xs.length ≤ 200 := by simp [gTup] at hl; omega
      apply ss_ife
      · (repeat' (first | exact is_tuple_of_ok _ _ _ _ _ | exact x_c | exact x_g | exact xs_nil | exact c_no | exact di_nil | exact o_no | exact x_v rfl | apply xs_cons | apply x_tup | apply x_lst | apply x_bin | apply x_neg | apply x_nt | apply x_and | apply x_or | apply x_cmp | apply x_cmp2 | apply x_ix | apply x_sl | apply x_rv | apply x_call | apply x_bi | apply x_lens | apply x_lrg | apply x_lrg0 | apply x_isi | apply o_so | apply c_so | apply i_r1 | apply i_r2 | apply i_sq | apply x_mtW | apply di_cons | apply x_dic | apply x_nl | apply x_lc | apply x_lcf | (intro a ha; refine ⟨_, rfl, ?_, ?_⟩) | (intro a ha; refine ⟨_, rfl, ?_⟩) | exact allB | exact anyB | exact cW_eq (okD_r (by decide)) | exact cW_ne (okD_r (by decide)) | exact cW_lt | exact cW_gt | exact cW_le | exact cW_ge | exact cW_inS | exact cW_is | exact cW_isn | exact cW_isN | exact cW_isnN | exact lenT | exact intI | exact intB | exact absI | exact listT | exact listL | exact tupT | exact tupL | exact minI | exact maxI | exact strS | exact boolB | exact listScr | exact lenL | exact ixT0 | exact ixT1 | exact ixT2 | exact ixT3 | exact ixL0 | exact rfl | exact Nat.le_of_ble_eq_true rfl | exact fun hp => absurd hp fnt | exact fun hp => absurd hp tnf | refine imp_x ?_ | (intro (hp : (_ : Bool) = _)) | exact (false : Bool) | exact D.non | assumption))
      · intro hp
        refine ss_ret x_c (leave_eq ?_)
        simp [hl] at hp
        simp [gSaid]
        intro _ h1
        obtain ⟨x, hx, h2⟩ := hp
        have := h1 x hx
        unfold gPair at this
        split at this
        · simp [gTup] at h2
        · cases this
      · intro hp
        simp [hl] at hp
        apply ss_ife
        · refine x_nt (x_bi (xs_cons (x_lc (g := fun x => .bl (gPair x)) (i_sq (x_v rfl) rfl) hb rfl ?_) xs_nil) allB)
          intro x hx
          refine ⟨_, rfl, ?_⟩
          have h2 := hp x hx
          cases x with
          | tup ys =>
            obtain ⟨p, a, rfl⟩ := tup2 h2
            have h3 := hm _ hx
            exact x_and (x_call (xs_cons (x_ix (x_v rfl) x_c ixT0) xs_nil) (fits_place_ok _ _ _ (smE h3 p (by simp)))) fun _ => x_call (xs_cons (x_ix (x_v rfl) x_c ixT1) xs_nil) (fits_shape_ok _ _ _ (smE h3 a (by simp)))
          | _ => cases h2
        · intro hq
          refine ss_ret x_c (leave_eq ?_)
          simp at hq
          simp [gSaid]
          intro _ h1
          obtain ⟨x, hx, h2⟩ := hq
          rw [h1 x hx] at h2
          cases h2
        · intro hq
          simp at hq
          have hz : eI (cF T F (k + 3)) (.zp (.v 0) (.sl (.v 0) (.so (.c (.int 1))) .no)) (startE D_fits_said.fd.ns [.dat (.tup xs)]) st = .ok ((pairs xs).map (fun p => W.tup [.dat p.1, .dat p.2]), none) st := by
            rw [i_zpT (x_v rfl) (x_sl (x := .dat (.tup xs)) (x_v rfl) (o_so x_c) o_no (sl1 xs)), zipW_pairs]
          have hlen := pairs_len xs
          apply ss_ret
          · refine x_bi (xs_cons (x_lc (g := fun p => .bl (ltPl p.1 p.2)) hz (by omega) rfl ?_) xs_nil) allB
            intro p hpm
            obtain ⟨h1, h2⟩ := pairs_mem hpm
            have q1 := hq _ h1
            have q2 := hq _ h2
            refine ⟨_, rfl, ?_⟩
            obtain ⟨p1, p2⟩ := p
            unfold gPair at q1 q2
            dsimp only at q1 q2
            split at q1
            · split at q2
              · simp only [Bool.and_eq_true] at q1 q2
                exact x_cmp (x_ix (x_v rfl) x_c ixT0) (x_ix (x_v rfl) x_c ixT0) (lt_place q1.1 q2.1)
              · cases q2
            · cases q1
          · refine leave_eq ?_
            simp [gSaid, hl', List.all_eq_true.mpr hq]
    | _ => cases hl
  · simp only [Bool.not_eq_true] at hl
    refine ss_ifT (x_orT (x_nt (x_call (xs_cons (x_v rfl) (xs_cons x_c (xs_cons x_g xs_nil))) (is_tuple_of_ok _ _ _ _ _))) (by rw [hl]; rfl)) rfl (ss_ret x_c (leave_eq ?_))
    unfold gSaid
    split
    · simp [gTup] at hl
      simp
      intro h1; omega
    · rfl
theorem is_name_ok (k : Nat) (d : D) (st : Store) (h : sm d = true) : cF T F (k + 2) F_is_name [.dat d] st = .ok (.dat (.bl (gName d))) st := by
  refine call_fd (P := fun r => r = _) rfl rfl ?_
  (repeat' (first | apply ss_ife | apply ss_ret | apply ss_asg | apply ss_ex | apply ss_aug | refine ss_nil ?_ | refine ss_retn ?_ | refine ss_pas ?_ | refine leave_eq ?_ | exact fits_name_ok _ _ _ h | exact x_c | exact x_g | exact xs_nil | exact c_no | exact di_nil | exact o_no | exact x_v rfl | apply xs_cons | apply x_tup | apply x_lst | apply x_bin | apply x_neg | apply x_nt | apply x_and | apply x_or | apply x_cmp | apply x_cmp2 | apply x_ix | apply x_sl | apply x_rv | apply x_call | apply x_bi | apply x_lens | apply x_lrg | apply x_lrg0 | apply x_isi | apply o_so | apply c_so | apply i_r1 | apply i_r2 | apply i_sq | apply x_mtW | apply di_cons | apply x_dic | apply x_nl | apply x_lc | apply x_lcf | (intro a ha; refine ⟨_, rfl, ?_, ?_⟩) | (intro a ha; refine ⟨_, rfl, ?_⟩) | exact allB | exact anyB | exact cW_eq (okD_r (by decide)) | exact cW_ne (okD_r (by decide)) | exact cW_lt | exact cW_gt | exact cW_le | exact cW_ge | exact cW_inS | exact cW_is | exact cW_isn | exact cW_isN | exact cW_isnN | exact lenT | exact intI | exact intB | exact absI | exact listT | exact listL | exact tupT | exact tupL | exact minI | exact maxI | exact strS | exact boolB | exact listScr | exact lenL | exact ixT0 | exact ixT1 | exact ixT2 | exact ixT3 | exact ixL0 | exact rfl | exact Nat.le_of_ble_eq_true rfl | exact fun hp => absurd hp fnt | exact fun hp => absurd hp tnf | refine imp_x ?_ | (intro (hp : (_ : Bool) = _)) | exact (false : Bool) | exact D.non | assumption))
theorem is_kind_ok (k : Nat) (d : D) (st : Store) (h : sm d = true) : cF T F (k + 4) F_is_kind [.dat d] st = .ok (.dat (.bl (gKind d))) st := by
  refine call_fd (P := fun r => r = _) rfl rfl ?_
  (repeat' (first | apply ss_ife | apply ss_ret | apply ss_asg | apply ss_ex | apply ss_aug | refine ss_nil ?_ | refine ss_retn ?_ | refine ss_pas ?_ | refine leave_eq ?_ | exact fits_kind_ok _ _ _ h | exact x_c | exact x_g | exact xs_nil | exact c_no | exact di_nil | exact o_no | exact x_v rfl | apply xs_cons | apply x_tup | apply x_lst | apply x_bin | apply x_neg | apply x_nt | apply x_and | apply x_or | apply x_cmp | apply x_cmp2 | apply x_ix | apply x_sl | apply x_rv | apply x_call | apply x_bi | apply x_lens | apply x_lrg | apply x_lrg0 | apply x_isi | apply o_so | apply c_so | apply i_r1 | apply i_r2 | apply i_sq | apply x_mtW | apply di_cons | apply x_dic | apply x_nl | apply x_lc | apply x_lcf | (intro a ha; refine ⟨_, rfl, ?_, ?_⟩) | (intro a ha; refine ⟨_, rfl, ?_⟩) | exact allB | exact anyB | exact cW_eq (okD_r (by decide)) | exact cW_ne (okD_r (by decide)) | exact cW_lt | exact cW_gt | exact cW_le | exact cW_ge | exact cW_inS | exact cW_is | exact cW_isn | exact cW_isN | exact cW_isnN | exact lenT | exact intI | exact intB | exact absI | exact listT | exact listL | exact tupT | exact tupL | exact minI | exact maxI | exact strS | exact boolB | exact listScr | exact lenL | exact ixT0 | exact ixT1 | exact ixT2 | exact ixT3 | exact ixL0 | exact rfl | exact Nat.le_of_ble_eq_true rfl | exact fun hp => absurd hp fnt | exact fun hp => absurd hp tnf | refine imp_x ?_ | (intro (hp : (_ : Bool) = _)) | exact (false : Bool) | exact D.non | assumption))
theorem are_questions_ok (k : Nat) (d : D) (st : Store) (h : sm d = true) : cF T F (k + 6) F_are_questions [.dat d] st = .ok (.dat (.bl (gQuestions d))) st := by
  refine call_fd (P := fun r => r = _) rfl rfl ?_
  (repeat' (first | apply ss_ife | apply ss_ret | apply ss_asg | apply ss_ex | apply ss_aug | refine ss_nil ?_ | refine ss_retn ?_ | refine ss_pas ?_ | refine leave_eq ?_ | exact fits_questions_ok _ _ _ h | exact x_c | exact x_g | exact xs_nil | exact c_no | exact di_nil | exact o_no | exact x_v rfl | apply xs_cons | apply x_tup | apply x_lst | apply x_bin | apply x_neg | apply x_nt | apply x_and | apply x_or | apply x_cmp | apply x_cmp2 | apply x_ix | apply x_sl | apply x_rv | apply x_call | apply x_bi | apply x_lens | apply x_lrg | apply x_lrg0 | apply x_isi | apply o_so | apply c_so | apply i_r1 | apply i_r2 | apply i_sq | apply x_mtW | apply di_cons | apply x_dic | apply x_nl | apply x_lc | apply x_lcf | (intro a ha; refine ⟨_, rfl, ?_, ?_⟩) | (intro a ha; refine ⟨_, rfl, ?_⟩) | exact allB | exact anyB | exact cW_eq (okD_r (by decide)) | exact cW_ne (okD_r (by decide)) | exact cW_lt | exact cW_gt | exact cW_le | exact cW_ge | exact cW_inS | exact cW_is | exact cW_isn | exact cW_isN | exact cW_isnN | exact lenT | exact intI | exact intB | exact absI | exact listT | exact listL | exact tupT | exact tupL | exact minI | exact maxI | exact strS | exact boolB | exact listScr | exact lenL | exact ixT0 | exact ixT1 | exact ixT2 | exact ixT3 | exact ixL0 | exact rfl | exact Nat.le_of_ble_eq_true rfl | exact fun hp => absurd hp fnt | exact fun hp => absurd hp tnf | refine imp_x ?_ | (intro (hp : (_ : Bool) = _)) | exact (false : Bool) | exact D.non | assumption))
theorem is_place_ok (k : Nat) (d : D) (st : Store) (h : sm d = true) : cF T F (k + 3) F_is_place [.dat d] st = .ok (.dat (.bl (gPlace d))) st := by
  refine call_fd (P := fun r => r = _) rfl rfl ?_
  (repeat' (first | apply ss_ife | apply ss_ret | apply ss_asg | apply ss_ex | apply ss_aug | refine ss_nil ?_ | refine ss_retn ?_ | refine ss_pas ?_ | refine leave_eq ?_ | exact fits_place_ok _ _ _ h | exact x_c | exact x_g | exact xs_nil | exact c_no | exact di_nil | exact o_no | exact x_v rfl | apply xs_cons | apply x_tup | apply x_lst | apply x_bin | apply x_neg | apply x_nt | apply x_and | apply x_or | apply x_cmp | apply x_cmp2 | apply x_ix | apply x_sl | apply x_rv | apply x_call | apply x_bi | apply x_lens | apply x_lrg | apply x_lrg0 | apply x_isi | apply o_so | apply c_so | apply i_r1 | apply i_r2 | apply i_sq | apply x_mtW | apply di_cons | apply x_dic | apply x_nl | apply x_lc | apply x_lcf | (intro a ha; refine ⟨_, rfl, ?_, ?_⟩) | (intro a ha; refine ⟨_, rfl, ?_⟩) | exact allB | exact anyB | exact cW_eq (okD_r (by decide)) | exact cW_ne (okD_r (by decide)) | exact cW_lt | exact cW_gt | exact cW_le | exact cW_ge | exact cW_inS | exact cW_is | exact cW_isn | exact cW_isN | exact cW_isnN | exact lenT | exact intI | exact intB | exact absI | exact listT | exact listL | exact tupT | exact tupL | exact minI | exact maxI | exact strS | exact boolB | exact listScr | exact lenL | exact ixT0 | exact ixT1 | exact ixT2 | exact ixT3 | exact ixL0 | exact rfl | exact Nat.le_of_ble_eq_true rfl | exact fun hp => absurd hp fnt | exact fun hp => absurd hp tnf | refine imp_x ?_ | (intro (hp : (_ : Bool) = _)) | exact (false : Bool) | exact D.non | assumption))
theorem is_said_ok (k : Nat) (d : D) (st : Store) (h : sm d = true) : cF T F (k + 5) F_is_said [.dat d] st = .ok (.dat (.bl (gSaid d))) st := by
  refine call_fd (P := fun r => r = _) rfl rfl ?_
  (repeat' (first | apply ss_ife | apply ss_ret | apply ss_asg | apply ss_ex | apply ss_aug | refine ss_nil ?_ | refine ss_retn ?_ | refine ss_pas ?_ | refine leave_eq ?_ | exact fits_said_ok _ _ _ h | exact x_c | exact x_g | exact xs_nil | exact c_no | exact di_nil | exact o_no | exact x_v rfl | apply xs_cons | apply x_tup | apply x_lst | apply x_bin | apply x_neg | apply x_nt | apply x_and | apply x_or | apply x_cmp | apply x_cmp2 | apply x_ix | apply x_sl | apply x_rv | apply x_call | apply x_bi | apply x_lens | apply x_lrg | apply x_lrg0 | apply x_isi | apply o_so | apply c_so | apply i_r1 | apply i_r2 | apply i_sq | apply x_mtW | apply di_cons | apply x_dic | apply x_nl | apply x_lc | apply x_lcf | (intro a ha; refine ⟨_, rfl, ?_, ?_⟩) | (intro a ha; refine ⟨_, rfl, ?_⟩) | exact allB | exact anyB | exact cW_eq (okD_r (by decide)) | exact cW_ne (okD_r (by decide)) | exact cW_lt | exact cW_gt | exact cW_le | exact cW_ge | exact cW_inS | exact cW_is | exact cW_isn | exact cW_isN | exact cW_isnN | exact lenT | exact intI | exact intB | exact absI | exact listT | exact listL | exact tupT | exact tupL | exact minI | exact maxI | exact strS | exact boolB | exact listScr | exact lenL | exact ixT0 | exact ixT1 | exact ixT2 | exact ixT3 | exact ixL0 | exact rfl | exact Nat.le_of_ble_eq_true rfl | exact fun hp => absurd hp fnt | exact fun hp => absurd hp tnf | refine imp_x ?_ | (intro (hp : (_ : Bool) = _)) | exact (false : Bool) | exact D.non | assumption))
end

/-! draws: the cup, the roll, one of several, a drawn sequence -/
section
variable {F : Nat}
abbrev Cup (a b : Int) : Cell := .lst [.int a, .int b]
/-- a def with the cup gives data with P, whatever the cup -/
def Dr (F k f : Nat) (ds : List D) (P : D → Prop) : Prop := ∀ a b : Int, ∃ (a' b' : Int) (d : D), cF T F k f (.ref 0 :: ds.map .dat) [Cup a b] = .ok (.dat d) [Cup a' b'] ∧ P d
theorem Dr.use {F k k' f : Nat} {ds : List D} {P : D → Prop} (h : Dr F k f ds P) (hk : k ≤ k') (a b : Int) (rs : Store) : ∃ (a' b' : Int) (d : D), cF T F k' f (.ref 0 :: ds.map .dat) (Cup a b :: rs) = .ok (.dat d) (Cup a' b' :: rs) ∧ P d := by
  obtain ⟨a', b', d, e, hp⟩ := h a b
  have hw : ∀ I, shWs 1 I (.ref 0 :: ds.map .dat) = .ref 0 :: ds.map .dat := fun I => by
    simp only [shWs, shW, shN]
    rw [map_dat_sh]
    rfl
  simp only [cF_eq] at *
  have := call_more e (Nat.le_refl F) hk rfl (hw []) rs (hw rs) rfl
  exact ⟨a', b', d, this, hp⟩
theorem Dr.imp {F k f : Nat} {ds : List D} {P Q : D → Prop} (h : Dr F k f ds P) (i : ∀ d, P d → Q d) : Dr F k f ds Q := fun a b =>
  let ⟨a', b', d, e, hp⟩ := h a b
  ⟨a', b', d, e, i d hp⟩
theorem Dr.go {F k f : Nat} {ds : List D} {P : D → Prop} {fd : FD} (hT : T f = some fd) (hl : ds.length + 1 = fd.np) (h : ∀ a b : Int, Go (fun r => ∃ (a' b' : Int) (d : D), leave fd.mkr 1 r = .ok (.dat d) [Cup a' b'] ∧ P d) (eSs (cF T F k) F fd.body (startE fd.ns (.ref 0 :: ds.map .dat)) [Cup a b])) : Dr F (k + 1) f ds P := fun a b =>
  call_fd (P := fun r => ∃ (a' b' : Int) (d : D), r = .ok (.dat d) [Cup a' b'] ∧ P d) hT (by simpa using hl) (h a b)
/-- an int from 0 to below m -/
def IsR (m : Int) (d : D) : Prop := ∃ r : Nat, d = .int r ∧ (r : Int) < m
theorem modB {i j : Int} (h : 0 < j) : binD .Mod (.int i) (.int j) = some (.int (i % j)) := by
  show (if 0 < j then _ else none) = _
  rw [if_pos h]
theorem divB {i j : Int} (h : 0 < j ∧ j < 1073741824) : binD .FloorDiv (.int i) (.int j) = some (.int (i / j)) := by
  show (if 0 < j ∧ j < 1073741824 then _ else none) = _
  rw [if_pos h]
theorem mulB {i j : Int} (h : okMul i j = true) : binD .Mult (.int i) (.int j) = some (.int (i * j)) := by
  show (if okMul i j = true then _ else none) = _
  rw [if_pos h]
theorem roll_ok (k : Nat) (m : Int) (hm : 0 < m) (hm2 : m < 1073741824) : Dr F (k + 1) F__law_roll [.int m] (IsR m) := by
  refine Dr.go rfl rfl fun a b => ?_
  have nn (x : Int) : ∃ r : Nat, x % m = r ∧ (r : Int) < m := by
    have h0 := Int.emod_nonneg x (show m ≠ 0 by omega)
    have h1 := Int.emod_lt_of_pos x hm
    exact ⟨(x % m).toNat, by omega, by omega⟩
  apply ss_ife
  · (repeat' (first | exact x_c | exact x_g | exact xs_nil | exact c_no | exact di_nil | exact o_no | exact x_v rfl | apply xs_cons | apply x_tup | apply x_lst | apply x_bin | apply x_neg | apply x_nt | apply x_and | apply x_or | apply x_cmp | apply x_cmp2 | apply x_ix | apply x_sl | apply x_rv | apply x_call | apply x_bi | apply x_lens | apply x_lrg | apply x_lrg0 | apply x_isi | apply o_so | apply c_so | apply i_r1 | apply i_r2 | apply i_sq | apply x_mtW | apply di_cons | apply x_dic | apply x_nl | apply x_lc | apply x_lcf | (intro a ha; refine ⟨_, rfl, ?_, ?_⟩) | (intro a ha; refine ⟨_, rfl, ?_⟩) | exact allB | exact anyB | exact cW_eq (okD_r (by decide)) | exact cW_ne (okD_r (by decide)) | exact cW_lt | exact cW_gt | exact cW_le | exact cW_ge | exact cW_inS | exact cW_is | exact cW_isn | exact cW_isN | exact cW_isnN | exact lenT | exact intI | exact intB | exact absI | exact listT | exact listL | exact tupT | exact tupL | exact minI | exact maxI | exact strS | exact boolB | exact listScr | exact lenL | exact ixT0 | exact ixT1 | exact ixT2 | exact ixT3 | exact ixL0 | exact rfl | exact Nat.le_of_ble_eq_true rfl | exact fun hp => absurd hp fnt | exact fun hp => absurd hp tnf | refine imp_x ?_ | (intro (hp : (_ : Bool) = _)) | exact (false : Bool) | exact D.non | assumption))
  · intro _
    apply ss_asg
    · (repeat' (first | exact modB hm | exact x_c | exact x_g | exact xs_nil | exact c_no | exact di_nil | exact o_no | exact x_v rfl | apply xs_cons | apply x_tup | apply x_lst | apply x_bin | apply x_neg | apply x_nt | apply x_and | apply x_or | apply x_cmp | apply x_cmp2 | apply x_ix | apply x_sl | apply x_rv | apply x_call | apply x_bi | apply x_lens | apply x_lrg | apply x_lrg0 | apply x_isi | apply o_so | apply c_so | apply i_r1 | apply i_r2 | apply i_sq | apply x_mtW | apply di_cons | apply x_dic | apply x_nl | apply x_lc | apply x_lcf | (intro a ha; refine ⟨_, rfl, ?_, ?_⟩) | (intro a ha; refine ⟨_, rfl, ?_⟩) | exact allB | exact anyB | exact cW_eq (okD_r (by decide)) | exact cW_ne (okD_r (by decide)) | exact cW_lt | exact cW_gt | exact cW_le | exact cW_ge | exact cW_inS | exact cW_is | exact cW_isn | exact cW_isN | exact cW_isnN | exact lenT | exact intI | exact intB | exact absI | exact listT | exact listL | exact tupT | exact tupL | exact minI | exact maxI | exact strS | exact boolB | exact listScr | exact lenL | exact ixT0 | exact ixT1 | exact ixT2 | exact ixT3 | exact ixL0 | exact rfl | exact Nat.le_of_ble_eq_true rfl | exact fun hp => absurd hp fnt | exact fun hp => absurd hp tnf | refine imp_x ?_ | (intro (hp : (_ : Bool) = _)) | exact (false : Bool) | exact D.non | assumption))
    · rfl
    apply ss_sst
    · (repeat' (first | exact divB ⟨hm, hm2⟩ | exact x_c | exact x_g | exact xs_nil | exact c_no | exact di_nil | exact o_no | exact x_v rfl | apply xs_cons | apply x_tup | apply x_lst | apply x_bin | apply x_neg | apply x_nt | apply x_and | apply x_or | apply x_cmp | apply x_cmp2 | apply x_ix | apply x_sl | apply x_rv | apply x_call | apply x_bi | apply x_lens | apply x_lrg | apply x_lrg0 | apply x_isi | apply o_so | apply c_so | apply i_r1 | apply i_r2 | apply i_sq | apply x_mtW | apply di_cons | apply x_dic | apply x_nl | apply x_lc | apply x_lcf | (intro a ha; refine ⟨_, rfl, ?_, ?_⟩) | (intro a ha; refine ⟨_, rfl, ?_⟩) | exact allB | exact anyB | exact cW_eq (okD_r (by decide)) | exact cW_ne (okD_r (by decide)) | exact cW_lt | exact cW_gt | exact cW_le | exact cW_ge | exact cW_inS | exact cW_is | exact cW_isn | exact cW_isN | exact cW_isnN | exact lenT | exact intI | exact intB | exact absI | exact listT | exact listL | exact tupT | exact tupL | exact minI | exact maxI | exact strS | exact boolB | exact listScr | exact lenL | exact ixT0 | exact ixT1 | exact ixT2 | exact ixT3 | exact ixL0 | exact rfl | exact Nat.le_of_ble_eq_true rfl | exact fun hp => absurd hp fnt | exact fun hp => absurd hp tnf | refine imp_x ?_ | (intro (hp : (_ : Bool) = _)) | exact (false : Bool) | exact D.non | assumption))
    · exact x_v rfl
    · exact x_c
    · rfl
    · rfl
    apply ss_ret (x_v rfl)
    obtain ⟨r, e, hr⟩ := nn a
    rw [e]
    exact ⟨_, _, _, rfl, r, rfl, hr⟩
  · intro _
    have m1 : okMul b 39545 = true := by simp [okMul]
    have c0 : 0 ≤ (b * 39545 + 15025) % 2147483497 := Int.emod_nonneg _ (by omega)
    have c1 : (b * 39545 + 15025) % 2147483497 < 2147483497 := Int.emod_lt_of_pos _ (by omega)
    have m2 : okMul ((b * 39545 + 15025) % 2147483497) ((b * 39545 + 15025) % 2147483497 + 4625) = true := by
      unfold okMul
      rw [Bool.or_eq_true, Bool.and_eq_true, decide_eq_true_iff, decide_eq_true_iff]
      exact .inl ⟨by omega, by omega⟩
    apply ss_sst
    · (repeat' (first | exact mulB m1 | exact modB (by decide) | exact x_c | exact x_g | exact xs_nil | exact c_no | exact di_nil | exact o_no | exact x_v rfl | apply xs_cons | apply x_tup | apply x_lst | apply x_bin | apply x_neg | apply x_nt | apply x_and | apply x_or | apply x_cmp | apply x_cmp2 | apply x_ix | apply x_sl | apply x_rv | apply x_call | apply x_bi | apply x_lens | apply x_lrg | apply x_lrg0 | apply x_isi | apply o_so | apply c_so | apply i_r1 | apply i_r2 | apply i_sq | apply x_mtW | apply di_cons | apply x_dic | apply x_nl | apply x_lc | apply x_lcf | (intro a ha; refine ⟨_, rfl, ?_, ?_⟩) | (intro a ha; refine ⟨_, rfl, ?_⟩) | exact allB | exact anyB | exact cW_eq (okD_r (by decide)) | exact cW_ne (okD_r (by decide)) | exact cW_lt | exact cW_gt | exact cW_le | exact cW_ge | exact cW_inS | exact cW_is | exact cW_isn | exact cW_isN | exact cW_isnN | exact lenT | exact intI | exact intB | exact absI | exact listT | exact listL | exact tupT | exact tupL | exact minI | exact maxI | exact strS | exact boolB | exact listScr | exact lenL | exact ixT0 | exact ixT1 | exact ixT2 | exact ixT3 | exact ixL0 | exact rfl | exact Nat.le_of_ble_eq_true rfl | exact fun hp => absurd hp fnt | exact fun hp => absurd hp tnf | refine imp_x ?_ | (intro (hp : (_ : Bool) = _)) | exact (false : Bool) | exact D.non | assumption))
    · exact x_v rfl
    · exact x_c
    · rfl
    · rfl
    apply ss_asg
    · (repeat' (first | exact mulB m2 | exact modB (by decide) | exact x_c | exact x_g | exact xs_nil | exact c_no | exact di_nil | exact o_no | exact x_v rfl | apply xs_cons | apply x_tup | apply x_lst | apply x_bin | apply x_neg | apply x_nt | apply x_and | apply x_or | apply x_cmp | apply x_cmp2 | apply x_ix | apply x_sl | apply x_rv | apply x_call | apply x_bi | apply x_lens | apply x_lrg | apply x_lrg0 | apply x_isi | apply o_so | apply c_so | apply i_r1 | apply i_r2 | apply i_sq | apply x_mtW | apply di_cons | apply x_dic | apply x_nl | apply x_lc | apply x_lcf | (intro a ha; refine ⟨_, rfl, ?_, ?_⟩) | (intro a ha; refine ⟨_, rfl, ?_⟩) | exact allB | exact anyB | exact cW_eq (okD_r (by decide)) | exact cW_ne (okD_r (by decide)) | exact cW_lt | exact cW_gt | exact cW_le | exact cW_ge | exact cW_inS | exact cW_is | exact cW_isn | exact cW_isN | exact cW_isnN | exact lenT | exact intI | exact intB | exact absI | exact listT | exact listL | exact tupT | exact tupL | exact minI | exact maxI | exact strS | exact boolB | exact listScr | exact lenL | exact ixT0 | exact ixT1 | exact ixT2 | exact ixT3 | exact ixL0 | exact rfl | exact Nat.le_of_ble_eq_true rfl | exact fun hp => absurd hp fnt | exact fun hp => absurd hp tnf | refine imp_x ?_ | (intro (hp : (_ : Bool) = _)) | exact (false : Bool) | exact D.non | assumption))
    · rfl
    apply ss_ret
    · (repeat' (first | exact divB (by decide) | exact modB hm | exact x_c | exact x_g | exact xs_nil | exact c_no | exact di_nil | exact o_no | exact x_v rfl | apply xs_cons | apply x_tup | apply x_lst | apply x_bin | apply x_neg | apply x_nt | apply x_and | apply x_or | apply x_cmp | apply x_cmp2 | apply x_ix | apply x_sl | apply x_rv | apply x_call | apply x_bi | apply x_lens | apply x_lrg | apply x_lrg0 | apply x_isi | apply o_so | apply c_so | apply i_r1 | apply i_r2 | apply i_sq | apply x_mtW | apply di_cons | apply x_dic | apply x_nl | apply x_lc | apply x_lcf | (intro a ha; refine ⟨_, rfl, ?_, ?_⟩) | (intro a ha; refine ⟨_, rfl, ?_⟩) | exact allB | exact anyB | exact cW_eq (okD_r (by decide)) | exact cW_ne (okD_r (by decide)) | exact cW_lt | exact cW_gt | exact cW_le | exact cW_ge | exact cW_inS | exact cW_is | exact cW_isn | exact cW_isN | exact cW_isnN | exact lenT | exact intI | exact intB | exact absI | exact listT | exact listL | exact tupT | exact tupL | exact minI | exact maxI | exact strS | exact boolB | exact listScr | exact lenL | exact ixT0 | exact ixT1 | exact ixT2 | exact ixT3 | exact ixL0 | exact rfl | exact Nat.le_of_ble_eq_true rfl | exact fun hp => absurd hp fnt | exact fun hp => absurd hp tnf | refine imp_x ?_ | (intro (hp : (_ : Bool) = _)) | exact (false : Bool) | exact D.non | assumption))
    obtain ⟨r, e, hr⟩ := nn (((b * 39545 + 15025) % 2147483497) * ((b * 39545 + 15025) % 2147483497 + 4625) % 2147483237 / 5307)
    rw [e]
    exact ⟨_, _, _, rfl, r, rfl, hr⟩
theorem powB : binD .Pow (.int 10) (.int 18) = some (.int 1000000000000000000) := by
  simp [binD]
theorem addL {xs ys : List D} (h : xs.length + ys.length ≤ bigLine) : binD .Add (.lst xs) (.lst ys) = some (.lst (xs ++ ys)) := by
  show (if xs.length + ys.length ≤ bigLine then _ else none) = _
  rw [if_pos h]
theorem addT {xs ys : List D} (h : xs.length + ys.length ≤ bigLine) : binD .Add (.tup xs) (.tup ys) = some (.tup (xs ++ ys)) := by
  show (if xs.length + ys.length ≤ bigLine then _ else none) = _
  rw [if_pos h]
theorem addS {x y : Str} (h : x.length + y.length ≤ bigLine) : binD .Add (.str x) (.str y) = some (.str (x ++ y)) := by
  show (if x.length + y.length ≤ bigLine then _ else none) = _
  rw [if_pos h]
theorem cup_ok (k : Nat) (ns : List Int) (hz : ns.length ≤ 63) : ∃ a b : Int, cF T F (k + 1) F__law_cup [.scr ns] [] = .ok (.ref 0) [Cup a b] := by
  refine call_fd (P := fun r => ∃ a b : Int, r = .ok (.ref 0) [Cup a b]) rfl rfl ?_
  have h2 : (ns.map D.int).length + [D.int 0].length ≤ bigLine := by unfold bigLine; simp; omega
  obtain ⟨i, r, h1⟩ : ∃ (i : Int) (r : List D), ns.map D.int ++ [D.int 0] = .int i :: r := by
    cases ns with
    | nil => exact ⟨0, [], rfl⟩
    | cons n ns => exact ⟨n, _, rfl⟩
  have ad : binD .Add (.lst (ns.map .int)) (.lst [.int 0]) = some (.lst (.int i :: r)) := by
    rw [addL h2, h1]
  have m1 : okMul (if i < 0 then -i else i) 6011 = true := by simp [okMul]
  apply ss_asg
  · (repeat' (first | exact ad | exact x_c | exact x_g | exact xs_nil | exact c_no | exact di_nil | exact o_no | exact x_v rfl | apply xs_cons | apply x_tup | apply x_lst | apply x_bin | apply x_neg | apply x_nt | apply x_and | apply x_or | apply x_cmp | apply x_cmp2 | apply x_ix | apply x_sl | apply x_rv | apply x_call | apply x_bi | apply x_lens | apply x_lrg | apply x_lrg0 | apply x_isi | apply o_so | apply c_so | apply i_r1 | apply i_r2 | apply i_sq | apply x_mtW | apply di_cons | apply x_dic | apply x_nl | apply x_lc | apply x_lcf | (intro a ha; refine ⟨_, rfl, ?_, ?_⟩) | (intro a ha; refine ⟨_, rfl, ?_⟩) | exact allB | exact anyB | exact cW_eq (okD_r (by decide)) | exact cW_ne (okD_r (by decide)) | exact cW_lt | exact cW_gt | exact cW_le | exact cW_ge | exact cW_inS | exact cW_is | exact cW_isn | exact cW_isN | exact cW_isnN | exact lenT | exact intI | exact intB | exact absI | exact listT | exact listL | exact tupT | exact tupL | exact minI | exact maxI | exact strS | exact boolB | exact listScr | exact lenL | exact ixT0 | exact ixT1 | exact ixT2 | exact ixT3 | exact ixL0 | exact rfl | exact Nat.le_of_ble_eq_true rfl | exact fun hp => absurd hp fnt | exact fun hp => absurd hp tnf | refine imp_x ?_ | (intro (hp : (_ : Bool) = _)) | exact (false : Bool) | exact D.non | assumption))
  · rfl
  apply ss_ret
  · apply x_nl
    · apply x_lst
      · apply xs_cons
        · apply x_iteD (dx := .int ((if i < 0 then -i else i) / 5109)) (dy := .int 0)
          · (repeat' (first | exact powB | exact x_c | exact x_g | exact xs_nil | exact c_no | exact di_nil | exact o_no | exact x_v rfl | apply xs_cons | apply x_tup | apply x_lst | apply x_bin | apply x_neg | apply x_nt | apply x_and | apply x_or | apply x_cmp | apply x_cmp2 | apply x_ix | apply x_sl | apply x_rv | apply x_call | apply x_bi | apply x_lens | apply x_lrg | apply x_lrg0 | apply x_isi | apply o_so | apply c_so | apply i_r1 | apply i_r2 | apply i_sq | apply x_mtW | apply di_cons | apply x_dic | apply x_nl | apply x_lc | apply x_lcf | (intro a ha; refine ⟨_, rfl, ?_, ?_⟩) | (intro a ha; refine ⟨_, rfl, ?_⟩) | exact allB | exact anyB | exact cW_eq (okD_r (by decide)) | exact cW_ne (okD_r (by decide)) | exact cW_lt | exact cW_gt | exact cW_le | exact cW_ge | exact cW_inS | exact cW_is | exact cW_isn | exact cW_isN | exact cW_isnN | exact lenT | exact intI | exact intB | exact absI | exact listT | exact listL | exact tupT | exact tupL | exact minI | exact maxI | exact strS | exact boolB | exact listScr | exact lenL | exact ixT0 | exact ixT1 | exact ixT2 | exact ixT3 | exact ixL0 | exact rfl | exact Nat.le_of_ble_eq_true rfl | exact fun hp => absurd hp fnt | exact fun hp => absurd hp tnf | refine imp_x ?_ | (intro (hp : (_ : Bool) = _)) | exact (false : Bool) | exact D.non | assumption))
          · intro _; (repeat' (first | exact divB (by decide) | exact x_c | exact x_g | exact xs_nil | exact c_no | exact di_nil | exact o_no | exact x_v rfl | apply xs_cons | apply x_tup | apply x_lst | apply x_bin | apply x_neg | apply x_nt | apply x_and | apply x_or | apply x_cmp | apply x_cmp2 | apply x_ix | apply x_sl | apply x_rv | apply x_call | apply x_bi | apply x_lens | apply x_lrg | apply x_lrg0 | apply x_isi | apply o_so | apply c_so | apply i_r1 | apply i_r2 | apply i_sq | apply x_mtW | apply di_cons | apply x_dic | apply x_nl | apply x_lc | apply x_lcf | (intro a ha; refine ⟨_, rfl, ?_, ?_⟩) | (intro a ha; refine ⟨_, rfl, ?_⟩) | exact allB | exact anyB | exact cW_eq (okD_r (by decide)) | exact cW_ne (okD_r (by decide)) | exact cW_lt | exact cW_gt | exact cW_le | exact cW_ge | exact cW_inS | exact cW_is | exact cW_isn | exact cW_isN | exact cW_isnN | exact lenT | exact intI | exact intB | exact absI | exact listT | exact listL | exact tupT | exact tupL | exact minI | exact maxI | exact strS | exact boolB | exact listScr | exact lenL | exact ixT0 | exact ixT1 | exact ixT2 | exact ixT3 | exact ixL0 | exact rfl | exact Nat.le_of_ble_eq_true rfl | exact fun hp => absurd hp fnt | exact fun hp => absurd hp tnf | refine imp_x ?_ | (intro (hp : (_ : Bool) = _)) | exact (false : Bool) | exact D.non | assumption))
          · intro _; exact x_c
        · apply xs_cons
          · (repeat' (first | exact mulB m1 | exact modB (by decide) | exact x_c | exact x_g | exact xs_nil | exact c_no | exact di_nil | exact o_no | exact x_v rfl | apply xs_cons | apply x_tup | apply x_lst | apply x_bin | apply x_neg | apply x_nt | apply x_and | apply x_or | apply x_cmp | apply x_cmp2 | apply x_ix | apply x_sl | apply x_rv | apply x_call | apply x_bi | apply x_lens | apply x_lrg | apply x_lrg0 | apply x_isi | apply o_so | apply c_so | apply i_r1 | apply i_r2 | apply i_sq | apply x_mtW | apply di_cons | apply x_dic | apply x_nl | apply x_lc | apply x_lcf | (intro a ha; refine ⟨_, rfl, ?_, ?_⟩) | (intro a ha; refine ⟨_, rfl, ?_⟩) | exact allB | exact anyB | exact cW_eq (okD_r (by decide)) | exact cW_ne (okD_r (by decide)) | exact cW_lt | exact cW_gt | exact cW_le | exact cW_ge | exact cW_inS | exact cW_is | exact cW_isn | exact cW_isN | exact cW_isnN | exact lenT | exact intI | exact intB | exact absI | exact listT | exact listL | exact tupT | exact tupL | exact minI | exact maxI | exact strS | exact boolB | exact listScr | exact lenL | exact ixT0 | exact ixT1 | exact ixT2 | exact ixT3 | exact ixL0 | exact rfl | exact Nat.le_of_ble_eq_true rfl | exact fun hp => absurd hp fnt | exact fun hp => absurd hp tnf | refine imp_x ?_ | (intro (hp : (_ : Bool) = _)) | exact (false : Bool) | exact D.non | assumption))
          · exact xs_nil
      · rfl
    · rfl
  by_cases h : (!decide ((if i < 0 then -i else i) < 1000000000000000000)) = true
  · rw [h]
    exact ⟨_, _, rfl⟩
  · simp only [Bool.not_eq_true] at h
    rw [h]
    exact ⟨_, _, rfl⟩
theorem some_ok (k : Nat) (xs : List D) (h0 : 0 < xs.length) (h1 : xs.length < 1000000) : Dr F (k + 2) F__law_some [.lst xs] (· ∈ xs) := by
  refine Dr.go rfl rfl fun a b => ?_
  obtain ⟨a', b', _, e, r, rfl, hr⟩ := (roll_ok (F := F) k xs.length (by omega) (by omega)).use (Nat.le_refl _) a b []
  have hr' : r < xs.length := by omega
  apply ss_ret
  · (repeat' (first | exact e | exact ixL (atN_nat hr') (List.getElem?_eq_getElem hr') | exact x_c | exact x_g | exact xs_nil | exact c_no | exact di_nil | exact o_no | exact x_v rfl | apply xs_cons | apply x_tup | apply x_lst | apply x_bin | apply x_neg | apply x_nt | apply x_and | apply x_or | apply x_cmp | apply x_cmp2 | apply x_ix | apply x_sl | apply x_rv | apply x_call | apply x_bi | apply x_lens | apply x_lrg | apply x_lrg0 | apply x_isi | apply o_so | apply c_so | apply i_r1 | apply i_r2 | apply i_sq | apply x_mtW | apply di_cons | apply x_dic | apply x_nl | apply x_lc | apply x_lcf | (intro a ha; refine ⟨_, rfl, ?_, ?_⟩) | (intro a ha; refine ⟨_, rfl, ?_⟩) | exact allB | exact anyB | exact cW_eq (okD_r (by decide)) | exact cW_ne (okD_r (by decide)) | exact cW_lt | exact cW_gt | exact cW_le | exact cW_ge | exact cW_inS | exact cW_is | exact cW_isn | exact cW_isN | exact cW_isnN | exact lenT | exact intI | exact intB | exact absI | exact listT | exact listL | exact tupT | exact tupL | exact minI | exact maxI | exact strS | exact boolB | exact listScr | exact lenL | exact ixT0 | exact ixT1 | exact ixT2 | exact ixT3 | exact ixL0 | exact rfl | exact Nat.le_of_ble_eq_true rfl | exact fun hp => absurd hp fnt | exact fun hp => absurd hp tnf | refine imp_x ?_ | (intro (hp : (_ : Bool) = _)) | exact (false : Bool) | exact D.non | assumption))
  · exact ⟨_, _, _, rfl, List.getElem_mem hr'⟩
theorem erase_perm {α : Type} : ∀ (l : List α) (j : Nat) (h : j < l.length), (l[j] :: l.eraseIdx j).Perm l
  | x :: l, 0, _ => .refl _
  | x :: l, j + 1, h => (List.Perm.swap x _ _).trans (.cons x (erase_perm l j (Nat.lt_of_succ_lt_succ h)))
theorem popI {ds : List D} {j : Nat} (h : j < ds.length) : mtC .pop (.lst ds) [.dat (.int j)] = some (.dat ds[j], .lst (ds.eraseIdx j)) := by
  show ((atN ds.length j).bind fun j => ds[j]?.map fun d => (W.dat d, Cell.lst (ds.eraseIdx j))) = _
  rw [atN_nat h, Option.bind_some, List.getElem?_eq_getElem h]; rfl
theorem appD {ds : List D} {d : D} (h : ds.length < bigLine) : mtC .append (.lst ds) [.dat d] = some (.dat .non, .lst (ds ++ [d])) := by
  show (if ds.length < bigLine then _ else none) = _
  rw [if_pos h]
/-- an answer that is a list, alike to xs but for the sequence -/
def IsPerm (xs : List D) (d : D) : Prop := ∃ ys, d = .lst ys ∧ ys.Perm xs
theorem turned_ok (k : Nat) (xs : List D) (h1 : xs.length < 1000000) : Dr F (k + 2) F__law_turned [.lst xs] (IsPerm xs) := by
  refine Dr.go rfl rfl fun a b => ?_
  apply ss_asg
  · (repeat' (first | exact x_c | exact x_g | exact xs_nil | exact c_no | exact di_nil | exact o_no | exact x_v rfl | apply xs_cons | apply x_tup | apply x_lst | apply x_bin | apply x_neg | apply x_nt | apply x_and | apply x_or | apply x_cmp | apply x_cmp2 | apply x_ix | apply x_sl | apply x_rv | apply x_call | apply x_bi | apply x_lens | apply x_lrg | apply x_lrg0 | apply x_isi | apply o_so | apply c_so | apply i_r1 | apply i_r2 | apply i_sq | apply x_mtW | apply di_cons | apply x_dic | apply x_nl | apply x_lc | apply x_lcf | (intro a ha; refine ⟨_, rfl, ?_, ?_⟩) | (intro a ha; refine ⟨_, rfl, ?_⟩) | exact allB | exact anyB | exact cW_eq (okD_r (by decide)) | exact cW_ne (okD_r (by decide)) | exact cW_lt | exact cW_gt | exact cW_le | exact cW_ge | exact cW_inS | exact cW_is | exact cW_isn | exact cW_isN | exact cW_isnN | exact lenT | exact intI | exact intB | exact absI | exact listT | exact listL | exact tupT | exact tupL | exact minI | exact maxI | exact strS | exact boolB | exact listScr | exact lenL | exact ixT0 | exact ixT1 | exact ixT2 | exact ixT3 | exact ixL0 | exact rfl | exact Nat.le_of_ble_eq_true rfl | exact fun hp => absurd hp fnt | exact fun hp => absurd hp tnf | refine imp_x ?_ | (intro (hp : (_ : Bool) = _)) | exact (false : Bool) | exact D.non | assumption))
  · rfl
  refine ss_forI (as := xs) (k := .dat) (I := fun as ρ st => ∃ (a b : Int) (left found : List D) (o : Option W), ρ = [some (.ref 0), some (.dat (.lst xs)), some (.ref 1), some (.ref 2), o] ∧ st = [Cup a b, .lst left, .lst found] ∧ left.length = as.length ∧ (found ++ left).Perm xs) (i_sq (x_v rfl) rfl) ⟨a, b, xs, [], _, rfl, rfl, rfl, .refl _⟩ ?_ ?_
  · rintro x as ρ st ⟨a, b, left, found, o, rfl, rfl, hl, hp⟩
    simp only [List.length_cons] at hl
    have hlen := hp.length_eq
    simp only [List.length_append] at hlen
    refine ⟨_, rfl, ?_⟩
    obtain ⟨a', b', _, e, r, rfl, hr⟩ := (roll_ok (F := F) k left.length (by omega) (by omega)).use (Nat.le_refl _) a b [.lst left, .lst found]
    have hr' : r < left.length := by omega
    refine ss_ex (x_mtM rfl (x_v rfl) rfl rfl (xs_cons (x_mtM rfl (x_v rfl) rfl rfl (xs_cons (x_call (xs_cons (x_v rfl) (xs_cons (x_bi (xs_cons (x_v rfl) xs_nil) lenL) xs_nil)) e) xs_nil) rfl (popI hr')) xs_nil) rfl (appD (by unfold bigLine; omega))) (ss_nil ?_)
    refine .nx ⟨a', b', left.eraseIdx r, found ++ [left[r]], _, rfl, rfl, by rw [List.length_eraseIdx_of_lt hr']; omega, ?_⟩ rfl
    refine .trans ?_ hp
    rw [List.append_assoc]
    exact List.Perm.append_left _ (erase_perm _ _ _)
  · rintro ρ st ⟨a, b, left, found, o, rfl, rfl, hl, hp⟩
    have : left = [] := List.eq_nil_of_length_eq_zero hl
    subst this
    refine ss_ret (x_v rfl) ⟨a, b, .lst found, rfl, found, rfl, by simpa using hp⟩
end

/-! k02: drawn kinds and questions -/
section
variable {F : Nat}
def sixS : List Str := ["ant", "bee", "cat", "dog", "elk", "fox"]
def six : List D := sixS.map .str
theorem map_nodup {xs : List Str} (h : xs.Nodup) : (xs.map D.str).Nodup := by
  rw [List.nodup_iff_pairwise_ne] at h ⊢
  rw [List.pairwise_map]
  exact h.imp fun h e => h (by injection e)
theorem six_nodup : six.Nodup := map_nodup (by decide +kernel)
/-- drawn words, m at most -/
def Wds (m : Nat) (ws : List D) : Prop := 1 ≤ ws.length ∧ ws.length ≤ m ∧ ws.Nodup ∧ ∀ w ∈ ws, w ∈ six
/-- a drawn kind -/
inductive Knd (m : Nat) : D → Prop where
  | yes : Knd m (.tup [.str "yes"])
  | one {ws : List D} (h : Wds m ws) : Knd m (.tup [.str "one", .tup ws])
  | some {ws : List D} {l u : Nat} (h : Wds m ws) (h1 : l ≤ u) (h2 : u ≤ ws.length) : Knd m (.tup [.str "some", .tup ws, .int l, .int u])
  | num {l u : Int} (h1 : -9999 ≤ l) (h2 : l ≤ u) (h3 : u ≤ 9999) : Knd m (.tup [.str "number", .int l, .int u])
theorem cut_to {α : Type} {xs : List α} {n : Nat} : cutD xs none (some (n : Int)) = xs.take n := by
  have h1 : slB xs.length 0 none = 0 := rfl
  have h2 : slB xs.length xs.length (some (n : Int)) = min n xs.length := by
    show (if (n : Int) < 0 then ((n : Int) + xs.length).toNat else min (n : Int).toNat xs.length) = _
    rw [if_neg (by omega)]; rfl
  unfold cutD
  rw [h1, h2, List.drop_zero, Nat.sub_zero, List.take_eq_take_iff]
  omega
theorem slTo {xs : List D} {n : Nat} : slW (.dat (.lst xs)) none (some (n : Int)) = some (.dat (.lst (xs.take n))) := by
  rw [← cut_to]; rfl
theorem law_kind_ok (k m : Nat) (hm : 0 < m) (hm6 : m ≤ 6) : Dr F (k + 3) F__law_kind [.int m] (Knd m) := by
  refine Dr.go rfl rfl fun a b => ?_
  obtain ⟨a1, b1, _, e1, ys, rfl, hp⟩ := (turned_ok (F := F) k six (by decide)).use (Nat.le_refl _) a b []
  obtain ⟨a2, b2, _, e2, r, rfl, hr⟩ := (roll_ok (F := F) k m (by omega) (by omega)).use (k' := k + 2) (by omega) a1 b1 []
  have hlen : ys.length = 6 := hp.length_eq
  have hr' : r < m := by omega
  have hcast : ((1 : Int) + (r : Int)) = ((1 + r : Nat) : Int) := by omega
  have hw : Wds m (ys.take (1 + r)) := by
    refine ⟨?_, ?_, ?_, ?_⟩
    · rw [List.length_take]; omega
    · rw [List.length_take]; omega
    · exact ((hp.nodup_iff.mpr six_nodup).sublist (List.take_sublist _ _))
    · intro w hw
      exact hp.subset (List.mem_of_mem_take hw)
  have hs : slW (.dat (.lst ys)) none (some ((1 : Int) + (r : Int))) = some (.dat (.lst (ys.take (1 + r)))) := by rw [hcast]; exact slTo
  apply ss_asg
  · (repeat' (first | exact e1 | exact e2 | exact hs | exact x_c | exact x_g | exact xs_nil | exact c_no | exact di_nil | exact o_no | exact x_v rfl | apply xs_cons | apply x_tup | apply x_lst | apply x_bin | apply x_neg | apply x_nt | apply x_and | apply x_or | apply x_cmp | apply x_cmp2 | apply x_ix | apply x_sl | apply x_rv | apply x_call | apply x_bi | apply x_lens | apply x_lrg | apply x_lrg0 | apply x_isi | apply o_so | apply c_so | apply i_r1 | apply i_r2 | apply i_sq | apply x_mtW | apply di_cons | apply x_dic | apply x_nl | apply x_lc | apply x_lcf | (intro a ha; refine ⟨_, rfl, ?_, ?_⟩) | (intro a ha; refine ⟨_, rfl, ?_⟩) | exact allB | exact anyB | exact cW_eq (okD_r (by decide)) | exact cW_ne (okD_r (by decide)) | exact cW_lt | exact cW_gt | exact cW_le | exact cW_ge | exact cW_inS | exact cW_is | exact cW_isn | exact cW_isN | exact cW_isnN | exact lenT | exact intI | exact intB | exact absI | exact listT | exact listL | exact tupT | exact tupL | exact minI | exact maxI | exact strS | exact boolB | exact listScr | exact lenL | exact ixT0 | exact ixT1 | exact ixT2 | exact ixT3 | exact ixL0 | exact rfl | exact Nat.le_of_ble_eq_true rfl | exact fun hp => absurd hp fnt | exact fun hp => absurd hp tnf | refine imp_x ?_ | (intro (hp : (_ : Bool) = _)) | exact (false : Bool) | exact D.non | assumption))
  · rfl
  generalize ys.take (1 + r) = ws at hw
  clear hs hp e1 e2
  obtain ⟨a3, b3, d3, e3, h3⟩ := (some_ok (F := F) k [.str "yes", .str "one", .str "some", .str "number"] (by decide) (by decide)).use (Nat.le_refl _) a2 b2 []
  apply ss_asg
  · (repeat' (first | exact e3 | exact x_c | exact x_g | exact xs_nil | exact c_no | exact di_nil | exact o_no | exact x_v rfl | apply xs_cons | apply x_tup | apply x_lst | apply x_bin | apply x_neg | apply x_nt | apply x_and | apply x_or | apply x_cmp | apply x_cmp2 | apply x_ix | apply x_sl | apply x_rv | apply x_call | apply x_bi | apply x_lens | apply x_lrg | apply x_lrg0 | apply x_isi | apply o_so | apply c_so | apply i_r1 | apply i_r2 | apply i_sq | apply x_mtW | apply di_cons | apply x_dic | apply x_nl | apply x_lc | apply x_lcf | (intro a ha; refine ⟨_, rfl, ?_, ?_⟩) | (intro a ha; refine ⟨_, rfl, ?_⟩) | exact allB | exact anyB | exact cW_eq (okD_r (by decide)) | exact cW_ne (okD_r (by decide)) | exact cW_lt | exact cW_gt | exact cW_le | exact cW_ge | exact cW_inS | exact cW_is | exact cW_isn | exact cW_isN | exact cW_isnN | exact lenT | exact intI | exact intB | exact absI | exact listT | exact listL | exact tupT | exact tupL | exact minI | exact maxI | exact strS | exact boolB | exact listScr | exact lenL | exact ixT0 | exact ixT1 | exact ixT2 | exact ixT3 | exact ixL0 | exact rfl | exact Nat.le_of_ble_eq_true rfl | exact fun hp => absurd hp fnt | exact fun hp => absurd hp tnf | refine imp_x ?_ | (intro (hp : (_ : Bool) = _)) | exact (false : Bool) | exact D.non | assumption))
  · rfl
  obtain ⟨a4, b4, _, e4, r4, rfl, h4⟩ := (roll_ok (F := F) k 5 (by omega) (by omega)).use (k' := k + 2) (by omega) a3 b3 []
  obtain ⟨a5, b5, d5, e5, h5⟩ := (some_ok (F := F) k [.int 0, .int (-2), .int r4, .int (-9999), .int 9990] (by simp) (by simp)).use (Nat.le_refl _) a4 b4 []
  apply ss_asg
  · (repeat' (first | exact e4 | exact e5 | exact x_c | exact x_g | exact xs_nil | exact c_no | exact di_nil | exact o_no | exact x_v rfl | apply xs_cons | apply x_tup | apply x_lst | apply x_bin | apply x_neg | apply x_nt | apply x_and | apply x_or | apply x_cmp | apply x_cmp2 | apply x_ix | apply x_sl | apply x_rv | apply x_call | apply x_bi | apply x_lens | apply x_lrg | apply x_lrg0 | apply x_isi | apply o_so | apply c_so | apply i_r1 | apply i_r2 | apply i_sq | apply x_mtW | apply di_cons | apply x_dic | apply x_nl | apply x_lc | apply x_lcf | (intro a ha; refine ⟨_, rfl, ?_, ?_⟩) | (intro a ha; refine ⟨_, rfl, ?_⟩) | exact allB | exact anyB | exact cW_eq (okD_r (by decide)) | exact cW_ne (okD_r (by decide)) | exact cW_lt | exact cW_gt | exact cW_le | exact cW_ge | exact cW_inS | exact cW_is | exact cW_isn | exact cW_isN | exact cW_isnN | exact lenT | exact intI | exact intB | exact absI | exact listT | exact listL | exact tupT | exact tupL | exact minI | exact maxI | exact strS | exact boolB | exact listScr | exact lenL | exact ixT0 | exact ixT1 | exact ixT2 | exact ixT3 | exact ixL0 | exact rfl | exact Nat.le_of_ble_eq_true rfl | exact fun hp => absurd hp fnt | exact fun hp => absurd hp tnf | refine imp_x ?_ | (intro (hp : (_ : Bool) = _)) | exact (false : Bool) | exact D.non | assumption))
  · rfl
  have hlow : ∃ l : Int, d5 = .int l ∧ -9999 ≤ l ∧ l ≤ 9990 := by
    simp at h5
    rcases h5 with rfl | rfl | rfl | rfl | rfl
    · exact ⟨_, rfl, by omega, by omega⟩
    · exact ⟨_, rfl, by omega, by omega⟩
    · exact ⟨_, rfl, by omega, by omega⟩
    · exact ⟨_, rfl, by omega, by omega⟩
    · exact ⟨_, rfl, by omega, by omega⟩
  obtain ⟨l, rfl, hl1, hl2⟩ := hlow
  by_cases hk : d3 = .str "some"
  · subst hk
    obtain ⟨a6, b6, _, e6, r6, rfl, h6⟩ := (roll_ok (F := F) k ((ws.length : Int) + 1) (by omega) (by have := hw.2.1; omega)).use (k' := k + 2) (by omega) a5 b5 []
    obtain ⟨a7, b7, _, e7, r7, rfl, h7⟩ := (roll_ok (F := F) k ((ws.length : Int) - r6 + 1) (by omega) (by have := hw.2.1; omega)).use (k' := k + 2) (by omega) a6 b6 []
    refine ss_ifT (x_cmp (x_v rfl) x_c rfl) rfl ?_
    apply ss_asg
    · (repeat' (first | exact e6 | exact x_c | exact x_g | exact xs_nil | exact c_no | exact di_nil | exact o_no | exact x_v rfl | apply xs_cons | apply x_tup | apply x_lst | apply x_bin | apply x_neg | apply x_nt | apply x_and | apply x_or | apply x_cmp | apply x_cmp2 | apply x_ix | apply x_sl | apply x_rv | apply x_call | apply x_bi | apply x_lens | apply x_lrg | apply x_lrg0 | apply x_isi | apply o_so | apply c_so | apply i_r1 | apply i_r2 | apply i_sq | apply x_mtW | apply di_cons | apply x_dic | apply x_nl | apply x_lc | apply x_lcf | (intro a ha; refine ⟨_, rfl, ?_, ?_⟩) | (intro a ha; refine ⟨_, rfl, ?_⟩) | exact allB | exact anyB | exact cW_eq (okD_r (by decide)) | exact cW_ne (okD_r (by decide)) | exact cW_lt | exact cW_gt | exact cW_le | exact cW_ge | exact cW_inS | exact cW_is | exact cW_isn | exact cW_isN | exact cW_isnN | exact lenT | exact intI | exact intB | exact absI | exact listT | exact listL | exact tupT | exact tupL | exact minI | exact maxI | exact strS | exact boolB | exact listScr | exact lenL | exact ixT0 | exact ixT1 | exact ixT2 | exact ixT3 | exact ixL0 | exact rfl | exact Nat.le_of_ble_eq_true rfl | exact fun hp => absurd hp fnt | exact fun hp => absurd hp tnf | refine imp_x ?_ | (intro (hp : (_ : Bool) = _)) | exact (false : Bool) | exact D.non | assumption))
    · rfl
    apply ss_ret
    · (repeat' (first | exact e7 | exact x_c | exact x_g | exact xs_nil | exact c_no | exact di_nil | exact o_no | exact x_v rfl | apply xs_cons | apply x_tup | apply x_lst | apply x_bin | apply x_neg | apply x_nt | apply x_and | apply x_or | apply x_cmp | apply x_cmp2 | apply x_ix | apply x_sl | apply x_rv | apply x_call | apply x_bi | apply x_lens | apply x_lrg | apply x_lrg0 | apply x_isi | apply o_so | apply c_so | apply i_r1 | apply i_r2 | apply i_sq | apply x_mtW | apply di_cons | apply x_dic | apply x_nl | apply x_lc | apply x_lcf | (intro a ha; refine ⟨_, rfl, ?_, ?_⟩) | (intro a ha; refine ⟨_, rfl, ?_⟩) | exact allB | exact anyB | exact cW_eq (okD_r (by decide)) | exact cW_ne (okD_r (by decide)) | exact cW_lt | exact cW_gt | exact cW_le | exact cW_ge | exact cW_inS | exact cW_is | exact cW_isn | exact cW_isN | exact cW_isnN | exact lenT | exact intI | exact intB | exact absI | exact listT | exact listL | exact tupT | exact tupL | exact minI | exact maxI | exact strS | exact boolB | exact listScr | exact lenL | exact ixT0 | exact ixT1 | exact ixT2 | exact ixT3 | exact ixL0 | exact rfl | exact Nat.le_of_ble_eq_true rfl | exact fun hp => absurd hp fnt | exact fun hp => absurd hp tnf | refine imp_x ?_ | (intro (hp : (_ : Bool) = _)) | exact (false : Bool) | exact D.non | assumption))
    refine ⟨_, _, _, rfl, ?_⟩
    have : (r6 : Int) + (r7 : Int) = ((r6 + r7 : Nat) : Int) := by omega
    show Knd m (.tup [.str "some", .tup ws, .int r6, .int ((r6 : Int) + (r7 : Int))])
    rw [this]
    exact .some hw (by omega) (by omega)
  · obtain ⟨a6, b6, _, e6, r6, rfl, h6⟩ := (roll_ok (F := F) k 8 (by omega) (by omega)).use (k' := k + 2) (by omega) a5 b5 []
    have hk3 : d3 = .str "yes" ∨ d3 = .str "one" ∨ d3 = .str "number" := by
      simp at h3
      rcases h3 with h | h | h | h
      · exact .inl h
      · exact .inr (.inl h)
      · exact absurd h hk
      · exact .inr (.inr h)
    refine ss_ifF (x_cmp (x_v rfl) x_c (cW_eq (okD_r (by decide)))) (by rcases hk3 with rfl | rfl | rfl <;> rfl) ?_
    have hd : ∃ w, ixW (.fdi false [(.str "yes", .tup [.str "yes"]), (.str "one", .tup [.str "one", .tup ws]), (.str "number", .tup [.str "number", .int l, .int (l + r6)])]) (.dat d3) = some (.dat w) ∧ Knd m w := by
      rcases hk3 with rfl | rfl | rfl
      · exact ⟨_, rfl, .yes⟩
      · exact ⟨_, rfl, .one hw⟩
      · exact ⟨_, rfl, .num hl1 (by omega) (by omega)⟩
    obtain ⟨w, hd, hkw⟩ := hd
    apply ss_ret
    · apply x_ix
      · (repeat' (first | exact e6 | exact x_c | exact x_g | exact xs_nil | exact c_no | exact di_nil | exact o_no | exact x_v rfl | apply xs_cons | apply x_tup | apply x_lst | apply x_bin | apply x_neg | apply x_nt | apply x_and | apply x_or | apply x_cmp | apply x_cmp2 | apply x_ix | apply x_sl | apply x_rv | apply x_call | apply x_bi | apply x_lens | apply x_lrg | apply x_lrg0 | apply x_isi | apply o_so | apply c_so | apply i_r1 | apply i_r2 | apply i_sq | apply x_mtW | apply di_cons | apply x_dic | apply x_nl | apply x_lc | apply x_lcf | (intro a ha; refine ⟨_, rfl, ?_, ?_⟩) | (intro a ha; refine ⟨_, rfl, ?_⟩) | exact allB | exact anyB | exact cW_eq (okD_r (by decide)) | exact cW_ne (okD_r (by decide)) | exact cW_lt | exact cW_gt | exact cW_le | exact cW_ge | exact cW_inS | exact cW_is | exact cW_isn | exact cW_isN | exact cW_isnN | exact lenT | exact intI | exact intB | exact absI | exact listT | exact listL | exact tupT | exact tupL | exact minI | exact maxI | exact strS | exact boolB | exact listScr | exact lenL | exact ixT0 | exact ixT1 | exact ixT2 | exact ixT3 | exact ixL0 | exact rfl | exact Nat.le_of_ble_eq_true rfl | exact fun hp => absurd hp fnt | exact fun hp => absurd hp tnf | refine imp_x ?_ | (intro (hp : (_ : Bool) = _)) | exact (false : Bool) | exact D.non | assumption))
      · (repeat' (first | exact x_c | exact x_g | exact xs_nil | exact c_no | exact di_nil | exact o_no | exact x_v rfl | apply xs_cons | apply x_tup | apply x_lst | apply x_bin | apply x_neg | apply x_nt | apply x_and | apply x_or | apply x_cmp | apply x_cmp2 | apply x_ix | apply x_sl | apply x_rv | apply x_call | apply x_bi | apply x_lens | apply x_lrg | apply x_lrg0 | apply x_isi | apply o_so | apply c_so | apply i_r1 | apply i_r2 | apply i_sq | apply x_mtW | apply di_cons | apply x_dic | apply x_nl | apply x_lc | apply x_lcf | (intro a ha; refine ⟨_, rfl, ?_, ?_⟩) | (intro a ha; refine ⟨_, rfl, ?_⟩) | exact allB | exact anyB | exact cW_eq (okD_r (by decide)) | exact cW_ne (okD_r (by decide)) | exact cW_lt | exact cW_gt | exact cW_le | exact cW_ge | exact cW_inS | exact cW_is | exact cW_isn | exact cW_isN | exact cW_isnN | exact lenT | exact intI | exact intB | exact absI | exact listT | exact listL | exact tupT | exact tupL | exact minI | exact maxI | exact strS | exact boolB | exact listScr | exact lenL | exact ixT0 | exact ixT1 | exact ixT2 | exact ixT3 | exact ixL0 | exact rfl | exact Nat.le_of_ble_eq_true rfl | exact fun hp => absurd hp fnt | exact fun hp => absurd hp tnf | refine imp_x ?_ | (intro (hp : (_ : Bool) = _)) | exact (false : Bool) | exact D.non | assumption))
      · exact hd
    · exact ⟨_, _, _, rfl, hkw⟩
/-- a drawn question -/
inductive Qst (m : Nat) : D → Prop where
  | mk {n : Str} {d : D} {b : Bool} (h : n ∈ (["a", "b", "c", "d", "e"] : List Str)) (hd : Knd m d) : Qst m (.tup [.str n, d, .bl b])
/-- the name of a question -/
def nameOf : D → D
  | .tup (n :: _) => n
  | _ => .non
def fiveS : List Str := ["a", "b", "c", "d", "e"]
/-- drawn questions -/
def Qsts (m : Nat) (d : D) : Prop := ∃ (n : Nat) (qs : List D), d = .tup qs ∧ 1 ≤ n ∧ n ≤ 5 ∧ qs.map nameOf = (fiveS.take n).map .str ∧ ∀ q ∈ qs, Qst m q
theorem law_questions_ok (k m s : Nat) (hm : 0 < m) (hm5 : m ≤ 5) (hs : 0 < s) (hs6 : s ≤ 6) : Dr F (k + 4) F__law_questions [.int m, .int s] (Qsts s) := by
  refine Dr.go rfl rfl fun a b => ?_
  obtain ⟨a2, b2, _, e2, r, rfl, hr⟩ := (roll_ok (F := F) k m (by omega) (by omega)).use (k' := k + 3) (by omega) a b []
  have hcast : ((1 : Int) + (r : Int)) = ((1 + r : Nat) : Int) := by omega
  have hsl : slW (.dat (.lst (fiveS.map .str))) none (some ((1 : Int) + (r : Int))) = some (.dat (.lst (((fiveS.take (1 + r)).map .str)))) := by
    rw [hcast, slTo, List.map_take]
  apply ss_asg
  · (repeat' (first | exact e2 | exact hsl | exact x_c | exact x_g | exact xs_nil | exact c_no | exact di_nil | exact o_no | exact x_v rfl | apply xs_cons | apply x_tup | apply x_lst | apply x_bin | apply x_neg | apply x_nt | apply x_and | apply x_or | apply x_cmp | apply x_cmp2 | apply x_ix | apply x_sl | apply x_rv | apply x_call | apply x_bi | apply x_lens | apply x_lrg | apply x_lrg0 | apply x_isi | apply o_so | apply c_so | apply i_r1 | apply i_r2 | apply i_sq | apply x_mtW | apply di_cons | apply x_dic | apply x_nl | apply x_lc | apply x_lcf | (intro a ha; refine ⟨_, rfl, ?_, ?_⟩) | (intro a ha; refine ⟨_, rfl, ?_⟩) | exact allB | exact anyB | exact cW_eq (okD_r (by decide)) | exact cW_ne (okD_r (by decide)) | exact cW_lt | exact cW_gt | exact cW_le | exact cW_ge | exact cW_inS | exact cW_is | exact cW_isn | exact cW_isN | exact cW_isnN | exact lenT | exact intI | exact intB | exact absI | exact listT | exact listL | exact tupT | exact tupL | exact minI | exact maxI | exact strS | exact boolB | exact listScr | exact lenL | exact ixT0 | exact ixT1 | exact ixT2 | exact ixT3 | exact ixL0 | exact rfl | exact Nat.le_of_ble_eq_true rfl | exact fun hp => absurd hp fnt | exact fun hp => absurd hp tnf | refine imp_x ?_ | (intro (hp : (_ : Bool) = _)) | exact (false : Bool) | exact D.non | assumption))
  · rfl
  have hlc := x_lcI (C := cF T F (k + 3)) (e := .tup (.cons (.v 4) (.cons (.call F__law_kind (.cons (.v 0) (.cons (.v 2) .nil))) (.cons (.cmp .Eq (.call F__law_roll (.cons (.v 0) (.cons (.c (.int 2)) .nil))) (.c (.int 0))) .nil)))) (p := .n 4) (o := .no) (own := [4])
    (ρ := [some (.ref 0), some (.dat (.int m)), some (.dat (.int s)), some (.dat (.lst ((fiveS.take (1 + r)).map .str))), none]) (st := [Cup a2 b2]) (st1 := [Cup a2 b2]) (it := .sq (.v 3)) (ws := ((fiveS.take (1 + r)).map .str).map .dat)
    (I := fun ws acc st => ∃ (a b : Int) (ns : List Str), st = [Cup a b] ∧ ws = (ns.map .str).map .dat ∧ acc.map nameOf ++ ns.map .str = (fiveS.take (1 + r)).map .str ∧ (∀ n ∈ ns, n ∈ fiveS) ∧ ∀ q ∈ acc, Qst s q)
    (i_sq (x := .dat (.lst ((fiveS.take (1 + r)).map .str))) (x_v rfl) rfl) (by simp; unfold bigLine; have : fiveS.length = 5 := rfl; omega) ⟨a2, b2, fiveS.take (1 + r), rfl, rfl, by simp, fun n hn => List.mem_of_mem_take hn, by simp⟩ ?_
  · obtain ⟨ds, st', e, a', b', ns, rfl, hns, hq, _, hq2⟩ := hlc
    have : ns = [] := by cases ns with
      | nil => rfl
      | cons _ _ => cases hns
    subst this
    apply ss_ret
    · (repeat' (first | exact e | exact x_c | exact x_g | exact xs_nil | exact c_no | exact di_nil | exact o_no | exact x_v rfl | apply xs_cons | apply x_tup | apply x_lst | apply x_bin | apply x_neg | apply x_nt | apply x_and | apply x_or | apply x_cmp | apply x_cmp2 | apply x_ix | apply x_sl | apply x_rv | apply x_call | apply x_bi | apply x_lens | apply x_lrg | apply x_lrg0 | apply x_isi | apply o_so | apply c_so | apply i_r1 | apply i_r2 | apply i_sq | apply x_mtW | apply di_cons | apply x_dic | apply x_nl | apply x_lc | apply x_lcf | (intro a ha; refine ⟨_, rfl, ?_, ?_⟩) | (intro a ha; refine ⟨_, rfl, ?_⟩) | exact allB | exact anyB | exact cW_eq (okD_r (by decide)) | exact cW_ne (okD_r (by decide)) | exact cW_lt | exact cW_gt | exact cW_le | exact cW_ge | exact cW_inS | exact cW_is | exact cW_isn | exact cW_isN | exact cW_isnN | exact lenT | exact intI | exact intB | exact absI | exact listT | exact listL | exact tupT | exact tupL | exact minI | exact maxI | exact strS | exact boolB | exact listScr | exact lenL | exact ixT0 | exact ixT1 | exact ixT2 | exact ixT3 | exact ixL0 | exact rfl | exact Nat.le_of_ble_eq_true rfl | exact fun hp => absurd hp fnt | exact fun hp => absurd hp tnf | refine imp_x ?_ | (intro (hp : (_ : Bool) = _)) | exact (false : Bool) | exact D.non | assumption))
    · refine ⟨_, _, _, rfl, 1 + r, ds, rfl, by omega, by omega, by simpa using hq, hq2⟩
  · rintro w ws acc st ⟨a, b, ns, rfl, hw, hq, hn, hq2⟩
    cases ns with
    | nil => cases hw
    | cons n ns =>
      cases hw
      obtain ⟨a3, b3, d3, e3, h3⟩ := (law_kind_ok (F := F) k s hs hs6).use (Nat.le_refl _) a b []
      obtain ⟨a4, b4, _, e4, r4, rfl, hr4⟩ := (roll_ok (F := F) k 2 (by omega) (by omega)).use (k' := k + 3) (by omega) a3 b3 []
      refine ⟨some (.tup [.str n, d3, .bl (eqD (.int r4) (.int 0))]), [Cup a4 b4], ?_, a4, b4, ns, rfl, rfl, ?_, fun n hn' => hn n (List.mem_cons_of_mem _ hn'), ?_⟩
      · refine lcB_no rfl ?_
        (repeat' (first | exact e3 | exact e4 | exact x_c | exact x_g | exact xs_nil | exact c_no | exact di_nil | exact o_no | exact x_v rfl | apply xs_cons | apply x_tup | apply x_lst | apply x_bin | apply x_neg | apply x_nt | apply x_and | apply x_or | apply x_cmp | apply x_cmp2 | apply x_ix | apply x_sl | apply x_rv | apply x_call | apply x_bi | apply x_lens | apply x_lrg | apply x_lrg0 | apply x_isi | apply o_so | apply c_so | apply i_r1 | apply i_r2 | apply i_sq | apply x_mtW | apply di_cons | apply x_dic | apply x_nl | apply x_lc | apply x_lcf | (intro a ha; refine ⟨_, rfl, ?_, ?_⟩) | (intro a ha; refine ⟨_, rfl, ?_⟩) | exact allB | exact anyB | exact cW_eq (okD_r (by decide)) | exact cW_ne (okD_r (by decide)) | exact cW_lt | exact cW_gt | exact cW_le | exact cW_ge | exact cW_inS | exact cW_is | exact cW_isn | exact cW_isN | exact cW_isnN | exact lenT | exact intI | exact intB | exact absI | exact listT | exact listL | exact tupT | exact tupL | exact minI | exact maxI | exact strS | exact boolB | exact listScr | exact lenL | exact ixT0 | exact ixT1 | exact ixT2 | exact ixT3 | exact ixL0 | exact rfl | exact Nat.le_of_ble_eq_true rfl | exact fun hp => absurd hp fnt | exact fun hp => absurd hp tnf | refine imp_x ?_ | (intro (hp : (_ : Bool) = _)) | exact (false : Bool) | exact D.non | assumption))
      · rw [← hq]; simp [nameOf]
      · intro q hq'
        simp at hq'
        rcases hq' with hq' | rfl
        · exact hq2 q hq'
        · exact .mk (hn n List.mem_cons_self) h3
end

/-! k02: kinds told right, near ones wrong -/
section
variable {F : Nat}
theorem eqD_strR (y : D) (s : Str) : eqD y (.str s) = true ↔ y = .str s := by
  cases y <;> simp [eqD]
theorem anyEq_str (s : Str) : ∀ acc : List D, anyEq (.str s) acc = true ↔ D.str s ∈ acc
  | [] => by simp [anyEq]
  | y :: ys => by
    simp only [anyEq, Bool.or_eq_true, eqD_strR, anyEq_str s ys, List.mem_cons]
    constructor
    · rintro (h | h)
      · exact .inl h.symm
      · exact .inr h
    · rintro (h | h)
      · exact .inl h.symm
      · exact .inr h
theorem nub_len : ∀ (xs : List Str) (acc : List D), (((xs.map D.str).foldl (fun acc x => if anyEq x acc then acc else acc ++ [x]) acc).length ≤ acc.length + xs.length) ∧ ((((xs.map D.str).foldl (fun acc x => if anyEq x acc then acc else acc ++ [x]) acc).length = acc.length + xs.length) ↔ (xs.Nodup ∧ ∀ x ∈ xs, D.str x ∉ acc))
  | [], acc => by simp
  | x :: xs, acc => by
    simp only [List.map_cons, List.foldl_cons]
    by_cases h : anyEq (.str x) acc = true
    · rw [if_pos h]
      have h' := (anyEq_str x acc).mp h
      have ih := nub_len xs acc
      refine ⟨by simp only [List.length_cons]; omega, ⟨fun e => ?_, fun e => ?_⟩⟩
      · simp only [List.length_cons] at e
        omega
      · exact absurd h' (e.2 x List.mem_cons_self)
    · rw [if_neg h]
      have h' : D.str x ∉ acc := fun z => h ((anyEq_str x acc).mpr z)
      have ih := nub_len xs (acc ++ [.str x])
      have e1 : (acc ++ [D.str x]).length + xs.length = acc.length + (x :: xs).length := by simp; omega
      rw [e1] at ih
      refine ⟨ih.1, ih.2.trans ?_⟩
      simp only [List.nodup_cons, List.mem_append, List.mem_singleton, D.str.injEq, not_or, List.mem_cons]
      constructor
      · rintro ⟨h1, h2⟩
        refine ⟨⟨fun z => (h2 x z).2.1 rfl, h1⟩, fun y hy => ?_⟩
        rcases hy with rfl | hy
        · exact h'
        · exact (h2 y hy).1
      · rintro ⟨⟨h1, h2⟩, h3⟩
        exact ⟨h2, fun y hy => ⟨h3 y (.inr hy), fun z => h1 (by rw [← z]; exact hy), by simp⟩⟩
theorem nubD_len (xs : List Str) : (nubD (xs.map .str)).length = xs.length ↔ xs.Nodup := by
  have := (nub_len xs []).2
  simpa [nubD] using this
theorem nodup_unmap {xs : List Str} (h : (xs.map D.str).Nodup) : xs.Nodup := by
  rw [List.nodup_iff_pairwise_ne, List.pairwise_map] at h
  rw [List.nodup_iff_pairwise_ne]
  exact h.imp fun h e => h (by rw [e])
theorem nubD_strs {ws : List D} (h : ws.all gName = true) : ∃ xs : List Str, ws = xs.map .str := by
  induction ws with
  | nil => exact ⟨[], rfl⟩
  | cons w ws ih =>
    simp only [List.all_cons, Bool.and_eq_true] at h
    obtain ⟨xs, rfl⟩ := ih h.2
    cases w with
    | str s => exact ⟨s :: xs, rfl⟩
    | _ => cases h.1
theorem gWords_of {l m : Int} {ws : List D} (h1 : l ≤ ws.length) (h2 : (ws.length : Int) ≤ m) (h3 : ws.all gName = true) (h4 : ws.Nodup) : gWords l m (.tup ws) = true := by
  obtain ⟨xs, rfl⟩ := nubD_strs h3
  have h5 : xs.Nodup := nodup_unmap h4
  simp only [gWords, Bool.and_eq_true, decide_eq_true_eq, beq_iff_eq]
  refine ⟨⟨⟨h1, h2⟩, h3⟩, ?_⟩
  rw [(nubD_len xs).mpr h5, List.length_map]
theorem gWords_dup {l m : Int} {ws : List D} (h : ¬ ws.Nodup) : gWords l m (.tup ws) = false := by
  cases q : gWords l m (.tup ws) with
  | false => rfl
  | true =>
    simp only [gWords, Bool.and_eq_true, decide_eq_true_eq, beq_iff_eq] at q
    obtain ⟨⟨_, h3⟩, h4⟩ := q
    obtain ⟨xs, rfl⟩ := nubD_strs h3
    rw [List.length_map] at h4
    exact absurd (map_nodup ((nubD_len xs).mp h4)) h
theorem gWords_bad {l m : Int} {ws : List D} {w : D} (hw : w ∈ ws) (h : gName w = false) : gWords l m (.tup ws) = false := by
  have : ws.all gName = false := by
    rw [List.all_eq_false]
    exact ⟨w, hw, by rw [h]; simp⟩
  simp [gWords, this]
theorem six_names : six.all gName = true := by kernel_rfl
theorem Wds.names {m : Nat} {ws : List D} (h : Wds m ws) : ws.all gName = true := by
  rw [List.all_eq_true]
  exact fun w hw => List.all_eq_true.mp six_names w (h.2.2.2 w hw)
theorem gWords_wds {m : Nat} {l u : Int} {ws : List D} (h : Wds m ws) (hl : l ≤ 1) (hu : (m : Int) ≤ u) : gWords l u (.tup ws) = true := by
  have := h.1
  have := h.2.1
  exact gWords_of (by omega) (by omega) h.names h.2.2.1
theorem sms_of {ws : List D} (h : ws.all gName = true) (h2 : ∀ w ∈ ws, sm w = true) : sms ws = true := by
  clear h
  induction ws with
  | nil => rfl
  | cons w ws ih => simp only [sms, Bool.and_eq_true]; exact ⟨h2 w (by simp), ih fun x hx => h2 x (by simp [hx])⟩
theorem six_sm : six.all sm = true := by kernel_rfl
theorem Wds.sm {m : Nat} {ws : List D} (h : Wds m ws) : sms ws = true := sms_of h.names fun w hw => List.all_eq_true.mp six_sm w (h.2.2.2 w hw)
theorem gKind_one (ws : D) : gKind (.tup [.str "one", ws]) = gWords 1 12 ws := by
  unfold gKind
  simp only
  rw [if_pos (by decide +kernel)]
theorem gKind_some (xs : List D) (i : Int) (b : D) : gKind (.tup [.str "some", .tup xs, .int i, b]) = (gWords 1 8 (.tup xs) && gWhole 0 xs.length (.int i) && gWhole i xs.length b) := by
  unfold gKind
  simp only
  rw [if_neg (by decide +kernel), if_pos (by decide +kernel)]
theorem gKind_num (i : Int) (b : D) : gKind (.tup [.str "number", .int i, b]) = (gWhole (-9999) 9999 (.int i) && gWhole i 9999 b) := by
  unfold gKind
  simp only
  rw [if_neg (by decide +kernel), if_neg (by decide +kernel), if_pos (by decide +kernel)]
theorem sm_tup (xs : List D) : sm (.tup xs) = sms xs := rfl
theorem sm_str (s : Str) : sm (.str s) = smStr s := rfl
theorem Knd.good {m : Nat} {d : D} (hm : m ≤ 8) (h : Knd m d) : gKind d = true ∧ Ev.sm d = true := by
  cases h with
  | yes => exact ⟨by kernel_rfl, by kernel_rfl⟩
  | one h => exact ⟨by rw [gKind_one]; exact gWords_wds h (by omega) (by omega), by simp only [Ev.sm, sms, h.sm]; decide +kernel⟩
  | some h h1 h2 =>
    have h8 := gWords_wds h (l := 1) (u := 8) (by omega) (by omega)
    refine ⟨?_, by simp only [Ev.sm, sms, h.sm]; decide +kernel⟩
    rw [gKind_some, h8]
    simp only [gWhole, Bool.true_and, Bool.and_eq_true, decide_eq_true_eq]
    omega
  | num h1 h2 h3 =>
    refine ⟨?_, by simp only [Ev.sm, sms]; decide +kernel⟩
    rw [gKind_num]
    simp only [gWhole, Bool.and_eq_true, decide_eq_true_eq]
    omega
/-- near a kind, and none -/
structure Odd (d : D) : Prop where
  sm : sm d = true
  no : gKind d = false
/-- the last loop: every odd one is told, and the right one behind each -/
theorem kinds_loop (k : Nat) (kd : D) (odds : List D) (ρ : Env) (st : Store) (h1 : gKind kd = true) (h2 : sm kd = true) (h3 : ∀ d ∈ odds, Odd d) (hρ : ρ.length = 11) (hk : ρ[1]?.join = some (.dat kd)) (w : W) (ho : ρ[2]?.join = some w) (hw : vw w st = .dat (.lst odds)) (hs : stays (refOf w) st st = true) (P : Res Fl → Prop) (hP : P (.ok (.ret (.dat (.bl true))) st)) :
    Go P (eSs (cF T F (k + 4)) F (.cons (.for (.n 10) (.sq (.v 2)) (.cons (.ife (.or (.cmp .IsNot (.call F_is_kind (.cons (.v 10) .nil)) (.c (.bl false))) (.cmp .IsNot (.call F_is_kind (.cons (.v 1) .nil)) (.c (.bl true)))) (.cons (.ret (.c (.bl false))) .nil) .nil) .nil)) (.cons (.ret (.c (.bl true))) .nil)) ρ st) := by
  refine ss_forI (as := odds) (k := .dat) (I := fun as ρ' st' => st' = st ∧ (∀ d ∈ as, Odd d) ∧ ∃ o, ρ' = ρ.set 10 o) (i_sq (x_v ho) (by rw [hw]; rfl)) ⟨rfl, h3, ρ[10]'(by omega), by simp⟩ ?_ ?_
  · rintro d as ρ' st' ⟨rfl, hd, o, rfl⟩
    refine ⟨_, rfl, ?_⟩
    rw [List.set_set]
    have h10 : (ρ.set 10 (some (.dat d)))[10]?.join = some (.dat d) := by
      rw [List.getElem?_set_self (by omega)]; rfl
    have h1' : (ρ.set 10 (some (.dat d)))[1]?.join = some (.dat kd) := by
      rw [List.getElem?_set_ne (by omega)]; exact hk
    obtain ⟨d1, d2⟩ := hd d List.mem_cons_self
    refine ss_ifF (x_orF (x_cmp (x_call (xs_cons (x_v h10) xs_nil) (is_kind_ok k d _ d1)) x_c cW_isn) (by rw [d2]; rfl) (x_cmp (x_call (xs_cons (x_v h1') xs_nil) (is_kind_ok k kd _ h2)) x_c cW_isn)) (by rw [h1]; rfl) (ss_nil (.nx ⟨rfl, fun e he => hd e (List.mem_cons_of_mem _ he), _, rfl⟩ hs))
  · rintro ρ' st' ⟨rfl, _, o, rfl⟩
    exact ss_ret x_c hP
end

section
variable {F : Nat}
def GoD (k f : Nat) : Prop := Dr F k f [] (· = .bl true)
theorem upYes : Txt.upper "yes" = "YES" := by decide +kernel
theorem upOne : Txt.upper "one" = "ONE" := by decide +kernel
theorem upSome : Txt.upper "some" = "SOME" := by decide +kernel
theorem upNum : Txt.upper "number" = "NUMBER" := by decide +kernel
theorem odd_k {d : D} (h1 : sm d = true) (h2 : gKind d = false) : Odd d := ⟨h1, h2⟩
theorem gKind_w {t : Str} {r : List D} (h1 : (t == "one") = false) (h2 : (t == "some") = false) (h3 : (t == "number") = false) (h4 : (t == "yes") = false) : gKind (.tup (.str t :: r)) = false := by
  unfold gKind
  simp only
  rw [h1, h2, h3, h4]
  rfl
theorem gK_num (r : List D) : gKind (.tup (.str "number" :: r)) = (match r with
      | [a, b] => (match a with
        | .int i => gWhole (-9999) 9999 a && gWhole i 9999 b
        | _ => false)
      | _ => false) := by
  unfold gKind
  simp only
  rw [if_neg (by decide +kernel), if_neg (by decide +kernel), if_pos (by decide +kernel)]
  all_goals rfl
theorem gK_one (r : List D) : gKind (.tup (.str "one" :: r)) = (match r with
      | [ws] => gWords 1 12 ws
      | _ => false) := by
  unfold gKind
  simp only
  rw [if_pos (by decide +kernel)]
  all_goals rfl
theorem gK_some (r : List D) : gKind (.tup (.str "some" :: r)) = (match r with
      | [ws, a, b] => (match ws, a with
        | .tup xs, .int i => gWords 1 8 ws && gWhole 0 xs.length a && gWhole i xs.length b
        | _, _ => false)
      | _ => false) := by
  unfold gKind
  simp only
  rw [if_neg (by decide +kernel), if_pos (by decide +kernel)]
  all_goals rfl
theorem sm1 : smStr "number" = true := by decide +kernel
theorem sm2 : smStr "NUMBER" = true := by decide +kernel
theorem sm3 : smStr "one" = true := by decide +kernel
theorem sm4 : smStr "ONE" = true := by decide +kernel
theorem sm5 : smStr "some" = true := by decide +kernel
theorem sm6 : smStr "SOME" = true := by decide +kernel
theorem sm7 : smStr "0" = true := by decide +kernel
theorem sm8 : smStr "ant" = true := by decide +kernel
theorem sm9 : smStr "Ant" = true := by decide +kernel
theorem smA : smStr "" = true := by decide +kernel
theorem sms_cons (x : D) (xs : List D) : sms (x :: xs) = (sm x && sms xs) := rfl
theorem sms_app : ∀ xs ys : List D, sms (xs ++ ys) = (sms xs && sms ys)
  | [], _ => by simp [sms]
  | x :: xs, ys => by simp [sms, sms_app xs ys, Bool.and_assoc]
def manyL (lo n : Nat) : List D := (List.range n).map fun (i : Nat) => D.str ("w" ++ Str.ofString (toString ((lo : Int) + (i : Int))))
theorem many_ok {C : Nat → List W → M W} {ρ : Env} {st : Store} (h : ρ.length = 11) : eX C (.lc (.bin .Add (.c (.str "w")) (.bi .str (.cons (.v 6) .nil))) (.n 6) (.r2 (.c (.int 10)) (.c (.int 23))) .no [6]) ρ st = .ok (.dat (.lst (manyL 10 13))) st := by
  have hI : ∀ i ∈ List.range 13, ((10 : Int) + (i : Int)).natAbs < 10 ^ 100 := by decide +kernel
  have hA : ∀ i ∈ List.range 13, ("w" : Str).length + (Str.ofString (toString ((10 : Int) + (i : Int)))).length ≤ bigLine := by decide +kernel
  refine x_lc (C := C) (ρ := ρ) (st := st) (st1 := st) (p := .n 6) (own := [6]) (as := List.range 13) (k := fun (i : Nat) => W.dat (.int (10 + (i : Int)))) (i_r2 x_c x_c rfl rfl) (by decide) rfl fun i hi => ⟨(wipeE ρ [6]).set 6 (some (W.dat (.int (10 + (i : Int))))), rfl, ?_⟩
  refine x_bin x_c (x_bi (xs_cons (x_v (w := .dat (.int (10 + (i : Int)))) ?_) xs_nil) (strI (hI i hi))) rfl rfl (addS (hA i hi))
  rw [List.getElem?_set_self (by simp [wipeE, h])]; rfl
theorem many9_ok {C : Nat → List W → M W} {ρ : Env} {st : Store} (h : ρ.length = 11) : eX C (.lc (.bin .Add (.c (.str "w")) (.bi .str (.cons (.v 6) .nil))) (.n 6) (.r1 (.c (.int 9))) .no [6]) ρ st = .ok (.dat (.lst (manyL 0 9))) st := by
  have hI : ∀ i ∈ List.range 9, ((0 : Int) + (i : Int)).natAbs < 10 ^ 100 := by decide +kernel
  have hA : ∀ i ∈ List.range 9, ("w" : Str).length + (Str.ofString (toString ((0 : Int) + (i : Int)))).length ≤ bigLine := by decide +kernel
  refine x_lc (C := C) (ρ := ρ) (st := st) (st1 := st) (p := .n 6) (own := [6]) (as := List.range 9) (k := fun (i : Nat) => W.dat (.int (0 + (i : Int)))) (i_r1 x_c rfl) (by decide) rfl fun i hi => ⟨(wipeE ρ [6]).set 6 (some (W.dat (.int (0 + (i : Int))))), rfl, ?_⟩
  refine x_bin x_c (x_bi (xs_cons (x_v (w := .dat (.int (0 + (i : Int)))) ?_) xs_nil) (strI (hI i hi))) rfl rfl (addS (hA i hi))
  rw [List.getElem?_set_self (by simp [wipeE, h])]; rfl
def bents (ws : List D) : List D := [.lst ws, .tup [], .tup (ws ++ ws.take 1), .tup (ws ++ [.str "Ant"]), .tup (ws ++ [.int 5]), .tup (ws ++ [.str ""]), .str "ant", .tup (manyL 10 13)]
def bentP (t : Str) (rest : List D) (d : D) : D := .tup ([.str t, d] ++ rest)
theorem slTup {xs : List D} {n : Nat} : slW (.dat (.tup xs)) none (some (n : Int)) = some (.dat (.tup (xs.take n))) := by
  rw [← cut_to]; rfl
theorem bents_loop (C : Nat → List W → M W) (t : Str) (ws rest base : List D) (a b : Int) (o6 o7 o8 o9 o10 : Option W) (hl : ws.length ≤ 6) (hr : rest.length ≤ 2) (hb : base.length ≤ 100) (P : Res Fl → Prop) (r : Ss)
    (hP : ∀ o, Go P (eSs C F r [some (.ref 0), some (.dat (.tup (.str t :: .tup ws :: rest))), some (.ref 1), some (.dat (.tup ws)), some (.dat (.tup rest)), some (.dat (.tup (manyL 10 13))), o6, o, o8, o9, o10] [Cup a b, .lst (base ++ (bents ws).map (bentP t rest))])) :
    Go P (eSs C F (.cons (.for (.n 7) (.sq (.tup (.cons (.bi .list (.cons (.v 3) .nil)) (.cons (.tup .nil) (.cons (.bin .Add (.v 3) (.sl (.v 3) .no (.so (.c (.int 1))))) (.cons (.bin .Add (.v 3) (.tup (.cons (.c (.str "Ant")) .nil))) (.cons (.bin .Add (.v 3) (.tup (.cons (.c (.int 5)) .nil))) (.cons (.bin .Add (.v 3) (.tup (.cons (.c (.str "")) .nil))) (.cons (.c (.str "ant")) (.cons (.v 5) .nil)))))))))) (.cons (.ex (.mt .append (.v 2) (.cons (.bin .Add (.tup (.cons (.ix (.v 1) (.c (.int 0))) (.cons (.v 7) .nil))) (.v 4)) .nil))) .nil)) r)
      [some (.ref 0), some (.dat (.tup (.str t :: .tup ws :: rest))), some (.ref 1), some (.dat (.tup ws)), some (.dat (.tup rest)), some (.dat (.tup (manyL 10 13))), o6, o7, o8, o9, o10] [Cup a b, .lst base]) := by
  have s1 : slW (.dat (.tup ws)) none (some 1) = some (.dat (.tup (ws.take 1))) := slTup (n := 1)
  have hb' : bigLine = 16777216 := rfl
  refine ss_forI (st1 := [Cup a b, .lst base]) (as := bents ws) (k := .dat) (n := none) (I := fun as ρ' st' => ∃ o done, ρ' = [some (.ref 0), some (.dat (.tup (.str t :: .tup ws :: rest))), some (.ref 1), some (.dat (.tup ws)), some (.dat (.tup rest)), some (.dat (.tup (manyL 10 13))), o6, o, o8, o9, o10] ∧ st' = [Cup a b, .lst (base ++ done.map (bentP t rest))] ∧ done ++ as = bents ws) (i_sq (x := .dat (.tup (bents ws))) ?_ rfl) ⟨o7, [], rfl, by simp, rfl⟩ ?_ ?_
  · have l1 : (ws.take 1).length ≤ 1 := by simp; omega
    refine x_tup (xs_cons (x_bi (xs_cons (x_v rfl) xs_nil) listT) (xs_cons (x_tup xs_nil rfl) (xs_cons (x_bin (x_v rfl) (x_sl (x := .dat (.tup ws)) (x_v rfl) o_no (o_so x_c) s1) rfl rfl (addT (by omega))) (xs_cons (x_bin (x_v rfl) (x_tup (xs_cons x_c xs_nil) rfl) rfl rfl (addT (by simp; omega))) (xs_cons (x_bin (x_v rfl) (x_tup (xs_cons x_c xs_nil) rfl) rfl rfl (addT (by simp; omega))) (xs_cons (x_bin (x_v rfl) (x_tup (xs_cons x_c xs_nil) rfl) rfl rfl (addT (by simp; omega))) (xs_cons x_c (xs_cons (x_v rfl) xs_nil)))))))) rfl
  · rintro d as ρ' st' ⟨o, done, rfl, rfl, hd⟩
    refine ⟨_, rfl, ?_⟩
    have hdl : done.length ≤ 8 := by
      have := congrArg List.length hd
      simp [bents] at this; omega
    refine ss_ex (x_mtM rfl (x_v rfl) rfl rfl (xs_cons (x_bin (x_tup (xs_cons (x_ix (x_v rfl) x_c ixT0) (xs_cons (x_v rfl) xs_nil)) rfl) (x_v rfl) rfl rfl (addT (by simp; omega))) xs_nil) rfl (appD (by simp; omega))) (ss_nil (.nx ⟨_, done ++ [d], rfl, ?_, by rw [← hd]; simp⟩ rfl))
    simp [bentP, List.map_append]
  · rintro ρ' st' ⟨o, done, rfl, rfl, hd⟩
    rw [List.append_nil] at hd
    subst hd
    exact hP o
theorem bents_sm {ws : List D} (h : sms ws = true) : ∀ e ∈ bents ws, sm e = true := by
  have ht : sms (ws.take 1) = true := by
    cases ws with
    | nil => rfl
    | cons w ws => simp [sms] at h ⊢; exact h.1
  unfold bents
  simp only [List.forall_mem_cons]
  and_intros
  all_goals first
    | rfl
    | (simp [sm, sms_app, sms, h, ht, sm9, smA, sm8]; done)
    | (intro d hd; cases hd)
    | (show sms (manyL 10 13) = true; kernel_rfl)
theorem bents_no {ws : List D} (h : ws.Nodup) (h0 : ws ≠ []) {u : Int} (hu : u ≤ 12) : ∀ e ∈ bents ws, gWords 1 u e = false := by
  unfold bents
  simp only [List.forall_mem_cons]
  have hk : (manyL 10 13).length = 13 := by simp [manyL]
  and_intros
  · rfl
  · simp [gWords]
  · refine gWords_dup ?_
    cases ws with
    | nil => exact absurd rfl h0
    | cons w ws =>
      intro q
      rw [List.nodup_append] at q
      exact q.2.2 w (by simp) w (by simp) rfl
  · exact gWords_bad (w := .str "Ant") (by simp) (by kernel_rfl)
  · exact gWords_bad (w := .int 5) (by simp) rfl
  · exact gWords_bad (w := .str "") (by simp) (by kernel_rfl)
  · rfl
  · simp [gWords, hk]
    intro h1 h2; omega
  · intro d hd; cases hd
theorem kinds_right_ok (k : Nat) : Dr F (k + 5) F__law_kinds_right [] (· = .bl true) := by
  refine Dr.go rfl rfl fun a b => ?_
  obtain ⟨a1, b1, d, e1, h1⟩ := (law_kind_ok (F := F) k 6 (by omega) (by omega)).use (k' := k + 4) (by omega) a b []
  obtain ⟨g1, g2⟩ := h1.good (by omega)
  apply ss_asg
  · (repeat' (first | exact e1 | exact x_c | exact x_g | exact xs_nil | exact c_no | exact di_nil | exact o_no | exact x_v rfl | apply xs_cons | apply x_tup | apply x_lst | apply x_bin | apply x_neg | apply x_nt | apply x_and | apply x_or | apply x_cmp | apply x_cmp2 | apply x_ix | apply x_sl | apply x_rv | apply x_call | apply x_bi | apply x_lens | apply x_lrg | apply x_lrg0 | apply x_isi | apply o_so | apply c_so | apply i_r1 | apply i_r2 | apply i_sq | apply x_mtW | apply di_cons | apply x_dic | apply x_nl | apply x_lc | apply x_lcf | (intro a ha; refine ⟨_, rfl, ?_, ?_⟩) | (intro a ha; refine ⟨_, rfl, ?_⟩) | exact allB | exact anyB | exact cW_eq (okD_r (by decide)) | exact cW_ne (okD_r (by decide)) | exact cW_lt | exact cW_gt | exact cW_le | exact cW_ge | exact cW_inS | exact cW_is | exact cW_isn | exact cW_isN | exact cW_isnN | exact lenT | exact intI | exact intB | exact absI | exact listT | exact listL | exact tupT | exact tupL | exact minI | exact maxI | exact strS | exact boolB | exact listScr | exact lenL | exact ixT0 | exact ixT1 | exact ixT2 | exact ixT3 | exact ixL0 | exact rfl | exact Nat.le_of_ble_eq_true rfl | exact fun hp => absurd hp fnt | exact fun hp => absurd hp tnf | refine imp_x ?_ | (intro (hp : (_ : Bool) = _)) | exact (false : Bool) | exact D.non | assumption))
  · rfl
  cases h1 with
  | yes =>
    apply ss_asg
    · (repeat' (first | exact upS (by decide +kernel) | exact x_c | exact x_g | exact xs_nil | exact c_no | exact di_nil | exact o_no | exact x_v rfl | apply xs_cons | apply x_tup | apply x_lst | apply x_bin | apply x_neg | apply x_nt | apply x_and | apply x_or | apply x_cmp | apply x_cmp2 | apply x_ix | apply x_sl | apply x_rv | apply x_call | apply x_bi | apply x_lens | apply x_lrg | apply x_lrg0 | apply x_isi | apply o_so | apply c_so | apply i_r1 | apply i_r2 | apply i_sq | apply x_mtW | apply di_cons | apply x_dic | apply x_nl | apply x_lc | apply x_lcf | (intro a ha; refine ⟨_, rfl, ?_, ?_⟩) | (intro a ha; refine ⟨_, rfl, ?_⟩) | exact allB | exact anyB | exact cW_eq (okD_r (by decide)) | exact cW_ne (okD_r (by decide)) | exact cW_lt | exact cW_gt | exact cW_le | exact cW_ge | exact cW_inS | exact cW_is | exact cW_isn | exact cW_isN | exact cW_isnN | exact lenT | exact intI | exact intB | exact absI | exact listT | exact listL | exact tupT | exact tupL | exact minI | exact maxI | exact strS | exact boolB | exact listScr | exact lenL | exact ixT0 | exact ixT1 | exact ixT2 | exact ixT3 | exact ixL0 | exact rfl | exact Nat.le_of_ble_eq_true rfl | exact fun hp => absurd hp fnt | exact fun hp => absurd hp tnf | refine imp_x ?_ | (intro (hp : (_ : Bool) = _)) | exact (false : Bool) | exact D.non | assumption))
    · rfl
    refine ss_ifF (x_cmp (x_ix (x_v rfl) x_c rfl) x_c rfl) (by decide +kernel) ?_
    refine ss_ifF (x_cmp (x_ix (x_v rfl) x_c rfl) (x_tup (xs_cons x_c (xs_cons x_c xs_nil)) rfl) rfl) (by decide +kernel) ?_
    refine ss_ifF (x_cmp (x_ix (x_v rfl) x_c rfl) x_c rfl) (by decide +kernel) ?_
    refine kinds_loop k _ _ _ _ g1 g2 ?_ rfl rfl (.ref 1) rfl rfl (stays_refl rfl) _ ⟨_, _, _, rfl, rfl⟩
    rw [upYes]
    have : ∀ l : List D, l.all (fun d => sm d && !gKind d) = true → ∀ d ∈ l, Odd d := fun l hl d hd => by
      have := List.all_eq_true.mp hl d hd
      simp only [Bool.and_eq_true, Bool.not_eq_true'] at this
      exact ⟨this.1, this.2⟩
    exact this _ (by kernel_rfl)
  | num h1 h2 h3 =>
    rename_i l u
    apply ss_asg
    · (repeat' (first | exact upS (by decide +kernel) | exact x_c | exact x_g | exact xs_nil | exact c_no | exact di_nil | exact o_no | exact x_v rfl | apply xs_cons | apply x_tup | apply x_lst | apply x_bin | apply x_neg | apply x_nt | apply x_and | apply x_or | apply x_cmp | apply x_cmp2 | apply x_ix | apply x_sl | apply x_rv | apply x_call | apply x_bi | apply x_lens | apply x_lrg | apply x_lrg0 | apply x_isi | apply o_so | apply c_so | apply i_r1 | apply i_r2 | apply i_sq | apply x_mtW | apply di_cons | apply x_dic | apply x_nl | apply x_lc | apply x_lcf | (intro a ha; refine ⟨_, rfl, ?_, ?_⟩) | (intro a ha; refine ⟨_, rfl, ?_⟩) | exact allB | exact anyB | exact cW_eq (okD_r (by decide)) | exact cW_ne (okD_r (by decide)) | exact cW_lt | exact cW_gt | exact cW_le | exact cW_ge | exact cW_inS | exact cW_is | exact cW_isn | exact cW_isN | exact cW_isnN | exact lenT | exact intI | exact intB | exact absI | exact listT | exact listL | exact tupT | exact tupL | exact minI | exact maxI | exact strS | exact boolB | exact listScr | exact lenL | exact ixT0 | exact ixT1 | exact ixT2 | exact ixT3 | exact ixL0 | exact rfl | exact Nat.le_of_ble_eq_true rfl | exact fun hp => absurd hp fnt | exact fun hp => absurd hp tnf | refine imp_x ?_ | (intro (hp : (_ : Bool) = _)) | exact (false : Bool) | exact D.non | assumption))
    · rfl
    refine ss_ifT (x_cmp (x_ix (x_v rfl) x_c rfl) x_c rfl) (by decide +kernel) ?_
    apply ss_asg
    · (repeat' (first | exact x_c | exact x_g | exact xs_nil | exact c_no | exact di_nil | exact o_no | exact x_v rfl | apply xs_cons | apply x_tup | apply x_lst | apply x_bin | apply x_neg | apply x_nt | apply x_and | apply x_or | apply x_cmp | apply x_cmp2 | apply x_ix | apply x_sl | apply x_rv | apply x_call | apply x_bi | apply x_lens | apply x_lrg | apply x_lrg0 | apply x_isi | apply o_so | apply c_so | apply i_r1 | apply i_r2 | apply i_sq | apply x_mtW | apply di_cons | apply x_dic | apply x_nl | apply x_lc | apply x_lcf | (intro a ha; refine ⟨_, rfl, ?_, ?_⟩) | (intro a ha; refine ⟨_, rfl, ?_⟩) | exact allB | exact anyB | exact cW_eq (okD_r (by decide)) | exact cW_ne (okD_r (by decide)) | exact cW_lt | exact cW_gt | exact cW_le | exact cW_ge | exact cW_inS | exact cW_is | exact cW_isn | exact cW_isN | exact cW_isnN | exact lenT | exact intI | exact intB | exact absI | exact listT | exact listL | exact tupT | exact tupL | exact minI | exact maxI | exact strS | exact boolB | exact listScr | exact lenL | exact ixT0 | exact ixT1 | exact ixT2 | exact ixT3 | exact ixL0 | exact rfl | exact Nat.le_of_ble_eq_true rfl | exact fun hp => absurd hp fnt | exact fun hp => absurd hp tnf | refine imp_x ?_ | (intro (hp : (_ : Bool) = _)) | exact (false : Bool) | exact D.non | assumption))
    · rfl
    apply ss_asg
    · (repeat' (first | exact x_c | exact x_g | exact xs_nil | exact c_no | exact di_nil | exact o_no | exact x_v rfl | apply xs_cons | apply x_tup | apply x_lst | apply x_bin | apply x_neg | apply x_nt | apply x_and | apply x_or | apply x_cmp | apply x_cmp2 | apply x_ix | apply x_sl | apply x_rv | apply x_call | apply x_bi | apply x_lens | apply x_lrg | apply x_lrg0 | apply x_isi | apply o_so | apply c_so | apply i_r1 | apply i_r2 | apply i_sq | apply x_mtW | apply di_cons | apply x_dic | apply x_nl | apply x_lc | apply x_lcf | (intro a ha; refine ⟨_, rfl, ?_, ?_⟩) | (intro a ha; refine ⟨_, rfl, ?_⟩) | exact allB | exact anyB | exact cW_eq (okD_r (by decide)) | exact cW_ne (okD_r (by decide)) | exact cW_lt | exact cW_gt | exact cW_le | exact cW_ge | exact cW_inS | exact cW_is | exact cW_isn | exact cW_isN | exact cW_isnN | exact lenT | exact intI | exact intB | exact absI | exact listT | exact listL | exact tupT | exact tupL | exact minI | exact maxI | exact strS | exact boolB | exact listScr | exact lenL | exact ixT0 | exact ixT1 | exact ixT2 | exact ixT3 | exact ixL0 | exact rfl | exact Nat.le_of_ble_eq_true rfl | exact fun hp => absurd hp fnt | exact fun hp => absurd hp tnf | refine imp_x ?_ | (intro (hp : (_ : Bool) = _)) | exact (false : Bool) | exact D.non | assumption))
    · rfl
    refine ss_ifF (x_cmp (x_ix (x_v rfl) x_c rfl) (x_tup (xs_cons x_c (xs_cons x_c xs_nil)) rfl) rfl) (by decide +kernel) ?_
    refine ss_ifF (x_cmp (x_ix (x_v rfl) x_c rfl) x_c rfl) (by decide +kernel) ?_
    refine kinds_loop k _ [.lst [.str "number", .int l, .int u], .tup [.str "number", .int l], .tup [.str "number", .int l, .int u, .int 1], .tup [.str (Txt.upper "number"), .int l, .int u], .tup [.non, .int l, .int u], .str "yes", .non, .int 5, .tup [],
      .tup [.str "number", .int (u + 1), .int u], .tup [.str "number", .int (-10000), .int 0], .tup [.str "number", .int 0, .int 10000], .tup [.str "number", .bl true, .int 5], .tup [.str "number", .int 0, .non], .tup [.str "number", .str "0", .int 5]] _ _ g1 g2 ?_ rfl rfl (.dat (.lst _)) rfl rfl rfl _ ⟨_, _, _, rfl, rfl⟩
    rw [upNum]
    simp only [List.forall_mem_cons]
    and_intros
    all_goals first
      | exact odd_k rfl rfl
      | (apply odd_k
         · simp [sm, sms, sm1, sm2, sm7]
         · simp [gK_num, gWhole]; done)
      | (apply odd_k
         · simp [sm, sms, sm1, sm2, sm7]
         · simp [gK_num, gWhole]; intros; omega)
      | (apply odd_k
         · simp [sm, sms, sm1, sm2, sm7]
         · exact gKind_w (by decide +kernel) (by decide +kernel) (by decide +kernel) (by decide +kernel))
      | (apply odd_k
         · simp [sm, sms, sm1, sm2, sm7]
         · rfl)
      | (intro d hd; cases hd)
  | one h =>
    rename_i ws
    have hsm := h.sm
    have hlen : 1 ≤ ws.length ∧ ws.length ≤ 6 := ⟨h.1, h.2.1⟩
    obtain ⟨w0, wr, rfl⟩ : ∃ w0 wr, ws = w0 :: wr := by
      cases ws with
      | nil => exact absurd hlen.1 (by simp)
      | cons w wr => exact ⟨w, wr, rfl⟩
    have hw0 : w0 ∈ six := h.2.2.2 w0 (by simp)
    have s0 : sm w0 = true := List.all_eq_true.mp six_sm _ hw0
    apply ss_asg
    · (repeat' (first | exact upS (by decide +kernel) | exact x_c | exact x_g | exact xs_nil | exact c_no | exact di_nil | exact o_no | exact x_v rfl | apply xs_cons | apply x_tup | apply x_lst | apply x_bin | apply x_neg | apply x_nt | apply x_and | apply x_or | apply x_cmp | apply x_cmp2 | apply x_ix | apply x_sl | apply x_rv | apply x_call | apply x_bi | apply x_lens | apply x_lrg | apply x_lrg0 | apply x_isi | apply o_so | apply c_so | apply i_r1 | apply i_r2 | apply i_sq | apply x_mtW | apply di_cons | apply x_dic | apply x_nl | apply x_lc | apply x_lcf | (intro a ha; refine ⟨_, rfl, ?_, ?_⟩) | (intro a ha; refine ⟨_, rfl, ?_⟩) | exact allB | exact anyB | exact cW_eq (okD_r (by decide)) | exact cW_ne (okD_r (by decide)) | exact cW_lt | exact cW_gt | exact cW_le | exact cW_ge | exact cW_inS | exact cW_is | exact cW_isn | exact cW_isN | exact cW_isnN | exact lenT | exact intI | exact intB | exact absI | exact listT | exact listL | exact tupT | exact tupL | exact minI | exact maxI | exact strS | exact boolB | exact listScr | exact lenL | exact ixT0 | exact ixT1 | exact ixT2 | exact ixT3 | exact ixL0 | exact rfl | exact Nat.le_of_ble_eq_true rfl | exact fun hp => absurd hp fnt | exact fun hp => absurd hp tnf | refine imp_x ?_ | (intro (hp : (_ : Bool) = _)) | exact (false : Bool) | exact D.non | assumption))
    · rfl
    refine ss_ifF (x_cmp (x_ix (x_v rfl) x_c rfl) x_c rfl) (by decide +kernel) ?_
    refine ss_ifT (x_cmp (x_ix (x_v rfl) x_c rfl) (x_tup (xs_cons x_c (xs_cons x_c xs_nil)) rfl) rfl) (by decide +kernel) ?_
    apply ss_asg
    · (repeat' (first | exact x_c | exact x_g | exact xs_nil | exact c_no | exact di_nil | exact o_no | exact x_v rfl | apply xs_cons | apply x_tup | apply x_lst | apply x_bin | apply x_neg | apply x_nt | apply x_and | apply x_or | apply x_cmp | apply x_cmp2 | apply x_ix | apply x_sl | apply x_rv | apply x_call | apply x_bi | apply x_lens | apply x_lrg | apply x_lrg0 | apply x_isi | apply o_so | apply c_so | apply i_r1 | apply i_r2 | apply i_sq | apply x_mtW | apply di_cons | apply x_dic | apply x_nl | apply x_lc | apply x_lcf | (intro a ha; refine ⟨_, rfl, ?_, ?_⟩) | (intro a ha; refine ⟨_, rfl, ?_⟩) | exact allB | exact anyB | exact cW_eq (okD_r (by decide)) | exact cW_ne (okD_r (by decide)) | exact cW_lt | exact cW_gt | exact cW_le | exact cW_ge | exact cW_inS | exact cW_is | exact cW_isn | exact cW_isN | exact cW_isnN | exact lenT | exact intI | exact intB | exact absI | exact listT | exact listL | exact tupT | exact tupL | exact minI | exact maxI | exact strS | exact boolB | exact listScr | exact lenL | exact ixT0 | exact ixT1 | exact ixT2 | exact ixT3 | exact ixL0 | exact rfl | exact Nat.le_of_ble_eq_true rfl | exact fun hp => absurd hp fnt | exact fun hp => absurd hp tnf | refine imp_x ?_ | (intro (hp : (_ : Bool) = _)) | exact (false : Bool) | exact D.non | assumption))
    · rfl
    apply ss_asg
    · (repeat' (first | exact many_ok rfl | exact x_c | exact x_g | exact xs_nil | exact c_no | exact di_nil | exact o_no | exact x_v rfl | apply xs_cons | apply x_tup | apply x_lst | apply x_bin | apply x_neg | apply x_nt | apply x_and | apply x_or | apply x_cmp | apply x_cmp2 | apply x_ix | apply x_sl | apply x_rv | apply x_call | apply x_bi | apply x_lens | apply x_lrg | apply x_lrg0 | apply x_isi | apply o_so | apply c_so | apply i_r1 | apply i_r2 | apply i_sq | apply x_mtW | apply di_cons | apply x_dic | apply x_nl | apply x_lc | apply x_lcf | (intro a ha; refine ⟨_, rfl, ?_, ?_⟩) | (intro a ha; refine ⟨_, rfl, ?_⟩) | exact allB | exact anyB | exact cW_eq (okD_r (by decide)) | exact cW_ne (okD_r (by decide)) | exact cW_lt | exact cW_gt | exact cW_le | exact cW_ge | exact cW_inS | exact cW_is | exact cW_isn | exact cW_isN | exact cW_isnN | exact lenT | exact intI | exact intB | exact absI | exact listT | exact listL | exact tupT | exact tupL | exact minI | exact maxI | exact strS | exact boolB | exact listScr | exact lenL | exact ixT0 | exact ixT1 | exact ixT2 | exact ixT3 | exact ixL0 | exact rfl | exact Nat.le_of_ble_eq_true rfl | exact fun hp => absurd hp fnt | exact fun hp => absurd hp tnf | refine imp_x ?_ | (intro (hp : (_ : Bool) = _)) | exact (false : Bool) | exact D.non | assumption))
    · rfl
    refine bents_loop (cF T F (k + 4)) "one" (w0 :: wr) [] [.lst [.str "one", .tup (w0 :: wr)], .tup [.str "one"], .tup [.str "one", .tup (w0 :: wr), .int 1], .tup [.str (Txt.upper "one"), .tup (w0 :: wr)], .tup [.non, .tup (w0 :: wr)], .str "yes", .non, .int 5, .tup []] a1 b1 none none none none none hlen.2 (by simp) (by simp) _ _ fun o => ?_
    refine ss_ifF (x_cmp (x_ix (x_v rfl) x_c rfl) x_c rfl) (by decide +kernel) ?_
    refine kinds_loop k _ _ _ _ g1 g2 ?_ rfl rfl (.ref 1) rfl rfl (stays_refl rfl) _ ⟨_, _, _, rfl, rfl⟩
    rw [upOne]
    have hm : sms (w0 :: wr) = true := hsm
    have hm' : sm w0 = true ∧ sms wr = true := by simpa [sms] using hm
    rw [List.forall_mem_append]
    constructor
    · simp only [List.forall_mem_cons]
      and_intros
      all_goals first
        | exact odd_k rfl rfl
        | (apply odd_k
           · simp [sm, sms, sm3, sm4, hm'.1, hm'.2]
           · exact gK_one _)
        | (apply odd_k
           · simp [sm, sms, sm3, sm4, hm'.1, hm'.2]
           · exact gKind_w (by decide +kernel) (by decide +kernel) (by decide +kernel) (by decide +kernel))
        | (apply odd_k
           · simp [sm, sms, sm3, sm4, hm'.1, hm'.2]
           · rfl)
        | (intro d hd; cases hd)
    · intro d hd
      obtain ⟨e, he, rfl⟩ := List.mem_map.mp hd
      have hg : gKind (bentP "one" [] e) = gWords 1 12 e := gK_one _
      refine odd_k ?_ (hg.trans (bents_no h.2.2.1 (by simp) (by omega) e he))
      simp [bentP, sm, sms, sm3, bents_sm hm e he]
  | some h h1 h2 =>
    rename_i ws l u
    have hsm := h.sm
    have hlen : 1 ≤ ws.length ∧ ws.length ≤ 6 := ⟨h.1, h.2.1⟩
    obtain ⟨w0, wr, rfl⟩ : ∃ w0 wr, ws = w0 :: wr := by
      cases ws with
      | nil => exact absurd hlen.1 (by simp)
      | cons w wr => exact ⟨w, wr, rfl⟩
    apply ss_asg
    · (repeat' (first | exact upS (by decide +kernel) | exact x_c | exact x_g | exact xs_nil | exact c_no | exact di_nil | exact o_no | exact x_v rfl | apply xs_cons | apply x_tup | apply x_lst | apply x_bin | apply x_neg | apply x_nt | apply x_and | apply x_or | apply x_cmp | apply x_cmp2 | apply x_ix | apply x_sl | apply x_rv | apply x_call | apply x_bi | apply x_lens | apply x_lrg | apply x_lrg0 | apply x_isi | apply o_so | apply c_so | apply i_r1 | apply i_r2 | apply i_sq | apply x_mtW | apply di_cons | apply x_dic | apply x_nl | apply x_lc | apply x_lcf | (intro a ha; refine ⟨_, rfl, ?_, ?_⟩) | (intro a ha; refine ⟨_, rfl, ?_⟩) | exact allB | exact anyB | exact cW_eq (okD_r (by decide)) | exact cW_ne (okD_r (by decide)) | exact cW_lt | exact cW_gt | exact cW_le | exact cW_ge | exact cW_inS | exact cW_is | exact cW_isn | exact cW_isN | exact cW_isnN | exact lenT | exact intI | exact intB | exact absI | exact listT | exact listL | exact tupT | exact tupL | exact minI | exact maxI | exact strS | exact boolB | exact listScr | exact lenL | exact ixT0 | exact ixT1 | exact ixT2 | exact ixT3 | exact ixL0 | exact rfl | exact Nat.le_of_ble_eq_true rfl | exact fun hp => absurd hp fnt | exact fun hp => absurd hp tnf | refine imp_x ?_ | (intro (hp : (_ : Bool) = _)) | exact (false : Bool) | exact D.non | assumption))
    · rfl
    refine ss_ifF (x_cmp (x_ix (x_v rfl) x_c rfl) x_c rfl) (by decide +kernel) ?_
    refine ss_ifT (x_cmp (x_ix (x_v rfl) x_c rfl) (x_tup (xs_cons x_c (xs_cons x_c xs_nil)) rfl) rfl) (by decide +kernel) ?_
    apply ss_asg
    · (repeat' (first | exact x_c | exact x_g | exact xs_nil | exact c_no | exact di_nil | exact o_no | exact x_v rfl | apply xs_cons | apply x_tup | apply x_lst | apply x_bin | apply x_neg | apply x_nt | apply x_and | apply x_or | apply x_cmp | apply x_cmp2 | apply x_ix | apply x_sl | apply x_rv | apply x_call | apply x_bi | apply x_lens | apply x_lrg | apply x_lrg0 | apply x_isi | apply o_so | apply c_so | apply i_r1 | apply i_r2 | apply i_sq | apply x_mtW | apply di_cons | apply x_dic | apply x_nl | apply x_lc | apply x_lcf | (intro a ha; refine ⟨_, rfl, ?_, ?_⟩) | (intro a ha; refine ⟨_, rfl, ?_⟩) | exact allB | exact anyB | exact cW_eq (okD_r (by decide)) | exact cW_ne (okD_r (by decide)) | exact cW_lt | exact cW_gt | exact cW_le | exact cW_ge | exact cW_inS | exact cW_is | exact cW_isn | exact cW_isN | exact cW_isnN | exact lenT | exact intI | exact intB | exact absI | exact listT | exact listL | exact tupT | exact tupL | exact minI | exact maxI | exact strS | exact boolB | exact listScr | exact lenL | exact ixT0 | exact ixT1 | exact ixT2 | exact ixT3 | exact ixL0 | exact rfl | exact Nat.le_of_ble_eq_true rfl | exact fun hp => absurd hp fnt | exact fun hp => absurd hp tnf | refine imp_x ?_ | (intro (hp : (_ : Bool) = _)) | exact (false : Bool) | exact D.non | assumption))
    · rfl
    apply ss_asg
    · (repeat' (first | exact many_ok rfl | exact x_c | exact x_g | exact xs_nil | exact c_no | exact di_nil | exact o_no | exact x_v rfl | apply xs_cons | apply x_tup | apply x_lst | apply x_bin | apply x_neg | apply x_nt | apply x_and | apply x_or | apply x_cmp | apply x_cmp2 | apply x_ix | apply x_sl | apply x_rv | apply x_call | apply x_bi | apply x_lens | apply x_lrg | apply x_lrg0 | apply x_isi | apply o_so | apply c_so | apply i_r1 | apply i_r2 | apply i_sq | apply x_mtW | apply di_cons | apply x_dic | apply x_nl | apply x_lc | apply x_lcf | (intro a ha; refine ⟨_, rfl, ?_, ?_⟩) | (intro a ha; refine ⟨_, rfl, ?_⟩) | exact allB | exact anyB | exact cW_eq (okD_r (by decide)) | exact cW_ne (okD_r (by decide)) | exact cW_lt | exact cW_gt | exact cW_le | exact cW_ge | exact cW_inS | exact cW_is | exact cW_isn | exact cW_isN | exact cW_isnN | exact lenT | exact intI | exact intB | exact absI | exact listT | exact listL | exact tupT | exact tupL | exact minI | exact maxI | exact strS | exact boolB | exact listScr | exact lenL | exact ixT0 | exact ixT1 | exact ixT2 | exact ixT3 | exact ixL0 | exact rfl | exact Nat.le_of_ble_eq_true rfl | exact fun hp => absurd hp fnt | exact fun hp => absurd hp tnf | refine imp_x ?_ | (intro (hp : (_ : Bool) = _)) | exact (false : Bool) | exact D.non | assumption))
    · rfl
    refine bents_loop (cF T F (k + 4)) "some" (w0 :: wr) [.int l, .int u] [.lst [.str "some", .tup (w0 :: wr), .int l, .int u], .tup [.str "some", .tup (w0 :: wr), .int l], .tup [.str "some", .tup (w0 :: wr), .int l, .int u, .int 1], .tup [.str (Txt.upper "some"), .tup (w0 :: wr), .int l, .int u], .tup [.non, .tup (w0 :: wr), .int l, .int u], .str "yes", .non, .int 5, .tup []] a1 b1 none none none none none hlen.2 (by simp) (by simp) _ _ fun o => ?_
    refine ss_ifT (x_cmp (x_ix (x_v rfl) x_c rfl) x_c rfl) (by decide +kernel) ?_
    apply ss_asg
    · (repeat' (first | exact x_c | exact x_g | exact xs_nil | exact c_no | exact di_nil | exact o_no | exact x_v rfl | apply xs_cons | apply x_tup | apply x_lst | apply x_bin | apply x_neg | apply x_nt | apply x_and | apply x_or | apply x_cmp | apply x_cmp2 | apply x_ix | apply x_sl | apply x_rv | apply x_call | apply x_bi | apply x_lens | apply x_lrg | apply x_lrg0 | apply x_isi | apply o_so | apply c_so | apply i_r1 | apply i_r2 | apply i_sq | apply x_mtW | apply di_cons | apply x_dic | apply x_nl | apply x_lc | apply x_lcf | (intro a ha; refine ⟨_, rfl, ?_, ?_⟩) | (intro a ha; refine ⟨_, rfl, ?_⟩) | exact allB | exact anyB | exact cW_eq (okD_r (by decide)) | exact cW_ne (okD_r (by decide)) | exact cW_lt | exact cW_gt | exact cW_le | exact cW_ge | exact cW_inS | exact cW_is | exact cW_isn | exact cW_isN | exact cW_isnN | exact lenT | exact intI | exact intB | exact absI | exact listT | exact listL | exact tupT | exact tupL | exact minI | exact maxI | exact strS | exact boolB | exact listScr | exact lenL | exact ixT0 | exact ixT1 | exact ixT2 | exact ixT3 | exact ixL0 | exact rfl | exact Nat.le_of_ble_eq_true rfl | exact fun hp => absurd hp fnt | exact fun hp => absurd hp tnf | refine imp_x ?_ | (intro (hp : (_ : Bool) = _)) | exact (false : Bool) | exact D.non | assumption))
    · rfl
    apply ss_asg
    · (repeat' (first | exact addL (by simp [bents, bigLine]) | exact x_c | exact x_g | exact xs_nil | exact c_no | exact di_nil | exact o_no | exact x_v rfl | apply xs_cons | apply x_tup | apply x_lst | apply x_bin | apply x_neg | apply x_nt | apply x_and | apply x_or | apply x_cmp | apply x_cmp2 | apply x_ix | apply x_sl | apply x_rv | apply x_call | apply x_bi | apply x_lens | apply x_lrg | apply x_lrg0 | apply x_isi | apply o_so | apply c_so | apply i_r1 | apply i_r2 | apply i_sq | apply x_mtW | apply di_cons | apply x_dic | apply x_nl | apply x_lc | apply x_lcf | (intro a ha; refine ⟨_, rfl, ?_, ?_⟩) | (intro a ha; refine ⟨_, rfl, ?_⟩) | exact allB | exact anyB | exact cW_eq (okD_r (by decide)) | exact cW_ne (okD_r (by decide)) | exact cW_lt | exact cW_gt | exact cW_le | exact cW_ge | exact cW_inS | exact cW_is | exact cW_isn | exact cW_isN | exact cW_isnN | exact lenT | exact intI | exact intB | exact absI | exact listT | exact listL | exact tupT | exact tupL | exact minI | exact maxI | exact strS | exact boolB | exact listScr | exact lenL | exact ixT0 | exact ixT1 | exact ixT2 | exact ixT3 | exact ixL0 | exact rfl | exact Nat.le_of_ble_eq_true rfl | exact fun hp => absurd hp fnt | exact fun hp => absurd hp tnf | refine imp_x ?_ | (intro (hp : (_ : Bool) = _)) | exact (false : Bool) | exact D.non | assumption))
    · rfl
    apply ss_asg
    · (repeat' (first | exact addL (by simp [bents, bigLine]) | exact x_c | exact x_g | exact xs_nil | exact c_no | exact di_nil | exact o_no | exact x_v rfl | apply xs_cons | apply x_tup | apply x_lst | apply x_bin | apply x_neg | apply x_nt | apply x_and | apply x_or | apply x_cmp | apply x_cmp2 | apply x_ix | apply x_sl | apply x_rv | apply x_call | apply x_bi | apply x_lens | apply x_lrg | apply x_lrg0 | apply x_isi | apply o_so | apply c_so | apply i_r1 | apply i_r2 | apply i_sq | apply x_mtW | apply di_cons | apply x_dic | apply x_nl | apply x_lc | apply x_lcf | (intro a ha; refine ⟨_, rfl, ?_, ?_⟩) | (intro a ha; refine ⟨_, rfl, ?_⟩) | exact allB | exact anyB | exact cW_eq (okD_r (by decide)) | exact cW_ne (okD_r (by decide)) | exact cW_lt | exact cW_gt | exact cW_le | exact cW_ge | exact cW_inS | exact cW_is | exact cW_isn | exact cW_isN | exact cW_isnN | exact lenT | exact intI | exact intB | exact absI | exact listT | exact listL | exact tupT | exact tupL | exact minI | exact maxI | exact strS | exact boolB | exact listScr | exact lenL | exact ixT0 | exact ixT1 | exact ixT2 | exact ixT3 | exact ixL0 | exact rfl | exact Nat.le_of_ble_eq_true rfl | exact fun hp => absurd hp fnt | exact fun hp => absurd hp tnf | refine imp_x ?_ | (intro (hp : (_ : Bool) = _)) | exact (false : Bool) | exact D.non | assumption))
    · rfl
    apply ss_asg
    · (repeat' (first | exact many9_ok rfl | exact addL (by simp [bents, bigLine]) | exact x_c | exact x_g | exact xs_nil | exact c_no | exact di_nil | exact o_no | exact x_v rfl | apply xs_cons | apply x_tup | apply x_lst | apply x_bin | apply x_neg | apply x_nt | apply x_and | apply x_or | apply x_cmp | apply x_cmp2 | apply x_ix | apply x_sl | apply x_rv | apply x_call | apply x_bi | apply x_lens | apply x_lrg | apply x_lrg0 | apply x_isi | apply o_so | apply c_so | apply i_r1 | apply i_r2 | apply i_sq | apply x_mtW | apply di_cons | apply x_dic | apply x_nl | apply x_lc | apply x_lcf | (intro a ha; refine ⟨_, rfl, ?_, ?_⟩) | (intro a ha; refine ⟨_, rfl, ?_⟩) | exact allB | exact anyB | exact cW_eq (okD_r (by decide)) | exact cW_ne (okD_r (by decide)) | exact cW_lt | exact cW_gt | exact cW_le | exact cW_ge | exact cW_inS | exact cW_is | exact cW_isn | exact cW_isN | exact cW_isnN | exact lenT | exact intI | exact intB | exact absI | exact listT | exact listL | exact tupT | exact tupL | exact minI | exact maxI | exact strS | exact boolB | exact listScr | exact lenL | exact ixT0 | exact ixT1 | exact ixT2 | exact ixT3 | exact ixL0 | exact rfl | exact Nat.le_of_ble_eq_true rfl | exact fun hp => absurd hp fnt | exact fun hp => absurd hp tnf | refine imp_x ?_ | (intro (hp : (_ : Bool) = _)) | exact (false : Bool) | exact D.non | assumption))
    · rfl
    refine kinds_loop k _ ([.lst [.str "some", .tup (w0 :: wr), .int l, .int u], .tup [.str "some", .tup (w0 :: wr), .int l], .tup [.str "some", .tup (w0 :: wr), .int l, .int u, .int 1], .tup [.str (Txt.upper "some"), .tup (w0 :: wr), .int l, .int u], .tup [.non, .tup (w0 :: wr), .int l, .int u], .str "yes", .non, .int 5, .tup []] ++ (bents (w0 :: wr)).map (bentP "some" [.int l, .int u]) ++
      [.tup [.str "some", .tup (w0 :: wr), .int ((u : Int) + 1), .int u], .tup [.str "some", .tup (w0 :: wr), .int (-1), .int u]] ++ [.tup [.str "some", .tup (w0 :: wr), .int l, .int (((w0 :: wr).length : Int) + 1)], .tup [.str "some", .tup (w0 :: wr), .bl true, .int 1]] ++ [.tup [.str "some", .tup (w0 :: wr), .int l, .non], .tup [.str "some", .tup (manyL 0 9), .int 0, .int 1]]) _ _ g1 g2 ?_ rfl rfl (.dat (.lst _)) rfl rfl rfl _ ⟨_, _, _, rfl, rfl⟩
    rw [upSome]
    have hm : sms (w0 :: wr) = true := hsm
    have hm' : sm w0 = true ∧ sms wr = true := by simpa [sms] using hm
    have h9 : sms (manyL 0 9) = true := by kernel_rfl
    have h9l : (manyL 0 9).length = 9 := by simp [manyL]
    rw [List.forall_mem_append, List.forall_mem_append, List.forall_mem_append, List.forall_mem_append]
    refine ⟨⟨⟨⟨?_, ?_⟩, ?_⟩, ?_⟩, ?_⟩
    · simp only [List.forall_mem_cons]
      and_intros
      all_goals first
        | exact odd_k rfl rfl
        | (apply odd_k
           · simp [sm, sms, sm5, sm6, hm'.1, hm'.2]
           · exact gK_some _)
        | (apply odd_k
           · simp [sm, sms, sm5, sm6, hm'.1, hm'.2]
           · exact gKind_w (by decide +kernel) (by decide +kernel) (by decide +kernel) (by decide +kernel))
        | (apply odd_k
           · simp [sm, sms, sm5, sm6, hm'.1, hm'.2]
           · rfl)
        | (intro d hd; cases hd)
    · intro d hd
      obtain ⟨e, he, rfl⟩ := List.mem_map.mp hd
      have hg := gK_some [e, .int l, .int u]
      have hb := bents_no h.2.2.1 (by simp) (show (8 : Int) ≤ 12 by omega) e he
      refine odd_k ?_ (hg.trans ?_)
      · simp [bentP, sm, sms, sm5, bents_sm hm e he]
      · cases e <;> simp [hb]
    all_goals
      simp only [List.forall_mem_cons]
      and_intros
      all_goals first
        | (apply odd_k
           · simp [sm, sms, sm5, sm6, hm'.1, hm'.2, h9]
           · rw [gK_some]; simp [gWhole, gWords, h9l]; done)
        | (apply odd_k
           · simp [sm, sms, sm5, sm6, hm'.1, hm'.2, h9]
           · rw [gK_some]; simp [gWhole]; intros; omega)
        | (apply odd_k
           · simp [sm, sms, sm5, sm6, hm'.1, hm'.2, h9]
           · exact gK_some _)
        | (intro d hd; cases hd)
end

section
variable {F : Nat}
/-- a last loop: every odd one is told, and the right one behind each -/
theorem odd_loop {C : Nat → List W → M W} (f i j q : Nat) (g : D → Bool) (hf : ∀ (d : D) (st : Store), sm d = true → C f [.dat d] st = .ok (.dat (.bl (g d))) st) (kd : D) (odds : List D) (ρ : Env) (st : Store) (h1 : g kd = true) (h2 : sm kd = true) (h3 : ∀ d ∈ odds, sm d = true ∧ g d = false) (hρ : i < ρ.length) (hiq : i ≠ q) (hk : ρ[q]?.join = some (.dat kd)) (ho : ρ[j]?.join = some (.dat (.lst odds))) (P : Res Fl → Prop) (hP : P (.ok (.ret (.dat (.bl true))) st)) :
    Go P (eSs C F (.cons (.for (.n i) (.sq (.v j)) (.cons (.ife (.or (.cmp .IsNot (.call f (.cons (.v i) .nil)) (.c (.bl false))) (.cmp .IsNot (.call f (.cons (.v q) .nil)) (.c (.bl true)))) (.cons (.ret (.c (.bl false))) .nil) .nil) .nil)) (.cons (.ret (.c (.bl true))) .nil)) ρ st) := by
  refine ss_forI (as := odds) (k := .dat) (n := none) (I := fun as ρ' st' => st' = st ∧ (∀ d ∈ as, sm d = true ∧ g d = false) ∧ ∃ o, ρ' = ρ.set i o) (i_sq (x_v ho) rfl) ⟨rfl, h3, ρ[i]'hρ, by simp⟩ ?_ ?_
  · rintro d as ρ' st' ⟨rfl, hd, o, rfl⟩
    refine ⟨_, rfl, ?_⟩
    rw [List.set_set]
    have h10 : (ρ.set i (some (.dat d)))[i]?.join = some (.dat d) := by
      rw [List.getElem?_set_self hρ]; rfl
    have h1' : (ρ.set i (some (.dat d)))[q]?.join = some (.dat kd) := by
      rw [List.getElem?_set_ne hiq]; exact hk
    obtain ⟨d1, d2⟩ := hd d List.mem_cons_self
    refine ss_ifF (x_orF (x_cmp (x_call (xs_cons (x_v h10) xs_nil) (hf d _ d1)) x_c cW_isn) (by rw [d2]; rfl) (x_cmp (x_call (xs_cons (x_v h1') xs_nil) (hf kd _ h2)) x_c cW_isn)) (by rw [h1]; rfl) (ss_nil (.nx ⟨rfl, fun e he => hd e (List.mem_cons_of_mem _ he), _, rfl⟩ rfl))
  · rintro ρ' st' ⟨rfl, _, o, rfl⟩
    exact ss_ret x_c hP
def ltN : D → D → Bool
  | .str a, .str b => decide (a.cps.toList < b.cps.toList)
  | _, _ => false
theorem ltName_eq (p q : D) : ltName p q = ltN (nameOf p) (nameOf q) := by
  cases p with
  | tup ps =>
    cases ps with
    | nil => rfl
    | cons x xs =>
      cases x with
      | str s =>
        cases q with
        | tup qs =>
          cases qs with
          | nil => rfl
          | cons y ys => cases y <;> rfl
        | _ => rfl
      | _ => rfl
  | _ => rfl
theorem pairs_map {α β : Type} (f : α → β) (xs : List α) : pairs (xs.map f) = (pairs xs).map fun p => (f p.1, f p.2) := by
  unfold pairs
  rw [← List.map_drop]
  generalize xs.drop 1 = ys
  induction xs generalizing ys with
  | nil => rfl
  | cons x xs ih =>
    cases ys with
    | nil => rfl
    | cons y ys => simp [ih]
def up (ns : List D) : Bool := (pairs ns).all fun p => ltN p.1 p.2
theorem gQs_eq (xs : List D) : gQuestions (.tup xs) = (decide (xs.length ≤ 30) && xs.all gQuestion && up (xs.map nameOf)) := by
  unfold gQuestions up
  simp only
  rw [pairs_map, List.all_map]
  simp only [Function.comp_def, ltName_eq]
theorem gQs_bad {xs : List D} {x : D} (hx : x ∈ xs) (h : gQuestion x = false) : gQuestions (.tup xs) = false := by
  have : xs.all gQuestion = false := by
    rw [List.all_eq_false]
    exact ⟨x, hx, by rw [h]; simp⟩
  rw [gQs_eq, this]
  simp
theorem gQs_up {xs : List D} (h : up (xs.map nameOf) = false) : gQuestions (.tup xs) = false := by
  rw [gQs_eq, h]; simp
theorem fiveN : ∀ n ∈ fiveS, gName (.str n) = true ∧ smStr n = true ∧ n.length ≤ 5 ∧ gName (.str (n ++ "_")) = false ∧ smStr (n ++ "_") = true := by
  have : (fiveS.all fun n => gName (.str n) && smStr n && decide (n.length ≤ 5) && !gName (.str (n ++ "_")) && smStr (n ++ "_")) = true := by kernel_rfl
  intro n hn
  have := List.all_eq_true.mp this n hn
  simp only [Bool.and_eq_true, decide_eq_true_eq, Bool.not_eq_true'] at this
  exact ⟨this.1.1.1.1, this.1.1.1.2, this.1.1.2, this.1.2, this.2⟩
theorem Qst.good {m : Nat} {d : D} (hm : m ≤ 8) (h : Qst m d) : gQuestion d = true ∧ Ev.sm d = true := by
  cases h with
  | mk hn hd =>
    obtain ⟨h1, h2⟩ := hd.good hm
    obtain ⟨n1, n2, _⟩ := fiveN _ hn
    exact ⟨by simp [gQuestion, n1, h1], by simp [Ev.sm, sms, n2, h2]⟩
theorem sms_all {xs : List D} (h : ∀ x ∈ xs, sm x = true) : sms xs = true := by
  induction xs with
  | nil => rfl
  | cons x xs ih => simp only [sms, Bool.and_eq_true]; exact ⟨h x (by simp), ih fun y hy => h y (by simp [hy])⟩
theorem upN : ∀ n, n ≤ 5 → 1 ≤ n → up ((fiveS.take n).map .str) = true ∧ up ((fiveS.take n ++ (fiveS.take n).drop (n - 1)).map .str) = false ∧ up (.str "zz" :: (fiveS.take n).map .str) = false ∧ (1 < n → up ((fiveS.take n).reverse.map .str) = false)
  | 0, _, h => absurd h (by omega)
  | 1, _, _ => ⟨by kernel_rfl, by kernel_rfl, by kernel_rfl, fun h => absurd h (by omega)⟩
  | 2, _, _ => ⟨by kernel_rfl, by kernel_rfl, by kernel_rfl, fun _ => by kernel_rfl⟩
  | 3, _, _ => ⟨by kernel_rfl, by kernel_rfl, by kernel_rfl, fun _ => by kernel_rfl⟩
  | 4, _, _ => ⟨by kernel_rfl, by kernel_rfl, by kernel_rfl, fun _ => by kernel_rfl⟩
  | 5, _, _ => ⟨by kernel_rfl, by kernel_rfl, by kernel_rfl, fun _ => by kernel_rfl⟩
  | n + 6, h, _ => absurd h (by omega)
theorem Qsts.good {m : Nat} {qs : List D} (hm : m ≤ 8) (h : Qsts m (.tup qs)) : gQuestions (.tup qs) = true ∧ sms qs = true ∧ 1 ≤ qs.length ∧ qs.length ≤ 5 := by
  obtain ⟨n, qs', e, h1, h2, h3, h4⟩ := h
  cases e
  have hl := congrArg List.length h3
  simp at hl
  have h5 : fiveS.length = 5 := rfl
  refine ⟨?_, sms_all fun x hx => ((h4 x hx).good hm).2, by omega, by omega⟩
  rw [gQs_eq, h3, (upN n h2 h1).1, List.all_eq_true.mpr fun x hx => ((h4 x hx).good hm).1]
  simp; omega
theorem cut_from {α : Type} {xs : List α} {n : Nat} : cutD xs (some (n : Int)) none = xs.drop n := by
  have h1 : slB xs.length 0 (some (n : Int)) = min n xs.length := by
    show (if (n : Int) < 0 then ((n : Int) + xs.length).toNat else min (n : Int).toNat xs.length) = _
    rw [if_neg (by omega)]; rfl
  have h2 : slB xs.length xs.length none = xs.length := rfl
  unfold cutD
  rw [h1, h2, List.take_of_length_le (by simp)]
  by_cases h : n ≤ xs.length
  · rw [Nat.min_eq_left h]
  · rw [Nat.min_eq_right (by omega), List.drop_length, List.drop_of_length_le (by omega)]
theorem slFrom {xs : List D} {n : Nat} : slW (.dat (.tup xs)) (some (n : Int)) none = some (.dat (.tup (xs.drop n))) := by
  rw [← cut_from]; rfl
theorem slLast {xs : List D} : slW (.dat (.tup xs)) (some (-1)) none = some (.dat (.tup (xs.drop (xs.length - 1)))) := by
  have h1 : slB xs.length 0 (some (-1)) = xs.length - 1 := by
    show (if (-1 : Int) < 0 then ((-1 : Int) + xs.length).toNat else min (-1 : Int).toNat xs.length) = _
    rw [if_pos (by omega)]; omega
  have h2 : slB xs.length xs.length none = xs.length := rfl
  show some (W.dat (.tup (cutD xs (some (-1)) none))) = _
  unfold cutD
  rw [h1, h2, List.take_of_length_le (by simp)]
theorem sm_yes : sm (.tup [.str "yes"]) = true := by kernel_rfl
theorem gQ_name {n k : D} {b : Bool} (h : gName n = false) : gQuestion (.tup [n, k, .bl b]) = false := by simp [gQuestion, h]
theorem gQ_kind {n k : D} {b : Bool} (h : gKind k = false) : gQuestion (.tup [n, k, .bl b]) = false := by simp [gQuestion, h]
theorem questions_right_ok (k : Nat) : Dr F (k + 7) F__law_questions_right [] (· = .bl true) := by
  refine Dr.go rfl rfl fun a b => ?_
  obtain ⟨a1, b1, _, e1, hQ⟩ := (law_questions_ok (F := F) k 5 4 (by omega) (by omega) (by omega) (by omega)).use (k' := k + 6) (by omega) a b []
  have hQ' := hQ
  obtain ⟨n, qs, rfl, h1, h2, h3, h4⟩ := hQ
  obtain ⟨g1, g2, g3, g4⟩ := hQ'.good (by omega)
  have hl5 : fiveS.length = 5 := rfl
  have hqn : qs.length = n := by
    have hl := congrArg List.length h3
    simp at hl; omega
  obtain ⟨a2, b2, _, e2, r, rfl, hr⟩ := (roll_ok (F := F) k qs.length (by omega) (by omega)).use (k' := k + 6) (by omega) a1 b1 []
  have hr' : r < qs.length := by omega
  have hmem : qs[r] ∈ qs := List.getElem_mem hr'
  apply ss_asg
  · (repeat' (first | exact e1 | exact x_c | exact x_g | exact xs_nil | exact c_no | exact di_nil | exact o_no | exact x_v rfl | apply xs_cons | apply x_tup | apply x_lst | apply x_bin | apply x_neg | apply x_nt | apply x_and | apply x_or | apply x_cmp | apply x_cmp2 | apply x_ix | apply x_sl | apply x_rv | apply x_call | apply x_bi | apply x_lens | apply x_lrg | apply x_lrg0 | apply x_isi | apply o_so | apply c_so | apply i_r1 | apply i_r2 | apply i_sq | apply x_mtW | apply di_cons | apply x_dic | apply x_nl | apply x_lc | apply x_lcf | (intro a ha; refine ⟨_, rfl, ?_, ?_⟩) | (intro a ha; refine ⟨_, rfl, ?_⟩) | exact allB | exact anyB | exact cW_eq (okD_r (by decide)) | exact cW_ne (okD_r (by decide)) | exact cW_lt | exact cW_gt | exact cW_le | exact cW_ge | exact cW_inS | exact cW_is | exact cW_isn | exact cW_isN | exact cW_isnN | exact lenT | exact intI | exact intB | exact absI | exact listT | exact listL | exact tupT | exact tupL | exact minI | exact maxI | exact strS | exact boolB | exact listScr | exact lenL | exact ixT0 | exact ixT1 | exact ixT2 | exact ixT3 | exact ixL0 | exact rfl | exact Nat.le_of_ble_eq_true rfl | exact fun hp => absurd hp fnt | exact fun hp => absurd hp tnf | refine imp_x ?_ | (intro (hp : (_ : Bool) = _)) | exact (false : Bool) | exact D.non | assumption))
  · rfl
  apply ss_asg
  · (repeat' (first | exact e2 | exact x_c | exact x_g | exact xs_nil | exact c_no | exact di_nil | exact o_no | exact x_v rfl | apply xs_cons | apply x_tup | apply x_lst | apply x_bin | apply x_neg | apply x_nt | apply x_and | apply x_or | apply x_cmp | apply x_cmp2 | apply x_ix | apply x_sl | apply x_rv | apply x_call | apply x_bi | apply x_lens | apply x_lrg | apply x_lrg0 | apply x_isi | apply o_so | apply c_so | apply i_r1 | apply i_r2 | apply i_sq | apply x_mtW | apply di_cons | apply x_dic | apply x_nl | apply x_lc | apply x_lcf | (intro a ha; refine ⟨_, rfl, ?_, ?_⟩) | (intro a ha; refine ⟨_, rfl, ?_⟩) | exact allB | exact anyB | exact cW_eq (okD_r (by decide)) | exact cW_ne (okD_r (by decide)) | exact cW_lt | exact cW_gt | exact cW_le | exact cW_ge | exact cW_inS | exact cW_is | exact cW_isn | exact cW_isN | exact cW_isnN | exact lenT | exact intI | exact intB | exact absI | exact listT | exact listL | exact tupT | exact tupL | exact minI | exact maxI | exact strS | exact boolB | exact listScr | exact lenL | exact ixT0 | exact ixT1 | exact ixT2 | exact ixT3 | exact ixL0 | exact rfl | exact Nat.le_of_ble_eq_true rfl | exact fun hp => absurd hp fnt | exact fun hp => absurd hp tnf | refine imp_x ?_ | (intro (hp : (_ : Bool) = _)) | exact (false : Bool) | exact D.non | assumption))
  · rfl
  have hq := h4 _ hmem
  have hix : ixW (.dat (.tup qs)) (.dat (.int r)) = some (.dat qs[r]) := ixT (atN_nat hr') (List.getElem?_eq_getElem hr')
  clear hmem
  revert hix
  generalize qs[r] = q at hq
  cases hq with
  | mk hn hd =>
    rename_i nm kd fr
    intro hix
    obtain ⟨n1, n2, n3, n4, n5⟩ := fiveN _ hn
    obtain ⟨d1, d2⟩ := hd.good (by omega)
    have hu : ("_" : Str).length = 1 := rfl
    have hnb : nm.length + ("_" : Str).length ≤ bigLine := by unfold bigLine; omega
    apply ss_asg
    · (repeat' (first | exact hix | exact x_c | exact x_g | exact xs_nil | exact c_no | exact di_nil | exact o_no | exact x_v rfl | apply xs_cons | apply x_tup | apply x_lst | apply x_bin | apply x_neg | apply x_nt | apply x_and | apply x_or | apply x_cmp | apply x_cmp2 | apply x_ix | apply x_sl | apply x_rv | apply x_call | apply x_bi | apply x_lens | apply x_lrg | apply x_lrg0 | apply x_isi | apply o_so | apply c_so | apply i_r1 | apply i_r2 | apply i_sq | apply x_mtW | apply di_cons | apply x_dic | apply x_nl | apply x_lc | apply x_lcf | (intro a ha; refine ⟨_, rfl, ?_, ?_⟩) | (intro a ha; refine ⟨_, rfl, ?_⟩) | exact allB | exact anyB | exact cW_eq (okD_r (by decide)) | exact cW_ne (okD_r (by decide)) | exact cW_lt | exact cW_gt | exact cW_le | exact cW_ge | exact cW_inS | exact cW_is | exact cW_isn | exact cW_isN | exact cW_isnN | exact lenT | exact intI | exact intB | exact absI | exact listT | exact listL | exact tupT | exact tupL | exact minI | exact maxI | exact strS | exact boolB | exact listScr | exact lenL | exact ixT0 | exact ixT1 | exact ixT2 | exact ixT3 | exact ixL0 | exact rfl | exact Nat.le_of_ble_eq_true rfl | exact fun hp => absurd hp fnt | exact fun hp => absurd hp tnf | refine imp_x ?_ | (intro (hp : (_ : Bool) = _)) | exact (false : Bool) | exact D.non | assumption))
    · rfl
    apply ss_asg
    · (repeat' (first | exact x_c | exact x_g | exact xs_nil | exact c_no | exact di_nil | exact o_no | exact x_v rfl | apply xs_cons | apply x_tup | apply x_lst | apply x_bin | apply x_neg | apply x_nt | apply x_and | apply x_or | apply x_cmp | apply x_cmp2 | apply x_ix | apply x_sl | apply x_rv | apply x_call | apply x_bi | apply x_lens | apply x_lrg | apply x_lrg0 | apply x_isi | apply o_so | apply c_so | apply i_r1 | apply i_r2 | apply i_sq | apply x_mtW | apply di_cons | apply x_dic | apply x_nl | apply x_lc | apply x_lcf | (intro a ha; refine ⟨_, rfl, ?_, ?_⟩) | (intro a ha; refine ⟨_, rfl, ?_⟩) | exact allB | exact anyB | exact cW_eq (okD_r (by decide)) | exact cW_ne (okD_r (by decide)) | exact cW_lt | exact cW_gt | exact cW_le | exact cW_ge | exact cW_inS | exact cW_is | exact cW_isn | exact cW_isN | exact cW_isnN | exact lenT | exact intI | exact intB | exact absI | exact listT | exact listL | exact tupT | exact tupL | exact minI | exact maxI | exact strS | exact boolB | exact listScr | exact lenL | exact ixT0 | exact ixT1 | exact ixT2 | exact ixT3 | exact ixL0 | exact rfl | exact Nat.le_of_ble_eq_true rfl | exact fun hp => absurd hp fnt | exact fun hp => absurd hp tnf | refine imp_x ?_ | (intro (hp : (_ : Bool) = _)) | exact (false : Bool) | exact D.non | assumption))
    · rfl
    apply ss_asg
    · (repeat' (first | exact x_c | exact x_g | exact xs_nil | exact c_no | exact di_nil | exact o_no | exact x_v rfl | apply xs_cons | apply x_tup | apply x_lst | apply x_bin | apply x_neg | apply x_nt | apply x_and | apply x_or | apply x_cmp | apply x_cmp2 | apply x_ix | apply x_sl | apply x_rv | apply x_call | apply x_bi | apply x_lens | apply x_lrg | apply x_lrg0 | apply x_isi | apply o_so | apply c_so | apply i_r1 | apply i_r2 | apply i_sq | apply x_mtW | apply di_cons | apply x_dic | apply x_nl | apply x_lc | apply x_lcf | (intro a ha; refine ⟨_, rfl, ?_, ?_⟩) | (intro a ha; refine ⟨_, rfl, ?_⟩) | exact allB | exact anyB | exact cW_eq (okD_r (by decide)) | exact cW_ne (okD_r (by decide)) | exact cW_lt | exact cW_gt | exact cW_le | exact cW_ge | exact cW_inS | exact cW_is | exact cW_isn | exact cW_isN | exact cW_isnN | exact lenT | exact intI | exact intB | exact absI | exact listT | exact listL | exact tupT | exact tupL | exact minI | exact maxI | exact strS | exact boolB | exact listScr | exact lenL | exact ixT0 | exact ixT1 | exact ixT2 | exact ixT3 | exact ixL0 | exact rfl | exact Nat.le_of_ble_eq_true rfl | exact fun hp => absurd hp fnt | exact fun hp => absurd hp tnf | refine imp_x ?_ | (intro (hp : (_ : Bool) = _)) | exact (false : Bool) | exact D.non | assumption))
    · rfl
    apply ss_asg
    · (repeat' (first | exact addS hnb | exact x_c | exact x_g | exact xs_nil | exact c_no | exact di_nil | exact o_no | exact x_v rfl | apply xs_cons | apply x_tup | apply x_lst | apply x_bin | apply x_neg | apply x_nt | apply x_and | apply x_or | apply x_cmp | apply x_cmp2 | apply x_ix | apply x_sl | apply x_rv | apply x_call | apply x_bi | apply x_lens | apply x_lrg | apply x_lrg0 | apply x_isi | apply o_so | apply c_so | apply i_r1 | apply i_r2 | apply i_sq | apply x_mtW | apply di_cons | apply x_dic | apply x_nl | apply x_lc | apply x_lcf | (intro a ha; refine ⟨_, rfl, ?_, ?_⟩) | (intro a ha; refine ⟨_, rfl, ?_⟩) | exact allB | exact anyB | exact cW_eq (okD_r (by decide)) | exact cW_ne (okD_r (by decide)) | exact cW_lt | exact cW_gt | exact cW_le | exact cW_ge | exact cW_inS | exact cW_is | exact cW_isn | exact cW_isN | exact cW_isnN | exact lenT | exact intI | exact intB | exact absI | exact listT | exact listL | exact tupT | exact tupL | exact minI | exact maxI | exact strS | exact boolB | exact listScr | exact lenL | exact ixT0 | exact ixT1 | exact ixT2 | exact ixT3 | exact ixL0 | exact rfl | exact Nat.le_of_ble_eq_true rfl | exact fun hp => absurd hp fnt | exact fun hp => absurd hp tnf | refine imp_x ?_ | (intro (hp : (_ : Bool) = _)) | exact (false : Bool) | exact D.non | assumption))
    · rfl
    have hsl1 : slW (.dat (.tup qs)) none (some (r : Int)) = some (.dat (.tup (qs.take r))) := slTup
    have hsl2 : slW (.dat (.tup qs)) (some ((r : Int) + 1)) none = some (.dat (.tup (qs.drop (r + 1)))) := slFrom (n := r + 1)
    have hb' : bigLine = 16777216 := rfl
    have hA1 : ∀ d : D, binD .Add (.tup (qs.take r)) (.tup [d]) = some (.tup (qs.take r ++ [d])) := fun d => addT (by simp; omega)
    have hA2 : ∀ d : D, binD .Add (.tup (qs.take r ++ [d])) (.tup (qs.drop (r + 1))) = some (.tup (qs.take r ++ [d] ++ qs.drop (r + 1))) := fun d => addT (by simp; omega)
    apply ss_asg
    · (repeat' (first | exact hsl1 | exact hsl2 | exact hA1 _ | exact hA2 _ | exact x_c | exact x_g | exact xs_nil | exact c_no | exact di_nil | exact o_no | exact x_v rfl | apply xs_cons | apply x_tup | apply x_lst | apply x_bin | apply x_neg | apply x_nt | apply x_and | apply x_or | apply x_cmp | apply x_cmp2 | apply x_ix | apply x_sl | apply x_rv | apply x_call | apply x_bi | apply x_lens | apply x_lrg | apply x_lrg0 | apply x_isi | apply o_so | apply c_so | apply i_r1 | apply i_r2 | apply i_sq | apply x_mtW | apply di_cons | apply x_dic | apply x_nl | apply x_lc | apply x_lcf | (intro a ha; refine ⟨_, rfl, ?_, ?_⟩) | (intro a ha; refine ⟨_, rfl, ?_⟩) | exact allB | exact anyB | exact cW_eq (okD_r (by decide)) | exact cW_ne (okD_r (by decide)) | exact cW_lt | exact cW_gt | exact cW_le | exact cW_ge | exact cW_inS | exact cW_is | exact cW_isn | exact cW_isN | exact cW_isnN | exact lenT | exact intI | exact intB | exact absI | exact listT | exact listL | exact tupT | exact tupL | exact minI | exact maxI | exact strS | exact boolB | exact listScr | exact lenL | exact ixT0 | exact ixT1 | exact ixT2 | exact ixT3 | exact ixL0 | exact rfl | exact Nat.le_of_ble_eq_true rfl | exact fun hp => absurd hp fnt | exact fun hp => absurd hp tnf | refine imp_x ?_ | (intro (hp : (_ : Bool) = _)) | exact (false : Bool) | exact D.non | assumption))
    · rfl
    have hsl3 : slW (.dat (.tup qs)) (some (-1)) none = some (.dat (.tup (qs.drop (qs.length - 1)))) := slLast
    have hA3 : binD .Add (.tup qs) (.tup (qs.drop (qs.length - 1))) = some (.tup (qs ++ qs.drop (qs.length - 1))) := addT (by simp; omega)
    have hA4 : binD .Add (.tup [.tup [.str "zz", .tup [.str "yes"], .bl false]]) (.tup qs) = some (.tup ([.tup [.str "zz", .tup [.str "yes"], .bl false]] ++ qs)) := addT (by simp; omega)
    apply ss_asg
    · (repeat' (first | exact hsl3 | exact hA3 | exact hA4 | exact x_c | exact x_g | exact xs_nil | exact c_no | exact di_nil | exact o_no | exact x_v rfl | apply xs_cons | apply x_tup | apply x_lst | apply x_bin | apply x_neg | apply x_nt | apply x_and | apply x_or | apply x_cmp | apply x_cmp2 | apply x_ix | apply x_sl | apply x_rv | apply x_call | apply x_bi | apply x_lens | apply x_lrg | apply x_lrg0 | apply x_isi | apply o_so | apply c_so | apply i_r1 | apply i_r2 | apply i_sq | apply x_mtW | apply di_cons | apply x_dic | apply x_nl | apply x_lc | apply x_lcf | (intro a ha; refine ⟨_, rfl, ?_, ?_⟩) | (intro a ha; refine ⟨_, rfl, ?_⟩) | exact allB | exact anyB | exact cW_eq (okD_r (by decide)) | exact cW_ne (okD_r (by decide)) | exact cW_lt | exact cW_gt | exact cW_le | exact cW_ge | exact cW_inS | exact cW_is | exact cW_isn | exact cW_isN | exact cW_isnN | exact lenT | exact intI | exact intB | exact absI | exact listT | exact listL | exact tupT | exact tupL | exact minI | exact maxI | exact strS | exact boolB | exact listScr | exact lenL | exact ixT0 | exact ixT1 | exact ixT2 | exact ixT3 | exact ixL0 | exact rfl | exact Nat.le_of_ble_eq_true rfl | exact fun hp => absurd hp fnt | exact fun hp => absurd hp tnf | refine imp_x ?_ | (intro (hp : (_ : Bool) = _)) | exact (false : Bool) | exact D.non | assumption))
    · rfl
    apply ss_asg
    · apply x_bin
      · exact x_v rfl
      · apply x_lst
        · apply xs_cons
          · apply x_iteD (dx := .tup qs.reverse) (dy := .tup [.non])
            · (repeat' (first | exact x_c | exact x_g | exact xs_nil | exact c_no | exact di_nil | exact o_no | exact x_v rfl | apply xs_cons | apply x_tup | apply x_lst | apply x_bin | apply x_neg | apply x_nt | apply x_and | apply x_or | apply x_cmp | apply x_cmp2 | apply x_ix | apply x_sl | apply x_rv | apply x_call | apply x_bi | apply x_lens | apply x_lrg | apply x_lrg0 | apply x_isi | apply o_so | apply c_so | apply i_r1 | apply i_r2 | apply i_sq | apply x_mtW | apply di_cons | apply x_dic | apply x_nl | apply x_lc | apply x_lcf | (intro a ha; refine ⟨_, rfl, ?_, ?_⟩) | (intro a ha; refine ⟨_, rfl, ?_⟩) | exact allB | exact anyB | exact cW_eq (okD_r (by decide)) | exact cW_ne (okD_r (by decide)) | exact cW_lt | exact cW_gt | exact cW_le | exact cW_ge | exact cW_inS | exact cW_is | exact cW_isn | exact cW_isN | exact cW_isnN | exact lenT | exact intI | exact intB | exact absI | exact listT | exact listL | exact tupT | exact tupL | exact minI | exact maxI | exact strS | exact boolB | exact listScr | exact lenL | exact ixT0 | exact ixT1 | exact ixT2 | exact ixT3 | exact ixL0 | exact rfl | exact Nat.le_of_ble_eq_true rfl | exact fun hp => absurd hp fnt | exact fun hp => absurd hp tnf | refine imp_x ?_ | (intro (hp : (_ : Bool) = _)) | exact (false : Bool) | exact D.non | assumption))
            · intro _; exact x_rv (x_v rfl) rfl
            · intro _; (repeat' (first | exact x_c | exact x_g | exact xs_nil | exact c_no | exact di_nil | exact o_no | exact x_v rfl | apply xs_cons | apply x_tup | apply x_lst | apply x_bin | apply x_neg | apply x_nt | apply x_and | apply x_or | apply x_cmp | apply x_cmp2 | apply x_ix | apply x_sl | apply x_rv | apply x_call | apply x_bi | apply x_lens | apply x_lrg | apply x_lrg0 | apply x_isi | apply o_so | apply c_so | apply i_r1 | apply i_r2 | apply i_sq | apply x_mtW | apply di_cons | apply x_dic | apply x_nl | apply x_lc | apply x_lcf | (intro a ha; refine ⟨_, rfl, ?_, ?_⟩) | (intro a ha; refine ⟨_, rfl, ?_⟩) | exact allB | exact anyB | exact cW_eq (okD_r (by decide)) | exact cW_ne (okD_r (by decide)) | exact cW_lt | exact cW_gt | exact cW_le | exact cW_ge | exact cW_inS | exact cW_is | exact cW_isn | exact cW_isN | exact cW_isnN | exact lenT | exact intI | exact intB | exact absI | exact listT | exact listL | exact tupT | exact tupL | exact minI | exact maxI | exact strS | exact boolB | exact listScr | exact lenL | exact ixT0 | exact ixT1 | exact ixT2 | exact ixT3 | exact ixL0 | exact rfl | exact Nat.le_of_ble_eq_true rfl | exact fun hp => absurd hp fnt | exact fun hp => absurd hp tnf | refine imp_x ?_ | (intro (hp : (_ : Bool) = _)) | exact (false : Bool) | exact D.non | assumption))
          · exact xs_nil
        · rfl
      · rfl
      · rfl
      · rfl
    · rfl
    refine odd_loop F_are_questions 9 7 1 gQuestions (fun d st hd => are_questions_ok k d st hd) (.tup qs) _ _ _ g1 g2 ?_ (Nat.le_of_ble_eq_true rfl) (by decide) rfl rfl _ ⟨_, _, _, rfl, rfl⟩
    have hu4 := upN n h2 h1
    have gy : gKind (.str "yes") = false := rfl
    have gy1 : gKind (.tup [.str "yes", .int 1]) = false := by kernel_rfl
    have ge : gName (.str "") = false := by kernel_rfl
    have gA : gName (.str "A") = false := by kernel_rfl
    have sy : smStr "yes" = true := by decide +kernel
    have sA : smStr "A" = true := by decide +kernel
    have sz : smStr "zz" = true := by decide +kernel
    have sa : smStr "a" = true := by decide +kernel
    have ht : ∀ i, sms (qs.take i) = true := fun i => sms_all fun x hx => sms_mem g2 (List.mem_of_mem_take hx)
    have hdr : ∀ i, sms (qs.drop i) = true := fun i => sms_all fun x hx => sms_mem g2 (List.mem_of_mem_drop hx)
    have hrv : sms qs.reverse = true := sms_all fun x hx => sms_mem g2 (List.mem_reverse.mp hx)
    rw [List.forall_mem_append, List.forall_mem_append]
    refine ⟨⟨?_, ?_⟩, ?_⟩
    · intro d hd'
      obtain ⟨row, hrow, rfl⟩ := List.mem_map.mp hd'
      have key : sm row = true ∧ gQuestion row = false := by
        simp only [List.mem_append, List.mem_cons, List.not_mem_nil, or_false, or_assoc] at hrow
        rcases hrow with rfl | rfl | rfl | rfl | rfl | rfl | rfl | rfl | rfl | rfl | rfl | rfl | rfl
        all_goals first
          | (constructor
             · simp [sm, sms, n2, d2]; done
             · exact rfl)
          | (constructor
             · simp [sm, sms, n2, d2, sy]; done
             · exact gQ_kind gy1)
          | (constructor
             · simp [sm, sms, n2, d2, smA]; done
             · exact gQ_name ge)
          | (constructor
             · simp [sm, sms, n2, d2, sA]; done
             · exact gQ_name gA)
          | (constructor
             · simp [sm, sms, n5, d2]; done
             · exact gQ_name n4)
          | (constructor
             · simp [sm, sms, n2, d2]; done
             · exact gQ_name rfl)
          | (constructor
             · simp [sm, sms, n2, d2, sy]; done
             · exact gQ_kind gy)
      refine ⟨?_, gQs_bad (x := row) (by simp) key.2⟩
      show sms _ = true
      rw [sms_app, sms_app, ht, hdr]
      simp [sms, key.1]
    · simp only [List.forall_mem_cons]
      refine ⟨⟨g2, rfl⟩, ⟨?_, gQs_up ?_⟩, ⟨rfl, rfl⟩, ⟨rfl, rfl⟩, ⟨sa, rfl⟩, ⟨?_, gQs_up ?_⟩, fun d hd' => by cases hd'⟩
      · show sms _ = true
        rw [sms_app, g2, hdr]; rfl
      · rw [List.map_append, List.map_drop, h3, hqn, ← List.map_drop, ← List.map_append]
        exact hu4.2.1
      · show sms _ = true
        rw [sms_app, g2]
        simp [sms, sm, sy, sz]
      · rw [List.map_append, h3]
        exact hu4.2.2.1
    · simp only [List.forall_mem_cons]
      refine ⟨?_, fun d hd' => by cases hd'⟩
      by_cases hone : 1 < n
      · have e : (decide ((1 : Int) < (qs.length : Int))) = true := by simp; omega
        rw [e]
        refine ⟨hrv, gQs_up ?_⟩
        rw [List.map_reverse, h3, ← List.map_reverse]
        exact hu4.2.2.2 hone
      · have e : (decide ((1 : Int) < (qs.length : Int))) = false := by simp; omega
        rw [e]
        exact ⟨rfl, rfl⟩
end

/-! k02: all answers of a drawn question are answers by shape -/
section
variable {F : Nat}
def rowsN : Nat → List (List Nat)
  | 0 => [[]]
  | n + 1 => rowsN n ++ (rowsN n).map (· ++ [n])
def encR (r : List Nat) : D := .tup (r.map fun (j : Nat) => .int j)
theorem rowsN_len : ∀ n, (rowsN n).length = 2 ^ n
  | 0 => rfl
  | n + 1 => by simp [rowsN, rowsN_len n]; omega
theorem rowsN_mem : ∀ n, ∀ r ∈ rowsN n, r.Pairwise (· < ·) ∧ (∀ j ∈ r, j < n) ∧ r.length ≤ n
  | 0, r, h => by simp [rowsN] at h; subst h; simp
  | n + 1, r, h => by
    simp only [rowsN, List.mem_append, List.mem_map] at h
    rcases h with h | ⟨s, h, rfl⟩
    · obtain ⟨h1, h2, h3⟩ := rowsN_mem n r h
      exact ⟨h1, fun j hj => Nat.lt_succ_of_lt (h2 j hj), by omega⟩
    · obtain ⟨h1, h2, h3⟩ := rowsN_mem n s h
      refine ⟨List.pairwise_append.mpr ⟨h1, by simp, fun a ha b hb => by simp at hb; subst hb; exact h2 a ha⟩, fun j hj => ?_, by simp; omega⟩
      simp at hj
      rcases hj with hj | rfl
      · exact Nat.lt_succ_of_lt (h2 j hj)
      · omega
theorem rowsN_range : ∀ n l, l ≤ n → List.range l ∈ rowsN n
  | 0, l, h => by have : l = 0 := by omega
                  subst this; simp [rowsN]
  | n + 1, l, h => by
    simp only [rowsN, List.mem_append, List.mem_map]
    by_cases e : l = n + 1
    · subst e
      exact .inr ⟨List.range n, rowsN_range n n (Nat.le_refl _), by rw [List.range_succ]⟩
    · exact .inl (rowsN_range n l (by omega))
theorem rangeL_0 (n : Nat) : rangeL 0 n = (List.range n).map fun (i : Nat) => W.dat (.int (i : Int)) := by
  simp [rangeL]
theorem alike_ints : ∀ r s : List Nat, alikeDs (r.map fun (j : Nat) => D.int j) (s.map fun (j : Nat) => D.int j) = true
  | [], _ => by simp [alikeDs]
  | _ :: _, [] => by simp [alikeDs]
  | x :: r, y :: s => by simp [alikeDs, alikeD, alike_ints r s]
theorem depth_ints : ∀ r : List Nat, D.depths (r.map fun (j : Nat) => D.int j) = 0
  | [] => rfl
  | x :: r => by simp [D.depths, D.depth, depth_ints r]
theorem depth_rows : ∀ rs : List (List Nat), D.depths (rs.map encR) ≤ 1
  | [] => Nat.zero_le _
  | r :: rs => by
    have := depth_rows rs
    simp only [List.map_cons, D.depths, encR, D.depth, depth_ints]
    omega
theorem sort_rows (rs : List (List Nat)) : bW .sorted [.dat (.lst (rs.map encR))] = some (.dat (.lst (sortD (rs.map encR)))) := by
  have h1 : alikeAllD (rs.map encR) = true := by
    simp only [alikeAllD, List.all_map, List.all_eq_true, Function.comp, Bool.and_eq_true]
    exact fun r _ => ⟨rfl, fun s _ => by simp [encR, alikeD, alike_ints]⟩
  have h2 : sortOk (rs.map encR) = true := by
    simp only [sortOk, Bool.or_eq_true]
    left
    simp [List.all_map, encR]
  have h3 : Nat.ble (D.depths (rs.map encR)) 50 = true := Nat.ble_eq_true_of_le (by have := depth_rows rs; omega)
  have : bW .sorted [.dat (.lst (rs.map encR))] = if alikeAllD (rs.map encR) && sortOk (rs.map encR) && Nat.ble (D.depths (rs.map encR)) 50 then some (.dat (.lst (sortD (rs.map encR)))) else none := biW_sorted _
  rw [this, h1, h2, h3]
  rfl
theorem sortD_mem {xs : List D} {x : D} : x ∈ sortD xs ↔ x ∈ xs := by
  unfold sortD; exact List.mem_mergeSort
theorem sortD_len (xs : List D) : (sortD xs).length = xs.length := by
  unfold sortD; exact List.length_mergeSort _
def Ans (d : D) : Prop := gShape d = true ∧ sm d = true
/-- an int as a place -/
def natD : D → Nat
  | .int i => i.toNat
  | _ => 0
theorem pick_ok {ws : List D} (hnd : ws.Nodup) (hn : ws.all gName = true) (hs : sms ws = true) (h8 : ws.length ≤ 8) {r : List Nat} (hr : r ∈ rowsN ws.length) : Ans (.tup (r.map fun j => ws[j]?.getD .non)) := by
  obtain ⟨h1, h2, h3⟩ := rowsN_mem _ r hr
  have hj : ∀ j ∈ r, ∃ h : j < ws.length, ws[j]?.getD .non = ws[j] := fun j hj => ⟨h2 j hj, by rw [List.getElem?_eq_getElem (h2 j hj)]; rfl⟩
  have hm : ∀ x ∈ r.map fun j => ws[j]?.getD .non, x ∈ ws := fun x hx => by
    obtain ⟨j, hj', rfl⟩ := List.mem_map.mp hx
    obtain ⟨hlt, e⟩ := hj j hj'
    rw [e]; exact List.getElem_mem hlt
  have hw : gWords 0 8 (.tup (r.map fun j => ws[j]?.getD .non)) = true := by
    refine gWords_of (by simp) (by simp; omega) (List.all_eq_true.mpr fun x hx => List.all_eq_true.mp hn x (hm x hx)) ?_
    rw [List.nodup_iff_pairwise_ne, List.pairwise_map]
    refine List.Pairwise.imp_of_mem ?_ h1
    intro a b ha hb hab e
    obtain ⟨la, ea⟩ := hj a ha
    obtain ⟨lb, eb⟩ := hj b hb
    rw [ea, eb] at e
    have := (List.getElem_inj hnd).mp e
    omega
  refine ⟨?_, sms_all fun x hx => sms_mem hs (hm x hx)⟩
  simp [gShape, hw]
def AnsP (st : Store) (r : Res W) : Prop := ∃ as : List D, r = .ok (.dat (.lst as)) st ∧ 0 < as.length ∧ as.length < 100000 ∧ ∀ a ∈ as, Ans a
theorem law_answers_ok (k m : Nat) (hm : m ≤ 8) (q : D) (hq : Qst m q) (st : Store) : AnsP st (cF T F (k + 1) F__law_answers [.dat q] st) := by
  cases hq with
  | mk hn hd =>
    rename_i nm kd fr
    have fin : ∀ (C : Nat → List W → M W) (ρ : Env) (found : List D), ρ[3]?.join = some (.dat (.bl fr)) → ρ[4]?.join = some (.dat (.lst found)) → found.length ≤ 90000 → AnsP st (.ok (.dat (.lst ((if fr then [D.non] else []) ++ found))) st) →
        Go (fun r => AnsP st (leave false st.length r)) (eSs C F (.cons (.ret (.bin .Add (.ite (.v 3) (.lst (.cons (.c .non) .nil)) (.lst .nil)) (.v 4))) .nil) ρ st) := by
      intro C ρ found h3 h4 hl hP
      apply ss_ret
      · apply x_bin
        · exact x_iteD (dx := .lst [.non]) (dy := .lst []) (x_v h3) (fun _ => x_lst (xs_cons x_c xs_nil) rfl) (fun _ => x_lst xs_nil rfl)
        · exact x_v h4
        · rfl
        · rfl
        · show binD .Add (if fr then .lst [.non] else .lst []) _ = some (.lst ((if fr then [D.non] else []) ++ found))
          cases fr
          · exact addL (by unfold bigLine; simp; omega)
          · exact addL (by unfold bigLine; simp; omega)
      · rw [leave_eq rfl]
        exact hP
    have wrap : ∀ found : List D, 0 < found.length → found.length ≤ 90000 → (∀ a ∈ found, Ans a) → 0 < ((if fr then [D.non] else []) ++ found).length ∧ ((if fr then [D.non] else []) ++ found).length < 100000 ∧ ∀ a ∈ (if fr then [D.non] else []) ++ found, Ans a := by
      intro found h0 h1 h2
      cases fr
      · exact ⟨by simpa using h0, by simp; omega, by simpa using h2⟩
      · refine ⟨by simp, by simp; omega, fun a ha => ?_⟩
        simp at ha
        rcases ha with rfl | ha
        · exact ⟨rfl, rfl⟩
        · exact h2 a ha
    refine call_fd (P := AnsP st) rfl rfl ?_
    apply ss_asg
    · (repeat' (first | exact x_c | exact x_g | exact xs_nil | exact c_no | exact di_nil | exact o_no | exact x_v rfl | apply xs_cons | apply x_tup | apply x_lst | apply x_bin | apply x_neg | apply x_nt | apply x_and | apply x_or | apply x_cmp | apply x_cmp2 | apply x_ix | apply x_sl | apply x_rv | apply x_call | apply x_bi | apply x_lens | apply x_lrg | apply x_lrg0 | apply x_isi | apply o_so | apply c_so | apply i_r1 | apply i_r2 | apply i_sq | apply x_mtW | apply di_cons | apply x_dic | apply x_nl | apply x_lc | apply x_lcf | (intro a ha; refine ⟨_, rfl, ?_, ?_⟩) | (intro a ha; refine ⟨_, rfl, ?_⟩) | exact allB | exact anyB | exact cW_eq (okD_r (by decide)) | exact cW_ne (okD_r (by decide)) | exact cW_lt | exact cW_gt | exact cW_le | exact cW_ge | exact cW_inS | exact cW_is | exact cW_isn | exact cW_isN | exact cW_isnN | exact lenT | exact intI | exact intB | exact absI | exact listT | exact listL | exact tupT | exact tupL | exact minI | exact maxI | exact strS | exact boolB | exact listScr | exact lenL | exact ixT0 | exact ixT1 | exact ixT2 | exact ixT3 | exact ixL0 | exact rfl | exact Nat.le_of_ble_eq_true rfl | exact fun hp => absurd hp fnt | exact fun hp => absurd hp tnf | refine imp_x ?_ | (intro (hp : (_ : Bool) = _)) | exact (false : Bool) | exact D.non | assumption))
    · rfl
    cases hd with
    | yes =>
      refine ss_ifT (x_cmp (x_ix (x_v rfl) x_c rfl) x_c rfl) (by decide +kernel) ?_
      apply ss_asg
      · (repeat' (first | exact x_c | exact x_g | exact xs_nil | exact c_no | exact di_nil | exact o_no | exact x_v rfl | apply xs_cons | apply x_tup | apply x_lst | apply x_bin | apply x_neg | apply x_nt | apply x_and | apply x_or | apply x_cmp | apply x_cmp2 | apply x_ix | apply x_sl | apply x_rv | apply x_call | apply x_bi | apply x_lens | apply x_lrg | apply x_lrg0 | apply x_isi | apply o_so | apply c_so | apply i_r1 | apply i_r2 | apply i_sq | apply x_mtW | apply di_cons | apply x_dic | apply x_nl | apply x_lc | apply x_lcf | (intro a ha; refine ⟨_, rfl, ?_, ?_⟩) | (intro a ha; refine ⟨_, rfl, ?_⟩) | exact allB | exact anyB | exact cW_eq (okD_r (by decide)) | exact cW_ne (okD_r (by decide)) | exact cW_lt | exact cW_gt | exact cW_le | exact cW_ge | exact cW_inS | exact cW_is | exact cW_isn | exact cW_isN | exact cW_isnN | exact lenT | exact intI | exact intB | exact absI | exact listT | exact listL | exact tupT | exact tupL | exact minI | exact maxI | exact strS | exact boolB | exact listScr | exact lenL | exact ixT0 | exact ixT1 | exact ixT2 | exact ixT3 | exact ixL0 | exact rfl | exact Nat.le_of_ble_eq_true rfl | exact fun hp => absurd hp fnt | exact fun hp => absurd hp tnf | refine imp_x ?_ | (intro (hp : (_ : Bool) = _)) | exact (false : Bool) | exact D.non | assumption))
      · rfl
      refine fin _ _ [.bl false, .bl true] rfl rfl (by decide) ⟨_, rfl, wrap _ (by decide) (by decide) ?_⟩
      simp only [List.forall_mem_cons]
      exact ⟨⟨rfl, rfl⟩, ⟨rfl, rfl⟩, fun a h => by cases h⟩
    | one h =>
      rename_i ws
      refine ss_ifF (x_cmp (x_ix (x_v rfl) x_c rfl) x_c rfl) (by decide +kernel) ?_
      refine ss_ifT (x_cmp (x_ix (x_v rfl) x_c rfl) x_c rfl) (by decide +kernel) ?_
      apply ss_asg
      · (repeat' (first | exact x_c | exact x_g | exact xs_nil | exact c_no | exact di_nil | exact o_no | exact x_v rfl | apply xs_cons | apply x_tup | apply x_lst | apply x_bin | apply x_neg | apply x_nt | apply x_and | apply x_or | apply x_cmp | apply x_cmp2 | apply x_ix | apply x_sl | apply x_rv | apply x_call | apply x_bi | apply x_lens | apply x_lrg | apply x_lrg0 | apply x_isi | apply o_so | apply c_so | apply i_r1 | apply i_r2 | apply i_sq | apply x_mtW | apply di_cons | apply x_dic | apply x_nl | apply x_lc | apply x_lcf | (intro a ha; refine ⟨_, rfl, ?_, ?_⟩) | (intro a ha; refine ⟨_, rfl, ?_⟩) | exact allB | exact anyB | exact cW_eq (okD_r (by decide)) | exact cW_ne (okD_r (by decide)) | exact cW_lt | exact cW_gt | exact cW_le | exact cW_ge | exact cW_inS | exact cW_is | exact cW_isn | exact cW_isN | exact cW_isnN | exact lenT | exact intI | exact intB | exact absI | exact listT | exact listL | exact tupT | exact tupL | exact minI | exact maxI | exact strS | exact boolB | exact listScr | exact lenL | exact ixT0 | exact ixT1 | exact ixT2 | exact ixT3 | exact ixL0 | exact rfl | exact Nat.le_of_ble_eq_true rfl | exact fun hp => absurd hp fnt | exact fun hp => absurd hp tnf | refine imp_x ?_ | (intro (hp : (_ : Bool) = _)) | exact (false : Bool) | exact D.non | assumption))
      · rfl
      have := h.2.1
      refine fin _ _ ws rfl rfl (by omega) ⟨_, rfl, wrap _ h.1 (by omega) fun a ha => ⟨?_, sms_mem h.sm ha⟩⟩
      simp [gShape, List.all_eq_true.mp h.names a ha]
    | num h1 h2 h3 =>
      rename_i l u
      refine ss_ifF (x_cmp (x_ix (x_v rfl) x_c rfl) x_c rfl) (by decide +kernel) ?_
      refine ss_ifF (x_cmp (x_ix (x_v rfl) x_c rfl) x_c rfl) (by decide +kernel) ?_
      refine ss_ifT (x_cmp (x_ix (x_v rfl) x_c rfl) x_c rfl) (by decide +kernel) ?_
      have hrg : rgW (.dat (.int l)) (.dat (.int (u + 1))) = some (.dat (.lst ((List.range (u + 1 - l).toNat).map fun (k : Nat) => D.int (l + k)))) := by
        show (if okR l && okR (u + 1) && Nat.ble (u + 1 - l).toNat 16777216 then _ else none) = _
        rw [if_pos]
        simp only [okR, Bool.and_eq_true, decide_eq_true_eq]
        exact ⟨⟨⟨by omega, by omega⟩, by omega, by omega⟩, Nat.ble_eq_true_of_le (by omega)⟩
      apply ss_asg
      · (repeat' (first | exact hrg | exact x_c | exact x_g | exact xs_nil | exact c_no | exact di_nil | exact o_no | exact x_v rfl | apply xs_cons | apply x_tup | apply x_lst | apply x_bin | apply x_neg | apply x_nt | apply x_and | apply x_or | apply x_cmp | apply x_cmp2 | apply x_ix | apply x_sl | apply x_rv | apply x_call | apply x_bi | apply x_lens | apply x_lrg | apply x_lrg0 | apply x_isi | apply o_so | apply c_so | apply i_r1 | apply i_r2 | apply i_sq | apply x_mtW | apply di_cons | apply x_dic | apply x_nl | apply x_lc | apply x_lcf | (intro a ha; refine ⟨_, rfl, ?_, ?_⟩) | (intro a ha; refine ⟨_, rfl, ?_⟩) | exact allB | exact anyB | exact cW_eq (okD_r (by decide)) | exact cW_ne (okD_r (by decide)) | exact cW_lt | exact cW_gt | exact cW_le | exact cW_ge | exact cW_inS | exact cW_is | exact cW_isn | exact cW_isN | exact cW_isnN | exact lenT | exact intI | exact intB | exact absI | exact listT | exact listL | exact tupT | exact tupL | exact minI | exact maxI | exact strS | exact boolB | exact listScr | exact lenL | exact ixT0 | exact ixT1 | exact ixT2 | exact ixT3 | exact ixL0 | exact rfl | exact Nat.le_of_ble_eq_true rfl | exact fun hp => absurd hp fnt | exact fun hp => absurd hp tnf | refine imp_x ?_ | (intro (hp : (_ : Bool) = _)) | exact (false : Bool) | exact D.non | assumption))
      · rfl
      refine fin _ _ ((List.range (u + 1 - l).toNat).map fun (k : Nat) => D.int (l + k)) rfl rfl (by simp; omega) ⟨_, rfl, wrap _ (by simp; omega) (by simp; omega) fun a ha => ?_⟩
      obtain ⟨i, hi, rfl⟩ := List.mem_map.mp ha
      have := List.mem_range.mp hi
      refine ⟨?_, rfl⟩
      have : gWhole (-9999) 9999 (.int (l + (i : Int))) = true := by simp [gWhole]; omega
      simp [gShape, this]
    | some h h1 h2 =>
      rename_i ws l u
      have hwl := h.2.1
      refine ss_ifF (x_cmp (x_ix (x_v rfl) x_c rfl) x_c rfl) (by decide +kernel) ?_
      refine ss_ifF (x_cmp (x_ix (x_v rfl) x_c rfl) x_c rfl) (by decide +kernel) ?_
      refine ss_ifF (x_cmp (x_ix (x_v rfl) x_c rfl) x_c rfl) (by decide +kernel) ?_
      apply ss_asg
      · (repeat' (first | exact x_c | exact x_g | exact xs_nil | exact c_no | exact di_nil | exact o_no | exact x_v rfl | apply xs_cons | apply x_tup | apply x_lst | apply x_bin | apply x_neg | apply x_nt | apply x_and | apply x_or | apply x_cmp | apply x_cmp2 | apply x_ix | apply x_sl | apply x_rv | apply x_call | apply x_bi | apply x_lens | apply x_lrg | apply x_lrg0 | apply x_isi | apply o_so | apply c_so | apply i_r1 | apply i_r2 | apply i_sq | apply x_mtW | apply di_cons | apply x_dic | apply x_nl | apply x_lc | apply x_lcf | (intro a ha; refine ⟨_, rfl, ?_, ?_⟩) | (intro a ha; refine ⟨_, rfl, ?_⟩) | exact allB | exact anyB | exact cW_eq (okD_r (by decide)) | exact cW_ne (okD_r (by decide)) | exact cW_lt | exact cW_gt | exact cW_le | exact cW_ge | exact cW_inS | exact cW_is | exact cW_isn | exact cW_isN | exact cW_isnN | exact lenT | exact intI | exact intB | exact absI | exact listT | exact listL | exact tupT | exact tupL | exact minI | exact maxI | exact strS | exact boolB | exact listScr | exact lenL | exact ixT0 | exact ixT1 | exact ixT2 | exact ixT3 | exact ixL0 | exact rfl | exact Nat.le_of_ble_eq_true rfl | exact fun hp => absurd hp fnt | exact fun hp => absurd hp tnf | refine imp_x ?_ | (intro (hp : (_ : Bool) = _)) | exact (false : Bool) | exact D.non | assumption))
      · rfl
      have h256 : ∀ i ≤ 8, 2 ^ i ≤ 256 := by decide
      have hb' : bigLine = 16777216 := rfl
      have hrl : ∀ i ≤ 8, ((rowsN i).map encR).length ≤ 256 := fun i hi => by rw [List.length_map, rowsN_len]; exact h256 i hi
      refine ss_forI (st1 := st) (as := List.range ws.length) (k := fun (i : Nat) => W.dat (.int (i : Int))) (n := none) (I := fun as ρ' st' => st' = st ∧ ∃ i o, i + as.length = ws.length ∧ as = List.range' i as.length ∧ ρ' = [some (.dat (.tup [.str nm, .tup [.str "some", .tup ws, .int l, .int u], .bl fr])), some (.dat (.str nm)), some (.dat (.tup [.str "some", .tup ws, .int l, .int u])), some (.dat (.bl fr)), none, some (.dat (.lst ((rowsN i).map encR))), o, none]) ?_ ⟨rfl, 0, none, by simp, by simp [List.range_eq_range'], rfl⟩ ?_ ?_
      · rw [← rangeL_0]
        exact i_r1 (j := (ws.length : Int)) (x_bi (xs_cons (x_ix (x_v rfl) x_c rfl) xs_nil) lenT) (by simp [okR]; omega)
      · rintro j as ρ' st' ⟨rfl, i, o, hi, ha, rfl⟩
        simp only [List.length_cons] at hi ha
        rw [List.range'_succ] at ha
        injection ha with ha1 ha2
        subst ha1
        have hr1 := hrl j (by omega)
        refine ⟨_, rfl, ?_⟩
        apply ss_asg
        · apply x_bin
          · exact x_v rfl
          · refine x_lc (as := rowsN j) (k := fun r => W.dat (encR r)) (g := fun r => encR (r ++ [j])) (i_sq (x := .dat (.lst ((rowsN j).map encR))) (x_v rfl) (show some (((rowsN j).map encR).map W.dat) = _ by rw [List.map_map]; rfl)) (by rw [rowsN_len]; have := h256 j (by omega); omega) rfl fun r hr => ⟨_, rfl, ?_⟩
            have := (rowsN_mem j r hr).2.2
            refine x_bin (x_v rfl) (x_tup (xs_cons (x_v rfl) xs_nil) rfl) rfl rfl ?_
            show binD .Add (.tup (r.map fun (j : Nat) => D.int j)) (.tup [.int j]) = _
            rw [addT (by simp; omega)]
            simp [encR]
          · rfl
          · rfl
          · exact addL (by have h9 := hrl j (by omega); simp only [List.length_map] at h9 ⊢; omega)
        · rfl
        refine ss_nil (.nx ⟨rfl, j + 1, some (.dat (.int (j : Int))), by omega, ha2, ?_⟩ rfl)
        simp [rowsN, List.map_append, Function.comp_def]
      · rintro ρ' st' ⟨rfl, i, o, hi, _, rfl⟩
        simp only [List.length_nil, Nat.add_zero] at hi
        subst hi
        have hsl : (sortD ((rowsN ws.length).map encR)).length ≤ 256 := by rw [sortD_len]; exact hrl _ (by omega)
        have hsm : ∀ d ∈ sortD ((rowsN ws.length).map encR), ∃ r ∈ rowsN ws.length, d = encR r := fun d hd => by
          obtain ⟨r, hr, rfl⟩ := List.mem_map.mp (sortD_mem.mp hd)
          exact ⟨r, hr, rfl⟩
        apply ss_asg
        · refine x_lcf (as := sortD ((rowsN ws.length).map encR)) (k := .dat) (q := fun d => match d with | .tup js => decide ((l : Int) ≤ js.length) && decide ((js.length : Int) ≤ u) | _ => false) (g := fun d => match d with | .tup js => .tup (js.map fun j => ws[natD j]?.getD .non) | _ => .non) (i_sq (x := .dat (.lst _)) (x_bi (xs_cons (x_v rfl) xs_nil) (sort_rows _)) rfl) (by omega) rfl fun d hd => ?_
          obtain ⟨r, hr, rfl⟩ := hsm d hd
          obtain ⟨r1, r2, r3⟩ := rowsN_mem _ r hr
          refine ⟨_, rfl, ?_, fun _ => ?_⟩
          · have := x_cmp2 (C := cF T F k) (op := .LtE) (op' := .LtE) (a := .ix (.v 2) (.c (.int 2))) (b := .bi .len (.cons (.v 7) .nil)) (c := .ix (.v 2) (.c (.int 3))) (ρ := [some (.dat (.tup [.str nm, .tup [.str "some", .tup ws, .int l, .int u], .bl fr])), some (.dat (.str nm)), some (.dat (.tup [.str "some", .tup ws, .int l, .int u])), some (.dat (.bl fr)), none, some (.dat (.lst ((rowsN ws.length).map encR))), o, some (.dat (encR r))]) (st := st') (x_ix (x_v rfl) x_c rfl) (x_bi (xs_cons (x_v rfl) xs_nil) lenT) cW_le (x_ix (x_v rfl) x_c rfl) cW_le
            rw [nlt, nlt] at this
            exact this
          · have := x_bi (C := cF T F k) (bi := .tuple) (es := .cons (.lc (.ix (.ix (.v 2) (.c (.int 1))) (.v 6)) (.n 6) (.sq (.v 7)) .no [6]) .nil) (ρ := [some (.dat (.tup [.str nm, .tup [.str "some", .tup ws, .int l, .int u], .bl fr])), some (.dat (.str nm)), some (.dat (.tup [.str "some", .tup ws, .int l, .int u])), some (.dat (.bl fr)), none, some (.dat (.lst ((rowsN ws.length).map encR))), o, some (.dat (encR r))]) (st := st') (st1 := st') (w := .dat (.tup (((r.map fun (j : Nat) => D.int j)).map fun j => ws[natD j]?.getD .non))) (xs_cons (x_lc (as := r.map fun (j : Nat) => D.int j) (k := .dat) (g := fun j => ws[natD j]?.getD .non) (i_sq (x := .dat (encR r)) (x_v rfl) rfl) (by simp; omega) rfl fun j hj => ⟨_, rfl, ?_⟩) xs_nil) tupL
            · exact this
            · obtain ⟨i, hi, rfl⟩ := List.mem_map.mp hj
              have hlt := r2 i hi
              refine x_ix (x_ix (x_v rfl) x_c rfl) (x_v rfl) (ixT (atN_nat hlt) ?_)
              show ws[i]? = some (ws[i]?.getD .non)
              rw [List.getElem?_eq_getElem hlt]; rfl
        · rfl
        refine fin _ _ _ rfl rfl ?_ ⟨_, rfl, wrap _ ?_ ?_ ?_⟩
        · rw [List.length_map]
          have := List.length_filter_le (fun d => match d with | D.tup js => decide ((l : Int) ≤ js.length) && decide ((js.length : Int) ≤ u) | _ => false) (sortD ((rowsN ws.length).map encR))
          omega
        · refine List.length_pos_of_mem (a := .tup (((List.range l).map fun (j : Nat) => D.int j).map fun j => ws[natD j]?.getD .non)) ?_
          refine List.mem_map.mpr ⟨encR (List.range l), List.mem_filter.mpr ⟨sortD_mem.mpr (List.mem_map_of_mem (rowsN_range _ _ (by omega))), ?_⟩, rfl⟩
          simp [encR]; omega
        · rw [List.length_map]
          have := List.length_filter_le (fun d => match d with | D.tup js => decide ((l : Int) ≤ js.length) && decide ((js.length : Int) ≤ u) | _ => false) (sortD ((rowsN ws.length).map encR))
          omega
        · intro a ha
          obtain ⟨d, hd, rfl⟩ := List.mem_map.mp ha
          obtain ⟨r, hr, rfl⟩ := hsm d (List.mem_filter.mp hd).1
          have := pick_ok h.2.2.1 h.names h.sm (by omega) hr
          simp only [encR, List.map_map, Function.comp_def, natD, Int.toNat_natCast]
          exact this
end

/-! k02: what was drawn to be said -/
section
variable {F : Nat}
abbrev Pl := Str × List Str
def ck (s : Str) : List Nat := s.cps.toList
def keyP (p : Pl) : List (List Nat) := ck p.1 :: p.2.map ck
def encP (p : Pl) : D := .tup [.str p.1, .tup (p.2.map .str)]
theorem ck_inj {a b : Str} (h : ck a = ck b) : a = b := by
  cases a; cases b
  simp only [ck] at h
  congr 1
  exact Array.toList_inj.mp h
theorem map_ck_inj : ∀ {a b : List Str}, a.map ck = b.map ck → a = b
  | [], [], _ => rfl
  | [], _ :: _, h => by simp at h
  | _ :: _, [], h => by simp at h
  | x :: a, y :: b, h => by
    simp only [List.map_cons, List.cons.injEq] at h
    rw [ck_inj h.1, map_ck_inj h.2]
theorem keyP_inj {a b : Pl} (h : keyP a = keyP b) : a = b := by
  simp only [keyP, List.cons.injEq] at h
  exact Prod.ext (ck_inj h.1) (map_ck_inj h.2)
theorem eqDs_str : ∀ a b : List Str, eqDs (a.map .str) (b.map .str) = decide (a = b)
  | [], [] => by simp [eqDs]
  | [], _ :: _ => by simp [eqDs]
  | _ :: _, [] => by simp [eqDs]
  | x :: a, y :: b => by
    simp only [List.map_cons, eqDs, eqD, eqDs_str a b, List.cons.injEq]
    by_cases h : x = y <;> simp [h]
theorem eqD_encP (a b : Pl) : eqD (encP a) (encP b) = decide (a = b) := by
  simp only [encP, eqD, eqDs, eqDs_str, Bool.and_true]
  by_cases h1 : a.1 = b.1
  · by_cases h2 : a.2 = b.2
    · have : a = b := Prod.ext h1 h2
      simp [this]
    · have : a ≠ b := fun e => h2 (by rw [e])
      simp [h1, h2, this]
  · have : a ≠ b := fun e => h1 (by rw [e])
    simp [h1, this]
theorem ltDs_str : ∀ a b : List Str, ltDs (a.map .str) (b.map .str) = decide (a.map ck < b.map ck)
  | [], [] => by simp [ltDs]
  | [], _ :: _ => by simp [ltDs]
  | _ :: _, [] => by simp [ltDs]
  | x :: a, y :: b => by
    simp only [List.map_cons, ltDs, eqD, ltD, ltDs_str a b, List.cons_lt_cons_iff]
    by_cases h : x = y
    · subst h
      simp [List.lt_irrefl]
    · have : ck x ≠ ck y := fun e => h (ck_inj e)
      have hc : x.cps ≠ y.cps := fun e => this (by unfold ck; rw [e])
      simp [h, ck, hc]
theorem ltD_encP (a b : Pl) : ltD (encP a) (encP b) = decide (keyP a < keyP b) := by
  simp only [encP, ltD, ltDs, eqD, eqDs_str, ltDs_str, keyP, List.cons_lt_cons_iff]
  by_cases h : a.1 = b.1
  · by_cases h2 : a.2 = b.2
    · simp [h, h2, List.lt_irrefl]
    · simp [h, h2, List.lt_irrefl]
  · have : ck a.1 ≠ ck b.1 := fun e => h (ck_inj e)
    have hc : a.1.cps ≠ b.1.cps := fun e => this (by unfold ck; rw [e])
    simp [h, ck, hc]
def leP (a b : Pl) : Bool := !decide (keyP b < keyP a)
theorem leP_total (a b : Pl) : (leP a b || leP b a) = true := by
  unfold leP
  by_cases h : keyP b < keyP a
  · have := List.lt_asymm h
    simp [this]
  · simp [h]
theorem leP_trans (a b c : Pl) (h1 : leP a b = true) (h2 : leP b c = true) : leP a c = true := by
  unfold leP at *
  simp only [Bool.not_eq_true', decide_eq_false_iff_not] at *
  intro h
  have h1' : keyP a ≤ keyP b := h1
  have h2' : keyP b ≤ keyP c := h2
  exact List.le_trans h1' h2' h
theorem sort_encP (l : List Pl) : sortD (l.map encP) = (l.mergeSort leP).map encP := by
  unfold sortD
  refine (List.map_mergeSort ?_).symm
  intro a _ b _
  simp only [leP, ltD_encP]
theorem sorted_P {l : List Pl} (h : l.Nodup) : (l.mergeSort leP).Pairwise fun a b => keyP a < keyP b := by
  have h1 := List.pairwise_mergeSort (le := leP) leP_trans leP_total l
  have h2 : (l.mergeSort leP).Nodup := (List.mergeSort_perm l leP).nodup_iff.mpr h
  rw [List.nodup_iff_pairwise_ne] at h2
  refine (h1.and h2).imp ?_
  rintro a b ⟨h3, h4⟩
  unfold leP at h3
  simp only [Bool.not_eq_true', decide_eq_false_iff_not] at h3
  by_cases h5 : keyP a < keyP b
  · exact h5
  · exact absurd (keyP_inj (List.le_antisymm (show keyP a ≤ keyP b from h3) (show keyP b ≤ keyP a from h5))) h4
theorem pairs_pw {α : Type} {R : α → α → Prop} {xs : List α} (h : xs.Pairwise R) : ∀ p ∈ pairs xs, R p.1 p.2 := by
  induction xs with
  | nil => intro p hp; simp [pairs] at hp
  | cons x xs ih =>
    intro p hp
    cases xs with
    | nil => simp [pairs] at hp
    | cons y ys =>
      have e : pairs (x :: y :: ys) = (x, y) :: pairs (y :: ys) := by simp [pairs]
      rw [e] at hp
      rcases List.mem_cons.mp hp with rfl | hp
      · exact (List.pairwise_cons.mp h).1 y (by simp)
      · exact ih (List.pairwise_cons.mp h).2 p hp
/-- pairs of a dict of places -/
def encKv (l : List (Pl × D)) : List (D × D) := l.map fun x => (encP x.1, x.2)
def putP (l : List (Pl × D)) (p : Pl) (v : D) : List (Pl × D) := if l.any (fun x => decide (x.1 = p)) then l.map (fun x => if x.1 = p then (x.1, v) else x) else l ++ [(p, v)]
theorem put_enc (l : List (Pl × D)) (p : Pl) (v : D) : putKey (encKv l) (encP p) v = encKv (putP l p v) := by
  unfold putKey putP encKv hasKey
  simp only [List.any_map, Function.comp_def, eqD_encP]
  split
  · simp only [List.map_map]
    refine List.map_congr_left fun x _ => ?_
    simp only [Function.comp, eqD_encP]
    by_cases h : x.1 = p <;> simp [h]
  · simp
theorem putP_keys (l : List (Pl × D)) (p : Pl) (v : D) : (putP l p v).map (·.1) = if p ∈ l.map (·.1) then l.map (·.1) else l.map (·.1) ++ [p] := by
  unfold putP
  have e : (l.any fun x => decide (x.1 = p)) = true ↔ p ∈ l.map (·.1) := by
    simp only [List.any_eq_true, decide_eq_true_eq, List.mem_map]
  by_cases h : p ∈ l.map (·.1)
  · rw [if_pos (e.mpr h), if_pos h, List.map_map]
    refine List.map_congr_left fun x _ => ?_
    simp only [Function.comp]
    split <;> rfl
  · rw [if_neg (fun z => h (e.mp z)), if_neg h]
    simp
theorem putP_nodup {l : List (Pl × D)} {p : Pl} {v : D} (h : (l.map (·.1)).Nodup) : ((putP l p v).map (·.1)).Nodup := by
  rw [putP_keys]
  split
  · exact h
  · rename_i hn
    rw [List.nodup_append]
    exact ⟨h, by simp, fun a ha b hb e => by simp at hb; subst hb; subst e; exact hn ha⟩
theorem putP_all {l : List (Pl × D)} {p : Pl} {v : D} {Q : Pl → D → Prop} (h : ∀ x ∈ l, Q x.1 x.2) (hp : Q p v) : ∀ x ∈ putP l p v, Q x.1 x.2 := by
  unfold putP
  split
  · intro x hx
    obtain ⟨y, hy, rfl⟩ := List.mem_map.mp hx
    by_cases e : y.1 = p
    · rw [if_pos e]; rw [e]; exact hp
    · rw [if_neg e]; exact h y hy
  · intro x hx
    rcases List.mem_append.mp hx with hx | hx
    · exact h x hx
    · simp at hx; subst hx; exact hp
theorem putP_len (l : List (Pl × D)) (p : Pl) (v : D) : (putP l p v).length ≤ l.length + 1 := by
  unfold putP
  split <;> simp
theorem get_enc {l : List (Pl × D)} {p : Pl} {Q : Pl → D → Prop} (h : ∀ x ∈ l, Q x.1 x.2) (hp : p ∈ l.map (·.1)) : ∃ v, getKey (encKv l) (encP p) = some v ∧ Q p v := by
  induction l with
  | nil => simp at hp
  | cons x l ih =>
    unfold getKey encKv
    simp only [List.map_cons, List.find?_cons, eqD_encP]
    by_cases e : x.1 = p
    · rw [decide_eq_true e]
      exact ⟨x.2, rfl, e ▸ h x (by simp)⟩
    · rw [decide_eq_false e]
      have hp' : p ∈ l.map (·.1) := by
        simp only [List.map_cons, List.mem_cons] at hp
        rcases hp with hp | hp
        · exact absurd hp.symm e
        · exact hp
      exact ih (fun y hy => h y (by simp [hy])) hp'
theorem areKeys_str : ∀ a : List Str, areKeys (a.map .str) = true
  | [] => rfl
  | x :: a => by simp [areKeys, isKey, areKeys_str a]
theorem isTup_enc (p : Pl) : isTupK (encP p) = true := by
  simp only [encP, isTupK, areKeys, isKey, areKeys_str, D.depths, D.depth, depth_strs]
  rfl
def threeS : List Str := ["ant", "bee", "cat"]
def zS : List Str := ["a", "z9", "abcdefghijkl"]
/-- a drawn place -/
def PlOk (p : Pl) : Prop := (p.1 ∈ fiveS ∨ p.1 ∈ zS) ∧ p.2.length ≤ 2 ∧ ∀ w ∈ p.2, w ∈ threeS
theorem threeN : ∀ n ∈ threeS, gName (.str n) = true ∧ smStr n = true := by
  have : (threeS.all fun n => gName (.str n) && smStr n) = true := by kernel_rfl
  intro n hn
  simpa using List.all_eq_true.mp this n hn
theorem zN : ∀ n ∈ zS, gName (.str n) = true ∧ smStr n = true := by
  have : (zS.all fun n => gName (.str n) && smStr n) = true := by kernel_rfl
  intro n hn
  simpa using List.all_eq_true.mp this n hn
theorem PlOk.good {p : Pl} (h : PlOk p) : gPlace (encP p) = true ∧ Ev.sm (encP p) = true := by
  obtain ⟨h1, h2, h3⟩ := h
  have hn : gName (.str p.1) = true ∧ smStr p.1 = true := by
    rcases h1 with h1 | h1
    · exact ⟨(fiveN _ h1).1, (fiveN _ h1).2.1⟩
    · exact zN _ h1
  refine ⟨?_, ?_⟩
  · simp only [encP, gPlace, hn.1, Bool.true_and, Bool.and_eq_true, decide_eq_true_eq, List.length_map, List.all_map, List.all_eq_true, Function.comp]
    exact ⟨h2, fun w hw => (threeN w (h3 w hw)).1⟩
  · simp only [encP, Ev.sm, sms, hn.2, Bool.true_and, Bool.and_true]
    refine sms_all fun x hx => ?_
    obtain ⟨w, hw, rfl⟩ := List.mem_map.mp hx
    exact (threeN w (h3 w hw)).2
def encS (l : List (Pl × D)) : List D := l.map fun x => .tup [encP x.1, x.2]
/-- drawn things said: all in order -/
def Said (m : Nat) (d : D) : Prop := ∃ l : List (Pl × D), d = .tup (encS l) ∧ l.length ≤ m ∧ l.Pairwise (fun a b => keyP a.1 < keyP b.1) ∧ ∀ x ∈ l, PlOk x.1 ∧ Ans x.2
theorem gS_eq (xs : List D) : gSaid (.tup xs) = (decide (xs.length ≤ 200) && xs.all gPair && (pairs xs).all fun p => ltPl p.1 p.2) := rfl
theorem said_good {l : List (Pl × D)} (h0 : l.length ≤ 200) (h1 : l.Pairwise (fun a b => keyP a.1 < keyP b.1)) (h2 : ∀ x ∈ l, PlOk x.1 ∧ Ans x.2) : gSaid (.tup (encS l)) = true ∧ sms (encS l) = true := by
  refine ⟨?_, sms_all fun x hx => ?_⟩
  · rw [gS_eq]
    simp only [Bool.and_eq_true, decide_eq_true_eq]
    refine ⟨⟨by simpa [encS] using h0, List.all_eq_true.mpr fun x hx => ?_⟩, List.all_eq_true.mpr fun p hp => ?_⟩
    · obtain ⟨y, hy, rfl⟩ := List.mem_map.mp hx
      simp [gPair, (h2 y hy).1.good.1, (h2 y hy).2.1]
    · unfold encS at hp
      rw [pairs_map] at hp
      obtain ⟨q, hq, rfl⟩ := List.mem_map.mp hp
      have := pairs_pw h1 q hq
      simp only [ltPl, ltD_encP]
      simpa using this
  · obtain ⟨y, hy, rfl⟩ := List.mem_map.mp hx
    simp [sm, sms, (h2 y hy).1.good.2, (h2 y hy).2.2]
end

section
variable {F : Nat}
theorem some_okT (k : Nat) (xs : List D) (h0 : 0 < xs.length) (h1 : xs.length < 1000000) : Dr F (k + 2) F__law_some [.tup xs] (· ∈ xs) := by
  refine Dr.go rfl rfl fun a b => ?_
  obtain ⟨a', b', _, e, r, rfl, hr⟩ := (roll_ok (F := F) k xs.length (by omega) (by omega)).use (Nat.le_refl _) a b []
  have hr' : r < xs.length := by omega
  apply ss_ret
  · (repeat' (first | exact e | exact ixT (atN_nat hr') (List.getElem?_eq_getElem hr') | exact x_c | exact x_g | exact xs_nil | exact c_no | exact di_nil | exact o_no | exact x_v rfl | apply xs_cons | apply x_tup | apply x_lst | apply x_bin | apply x_neg | apply x_nt | apply x_and | apply x_or | apply x_cmp | apply x_cmp2 | apply x_ix | apply x_sl | apply x_rv | apply x_call | apply x_bi | apply x_lens | apply x_lrg | apply x_lrg0 | apply x_isi | apply o_so | apply c_so | apply i_r1 | apply i_r2 | apply i_sq | apply x_mtW | apply di_cons | apply x_dic | apply x_nl | apply x_lc | apply x_lcf | (intro a ha; refine ⟨_, rfl, ?_, ?_⟩) | (intro a ha; refine ⟨_, rfl, ?_⟩) | exact allB | exact anyB | exact cW_eq (okD_r (by decide)) | exact cW_ne (okD_r (by decide)) | exact cW_lt | exact cW_gt | exact cW_le | exact cW_ge | exact cW_inS | exact cW_is | exact cW_isn | exact cW_isN | exact cW_isnN | exact lenT | exact intI | exact intB | exact absI | exact listT | exact listL | exact tupT | exact tupL | exact minI | exact maxI | exact strS | exact boolB | exact listScr | exact lenL | exact ixT0 | exact ixT1 | exact ixT2 | exact ixT3 | exact ixL0 | exact rfl | exact Nat.le_of_ble_eq_true rfl | exact fun hp => absurd hp fnt | exact fun hp => absurd hp tnf | refine imp_x ?_ | (intro (hp : (_ : Bool) = _)) | exact (false : Bool) | exact D.non | assumption))
  · exact ⟨_, _, _, rfl, List.getElem_mem hr'⟩
/-- drawn words -/
theorem words_lc (k i n : Nat) (xsS : List Str) (L e : Ex) (ρ : Env) (a b : Int) (rs st0 : Store) (h0 : 0 < xsS.length) (h1 : xsS.length < 1000000) (hi : i < ρ.length) (hi0 : i ≠ 0) (hρ : ρ[0]?.join = some (.ref 0)) (hn : n ≤ 100)
    (hL : ∀ ρ st, eX (cF T F (k + 2)) L ρ st = .ok (.dat (.lst (xsS.map .str))) st) (he : eX (cF T F (k + 2)) e ρ st0 = .ok (.dat (.int n)) (Cup a b :: rs)) :
    ∃ (a' b' : Int) (us : List Str), eX (cF T F (k + 2)) (.lc (.call F__law_some (.cons (.v 0) (.cons L .nil))) (.n i) (.r1 e) .no [i]) ρ st0 = .ok (.dat (.lst (us.map .str))) (Cup a' b' :: rs) ∧ us.length = n ∧ ∀ u ∈ us, u ∈ xsS := by
  have hb' : bigLine = 16777216 := rfl
  obtain ⟨ds, st', e1, a', b', us, rfl, rfl, h3, h4⟩ := x_lcI (C := cF T F (k + 2)) (e := .call F__law_some (.cons (.v 0) (.cons L .nil))) (p := .n i) (o := .no) (own := [i]) (ρ := ρ) (st := st0) (st1 := Cup a b :: rs) (it := .r1 e) (ws := rangeL 0 n)
    (I := fun ws acc st => ∃ (a b : Int) (us : List Str), st = Cup a b :: rs ∧ acc = us.map .str ∧ (∀ u ∈ us, u ∈ xsS) ∧ us.length + ws.length = n)
    (i_r1 he (by simp [okR]; omega)) (by simp [rangeL]; omega) ⟨a, b, [], rfl, rfl, by simp, by simp [rangeL]⟩ (by
      rintro w ws acc st ⟨a, b, us, rfl, rfl, h3, h4⟩
      obtain ⟨a2, b2, d, e2, hd⟩ := (some_ok (F := F) k (xsS.map .str) (by simpa using h0) (by simpa using h1)).use (Nat.le_refl _) a b rs
      obtain ⟨u, hu, rfl⟩ := List.mem_map.mp hd
      refine ⟨some (.str u), Cup a2 b2 :: rs, ?_, a2, b2, us ++ [u], rfl, by simp, ?_, by simp at h4 ⊢; omega⟩
      · refine lcB_no rfl ?_
        refine x_call (xs_cons (x_v ?_) (xs_cons (hL _ _) xs_nil)) e2
        rw [List.getElem?_set_ne hi0]
        show (((ρ.set i none))[0]?).join = _
        rw [List.getElem?_set_ne hi0]; exact hρ
      · intro v hv
        rcases List.mem_append.mp hv with hv | hv
        · exact h3 v hv
        · simp at hv; subst hv; exact hu)
  exact ⟨a', b', us, e1, by simpa using h4, h3⟩
theorem alike_P (a b : Pl) : alikeD (encP a) (encP b) = true := by
  simp [encP, alikeD, alikeDs, alike_strs]
theorem depth_P : ∀ l : List Pl, D.depths (l.map encP) ≤ 2
  | [] => Nat.zero_le _
  | p :: l => by
    have := depth_P l
    simp only [List.map_cons, D.depths, encP, D.depth, depth_strs]
    omega
theorem sort_kv (l : List (Pl × D)) : bW .sorted [.fdi true (encKv l)] = some (.dat (.lst ((((l.map (·.1)).mergeSort leP)).map encP))) := by
  have e : (encKv l).map (·.1) = (l.map (·.1)).map encP := by
    simp [encKv, List.map_map, Function.comp_def]
  rw [biW_sortedF, e, sort_encP]
  have h1 : alikeAllD ((l.map (·.1)).map encP) = true := by
    simp only [alikeAllD, List.all_map, List.all_eq_true, Function.comp, Bool.and_eq_true]
    exact fun r _ => ⟨rfl, fun s _ => alike_P _ _⟩
  have h2 : sortOk ((l.map (·.1)).map encP) = true := by
    simp only [sortOk, Bool.or_eq_true]
    left
    simp [List.all_map, encP]
  have h3 : Nat.ble (D.depths ((l.map (·.1)).map encP)) 50 = true := Nat.ble_eq_true_of_le (by have := depth_P (l.map (·.1)); omega)
  rw [h1, h2, h3]
  rfl
theorem law_said_ok (k m : Nat) (hm : m ≤ 100) (qs : List D) (h0 : 0 < qs.length) (h1 : qs.length ≤ 5) (hq : ∀ q ∈ qs, Qst 4 q) : Dr F (k + 3) F__law_said [.tup qs, .int m] (Said m) := by
  have hb' : bigLine = 16777216 := rfl
  refine Dr.go rfl rfl fun a b => ?_
  apply ss_asg x_ndt rfl
  obtain ⟨a1, b1, _, e1, r, rfl, hr⟩ := (roll_ok (F := F) k ((m : Int) + 1) (by omega) (by omega)).use (k' := k + 2) (by omega) a b [.dic true []]
  refine ss_forI (st1 := [Cup a1 b1, .dic true []]) (as := List.range r) (k := fun (i : Nat) => W.dat (.int (i : Int))) (n := none) (I := fun as ρ' st' => ∃ (a b : Int) (l : List (Pl × D)) (o4 o5 o6 : Option W), ρ' = [some (.ref 0), some (.dat (.tup qs)), some (.dat (.int m)), some (.ref 1), o4, o5, o6, none, none] ∧ st' = [Cup a b, .dic true (encKv l)] ∧ (l.map (·.1)).Nodup ∧ (∀ x ∈ l, PlOk x.1 ∧ Ans x.2) ∧ l.length + as.length ≤ m) ?_ ⟨a1, b1, [], none, none, none, rfl, rfl, by simp, by simp, by simp; omega⟩ ?_ ?_
  · rw [← rangeL_0]
    refine i_r1 (j := (r : Int)) ?_ (by simp [okR]; omega)
    (repeat' (first | exact e1 | exact x_c | exact x_g | exact xs_nil | exact c_no | exact di_nil | exact o_no | exact x_v rfl | apply xs_cons | apply x_tup | apply x_lst | apply x_bin | apply x_neg | apply x_nt | apply x_and | apply x_or | apply x_cmp | apply x_cmp2 | apply x_ix | apply x_sl | apply x_rv | apply x_call | apply x_bi | apply x_lens | apply x_lrg | apply x_lrg0 | apply x_isi | apply o_so | apply c_so | apply i_r1 | apply i_r2 | apply i_sq | apply x_mtW | apply di_cons | apply x_dic | apply x_nl | apply x_lc | apply x_lcf | (intro a ha; refine ⟨_, rfl, ?_, ?_⟩) | (intro a ha; refine ⟨_, rfl, ?_⟩) | exact allB | exact anyB | exact cW_eq (okD_r (by decide)) | exact cW_ne (okD_r (by decide)) | exact cW_lt | exact cW_gt | exact cW_le | exact cW_ge | exact cW_inS | exact cW_is | exact cW_isn | exact cW_isN | exact cW_isnN | exact lenT | exact intI | exact intB | exact absI | exact listT | exact listL | exact tupT | exact tupL | exact minI | exact maxI | exact strS | exact boolB | exact listScr | exact lenL | exact ixT0 | exact ixT1 | exact ixT2 | exact ixT3 | exact ixL0 | exact rfl | exact Nat.le_of_ble_eq_true rfl | exact fun hp => absurd hp fnt | exact fun hp => absurd hp tnf | refine imp_x ?_ | (intro (hp : (_ : Bool) = _)) | exact (false : Bool) | exact D.non | assumption))
  · rintro i as ρ' st' ⟨a, b, l, o4, o5, o6, rfl, rfl, hnd, hall, hlen⟩
    simp only [List.length_cons] at hlen
    refine ⟨_, rfl, ?_⟩
    obtain ⟨a2, b2, q, e2, hqm⟩ := (some_okT (F := F) k qs h0 (by omega)).use (Nat.le_refl _) a b [.dic true (encKv l)]
    have hQ := hq q hqm
    apply ss_asg
    · (repeat' (first | exact e2 | exact x_c | exact x_g | exact xs_nil | exact c_no | exact di_nil | exact o_no | exact x_v rfl | apply xs_cons | apply x_tup | apply x_lst | apply x_bin | apply x_neg | apply x_nt | apply x_and | apply x_or | apply x_cmp | apply x_cmp2 | apply x_ix | apply x_sl | apply x_rv | apply x_call | apply x_bi | apply x_lens | apply x_lrg | apply x_lrg0 | apply x_isi | apply o_so | apply c_so | apply i_r1 | apply i_r2 | apply i_sq | apply x_mtW | apply di_cons | apply x_dic | apply x_nl | apply x_lc | apply x_lcf | (intro a ha; refine ⟨_, rfl, ?_, ?_⟩) | (intro a ha; refine ⟨_, rfl, ?_⟩) | exact allB | exact anyB | exact cW_eq (okD_r (by decide)) | exact cW_ne (okD_r (by decide)) | exact cW_lt | exact cW_gt | exact cW_le | exact cW_ge | exact cW_inS | exact cW_is | exact cW_isn | exact cW_isN | exact cW_isnN | exact lenT | exact intI | exact intB | exact absI | exact listT | exact listL | exact tupT | exact tupL | exact minI | exact maxI | exact strS | exact boolB | exact listScr | exact lenL | exact ixT0 | exact ixT1 | exact ixT2 | exact ixT3 | exact ixL0 | exact rfl | exact Nat.le_of_ble_eq_true rfl | exact fun hp => absurd hp fnt | exact fun hp => absurd hp tnf | refine imp_x ?_ | (intro (hp : (_ : Bool) = _)) | exact (false : Bool) | exact D.non | assumption))
    · rfl
    obtain ⟨a3, b3, d3, e3, hd3⟩ := (some_ok (F := F) k [.int 0, .int 0, .int 1, .int 2] (by decide) (by decide)).use (Nat.le_refl _) a2 b2 [.dic true (encKv l)]
    obtain ⟨n, rfl, hn⟩ : ∃ n : Nat, d3 = .int n ∧ n ≤ 2 := by
      simp at hd3
      rcases hd3 with rfl | rfl | rfl
      · exact ⟨0, rfl, by omega⟩
      · exact ⟨1, rfl, by omega⟩
      · exact ⟨2, rfl, by omega⟩
    obtain ⟨a4, b4, us, e4, hus, hum⟩ := words_lc (F := F) k 7 n threeS (.lst (.cons (.c (.str "ant")) (.cons (.c (.str "bee")) (.cons (.c (.str "cat")) .nil)))) (.call F__law_some (.cons (.v 0) (.cons (.lst (.cons (.c (.int 0)) (.cons (.c (.int 0)) (.cons (.c (.int 1)) (.cons (.c (.int 2)) .nil))))) .nil)))
      [some (.ref 0), some (.dat (.tup qs)), some (.dat (.int m)), some (.ref 1), some (.dat (.int (i : Int))), some (.dat q), o6, none, none] a3 b3 [.dic true (encKv l)] [Cup a2 b2, .dic true (encKv l)] (by decide) (by decide) (Nat.le_of_ble_eq_true rfl) (by decide) rfl (by omega) (fun ρ st => by (repeat' (first | exact x_c | exact x_g | exact xs_nil | exact c_no | exact di_nil | exact o_no | exact x_v rfl | apply xs_cons | apply x_tup | apply x_lst | apply x_bin | apply x_neg | apply x_nt | apply x_and | apply x_or | apply x_cmp | apply x_cmp2 | apply x_ix | apply x_sl | apply x_rv | apply x_call | apply x_bi | apply x_lens | apply x_lrg | apply x_lrg0 | apply x_isi | apply o_so | apply c_so | apply i_r1 | apply i_r2 | apply i_sq | apply x_mtW | apply di_cons | apply x_dic | apply x_nl | apply x_lc | apply x_lcf | (intro a ha; refine ⟨_, rfl, ?_, ?_⟩) | (intro a ha; refine ⟨_, rfl, ?_⟩) | exact allB | exact anyB | exact cW_eq (okD_r (by decide)) | exact cW_ne (okD_r (by decide)) | exact cW_lt | exact cW_gt | exact cW_le | exact cW_ge | exact cW_inS | exact cW_is | exact cW_isn | exact cW_isN | exact cW_isnN | exact lenT | exact intI | exact intB | exact absI | exact listT | exact listL | exact tupT | exact tupL | exact minI | exact maxI | exact strS | exact boolB | exact listScr | exact lenL | exact ixT0 | exact ixT1 | exact ixT2 | exact ixT3 | exact ixL0 | exact rfl | exact Nat.le_of_ble_eq_true rfl | exact fun hp => absurd hp fnt | exact fun hp => absurd hp tnf | refine imp_x ?_ | (intro (hp : (_ : Bool) = _)) | exact (false : Bool) | exact D.non | assumption))) (by (repeat' (first | exact e3 | exact x_c | exact x_g | exact xs_nil | exact c_no | exact di_nil | exact o_no | exact x_v rfl | apply xs_cons | apply x_tup | apply x_lst | apply x_bin | apply x_neg | apply x_nt | apply x_and | apply x_or | apply x_cmp | apply x_cmp2 | apply x_ix | apply x_sl | apply x_rv | apply x_call | apply x_bi | apply x_lens | apply x_lrg | apply x_lrg0 | apply x_isi | apply o_so | apply c_so | apply i_r1 | apply i_r2 | apply i_sq | apply x_mtW | apply di_cons | apply x_dic | apply x_nl | apply x_lc | apply x_lcf | (intro a ha; refine ⟨_, rfl, ?_, ?_⟩) | (intro a ha; refine ⟨_, rfl, ?_⟩) | exact allB | exact anyB | exact cW_eq (okD_r (by decide)) | exact cW_ne (okD_r (by decide)) | exact cW_lt | exact cW_gt | exact cW_le | exact cW_ge | exact cW_inS | exact cW_is | exact cW_isn | exact cW_isN | exact cW_isnN | exact lenT | exact intI | exact intB | exact absI | exact listT | exact listL | exact tupT | exact tupL | exact minI | exact maxI | exact strS | exact boolB | exact listScr | exact lenL | exact ixT0 | exact ixT1 | exact ixT2 | exact ixT3 | exact ixL0 | exact rfl | exact Nat.le_of_ble_eq_true rfl | exact fun hp => absurd hp fnt | exact fun hp => absurd hp tnf | refine imp_x ?_ | (intro (hp : (_ : Bool) = _)) | exact (false : Bool) | exact D.non | assumption)))
    apply ss_asg
    · (repeat' (first | exact e4 | exact x_c | exact x_g | exact xs_nil | exact c_no | exact di_nil | exact o_no | exact x_v rfl | apply xs_cons | apply x_tup | apply x_lst | apply x_bin | apply x_neg | apply x_nt | apply x_and | apply x_or | apply x_cmp | apply x_cmp2 | apply x_ix | apply x_sl | apply x_rv | apply x_call | apply x_bi | apply x_lens | apply x_lrg | apply x_lrg0 | apply x_isi | apply o_so | apply c_so | apply i_r1 | apply i_r2 | apply i_sq | apply x_mtW | apply di_cons | apply x_dic | apply x_nl | apply x_lc | apply x_lcf | (intro a ha; refine ⟨_, rfl, ?_, ?_⟩) | (intro a ha; refine ⟨_, rfl, ?_⟩) | exact allB | exact anyB | exact cW_eq (okD_r (by decide)) | exact cW_ne (okD_r (by decide)) | exact cW_lt | exact cW_gt | exact cW_le | exact cW_ge | exact cW_inS | exact cW_is | exact cW_isn | exact cW_isN | exact cW_isnN | exact lenT | exact intI | exact intB | exact absI | exact listT | exact listL | exact tupT | exact tupL | exact minI | exact maxI | exact strS | exact boolB | exact listScr | exact lenL | exact ixT0 | exact ixT1 | exact ixT2 | exact ixT3 | exact ixL0 | exact rfl | exact Nat.le_of_ble_eq_true rfl | exact fun hp => absurd hp fnt | exact fun hp => absurd hp tnf | refine imp_x ?_ | (intro (hp : (_ : Bool) = _)) | exact (false : Bool) | exact D.non | assumption))
    · rfl
    obtain ⟨as', ea, hl0, hl1, hA⟩ := law_answers_ok (F := F) (k + 1) 4 (by omega) q hQ [Cup a4 b4, .dic true (encKv l)]
    obtain ⟨a5, b5, v, e5, hv⟩ := (some_ok (F := F) k as' hl0 (by omega)).use (Nat.le_refl _) a4 b4 [.dic true (encKv l)]
    cases hQ with
    | mk hnm hkd =>
      rename_i nm kd fr
      have hus2 : us.length ≤ 2 := by omega
      have hP : PlOk (nm, us) := ⟨.inl hnm, hus2, hum⟩
      apply ss_sst
      · (repeat' (first | exact ea | exact e5 | exact x_c | exact x_g | exact xs_nil | exact c_no | exact di_nil | exact o_no | exact x_v rfl | apply xs_cons | apply x_tup | apply x_lst | apply x_bin | apply x_neg | apply x_nt | apply x_and | apply x_or | apply x_cmp | apply x_cmp2 | apply x_ix | apply x_sl | apply x_rv | apply x_call | apply x_bi | apply x_lens | apply x_lrg | apply x_lrg0 | apply x_isi | apply o_so | apply c_so | apply i_r1 | apply i_r2 | apply i_sq | apply x_mtW | apply di_cons | apply x_dic | apply x_nl | apply x_lc | apply x_lcf | (intro a ha; refine ⟨_, rfl, ?_, ?_⟩) | (intro a ha; refine ⟨_, rfl, ?_⟩) | exact allB | exact anyB | exact cW_eq (okD_r (by decide)) | exact cW_ne (okD_r (by decide)) | exact cW_lt | exact cW_gt | exact cW_le | exact cW_ge | exact cW_inS | exact cW_is | exact cW_isn | exact cW_isN | exact cW_isnN | exact lenT | exact intI | exact intB | exact absI | exact listT | exact listL | exact tupT | exact tupL | exact minI | exact maxI | exact strS | exact boolB | exact listScr | exact lenL | exact ixT0 | exact ixT1 | exact ixT2 | exact ixT3 | exact ixL0 | exact rfl | exact Nat.le_of_ble_eq_true rfl | exact fun hp => absurd hp fnt | exact fun hp => absurd hp tnf | refine imp_x ?_ | (intro (hp : (_ : Bool) = _)) | exact (false : Bool) | exact D.non | assumption))
      · exact x_v rfl
      · refine x_tup (xs_cons (x_ix (x_v rfl) x_c ixT0) (xs_cons (x_v rfl) xs_nil)) rfl
      · rfl
      · show (if isKeyT true (encP (nm, us)) && (encKv l).length < bigLine then some (Cell.dic true (putKey (encKv l) (encP (nm, us)) v)) else none) = _
        rw [if_pos, put_enc]
        simp only [isKeyT, isTup_enc, if_true, Bool.true_and, decide_eq_true_eq]
        simp [encKv]; omega
      · refine ss_nil (.nx ⟨a5, b5, putP l (nm, us) v, some (.dat (.int (i : Int))), some (.dat (.tup [.str nm, kd, .bl fr])), some (.dat (.tup (us.map .str))), rfl, rfl, putP_nodup hnd, putP_all (Q := fun p d => PlOk p ∧ Ans d) hall ⟨hP, hA v hv⟩, by have := putP_len l (nm, us) v; omega⟩ rfl)
  · rintro ρ' st' ⟨a, b, l, o4, o5, o6, rfl, rfl, hnd, hall, hlen⟩
    simp only [List.length_nil, Nat.add_zero] at hlen
    have hss := sorted_P hnd
    have hmem : ∀ p ∈ (l.map (·.1)).mergeSort leP, p ∈ l.map (·.1) := fun p hp => List.mem_mergeSort.mp hp
    have hget : ∀ p ∈ (l.map (·.1)).mergeSort leP, ∃ v, getKey (encKv l) (encP p) = some v ∧ PlOk p ∧ Ans v := fun p hp => get_enc (Q := fun p d => PlOk p ∧ Ans d) hall (hmem p hp)
    have hsl : ((l.map (·.1)).mergeSort leP).length ≤ m := by rw [List.length_mergeSort, List.length_map]; exact hlen
    apply ss_ret
    · refine x_bi (xs_cons (x_lc (as := (l.map (·.1)).mergeSort leP) (k := fun p => W.dat (encP p)) (g := fun p => .tup [encP p, (getKey (encKv l) (encP p)).getD .non]) (st1 := [Cup a b, .dic true (encKv l)]) (i_sq (x := .dat (.lst _)) (x_bi (xs_cons (x_v rfl) xs_nil) (sort_kv l)) (show some ((((l.map (·.1)).mergeSort leP).map encP).map W.dat) = _ by rw [List.map_map]; rfl)) (by omega) rfl fun p hp => ⟨_, rfl, ?_⟩) xs_nil) tupL
      obtain ⟨v, hv, _⟩ := hget p hp
      refine x_tup (xs_cons (x_v rfl) (xs_cons (x_ix (x_v rfl) (x_v rfl) (w := .dat v) ?_) xs_nil)) (by rw [hv]; rfl)
      show (if isKeyT true (encP p) then (getKey (encKv l) (encP p)).map W.dat else none) = _
      rw [if_pos (by simp only [isKeyT, if_true, isTup_enc]), hv]; rfl
    · refine ⟨a, b, _, rfl, (((l.map (·.1)).mergeSort leP).map fun p => (p, (getKey (encKv l) (encP p)).getD .non)), ?_, ?_, ?_, ?_⟩
      · simp [encS, List.map_map, Function.comp_def]
      · rw [List.length_map]; exact hsl
      · rw [List.pairwise_map]; exact hss
      · intro x hx
        obtain ⟨p, hp, rfl⟩ := List.mem_map.mp hx
        obtain ⟨v, hv, h2, h3⟩ := hget p hp
        rw [hv]
        exact ⟨h2, h3⟩
theorem is_true {g : D → Bool} {d : D} (h : g d = true) : (!(g d == true)) = false := by rw [h]; rfl
theorem is_false {g : D → Bool} {d : D} (h : g d = false) : (!(g d == false)) = false := by rw [h]; rfl
theorem gS_one {p a : D} (h : gPair (.tup [p, a]) = false) : gSaid (.tup [.tup [p, a]]) = false := by
  rw [gS_eq]; simp [h]
theorem gS_bad {xs : List D} {x : D} (hx : x ∈ xs) (h : gPair x = false) : gSaid (.tup xs) = false := by
  have : xs.all gPair = false := by
    rw [List.all_eq_false]
    exact ⟨x, hx, by rw [h]; simp⟩
  rw [gS_eq, this]; simp
theorem gS_pair {xs : List D} {p : D × D} (hp : p ∈ pairs xs) (h : ltPl p.1 p.2 = false) : gSaid (.tup xs) = false := by
  have : ((pairs xs).all fun p => ltPl p.1 p.2) = false := by
    rw [List.all_eq_false]
    exact ⟨p, hp, by rw [h]; simp⟩
  rw [gS_eq, this]; simp
theorem many8_ok {C : Nat → List W → M W} {ρ : Env} {st : Store} (n : Nat) (hn : n ≤ 9) (h : ρ.length = 11) : eX C (.lc (.bin .Add (.c (.str "w")) (.bi .str (.cons (.v 9) .nil))) (.n 9) (.r1 (.c (.int n))) .no [9]) ρ st = .ok (.dat (.lst (manyL 0 n))) st := by
  have hI : ∀ i ∈ List.range 9, ((0 : Int) + (i : Int)).natAbs < 10 ^ 100 := by decide +kernel
  have hA : ∀ i ∈ List.range 9, ("w" : Str).length + (Str.ofString (toString ((0 : Int) + (i : Int)))).length ≤ bigLine := by decide +kernel
  refine x_lc (C := C) (ρ := ρ) (st := st) (st1 := st) (p := .n 9) (own := [9]) (as := List.range n) (k := fun (i : Nat) => W.dat (.int (0 + (i : Int)))) (i_r1 x_c (by simp [okR]; omega)) (by simp; unfold bigLine; omega) rfl fun i hi => ⟨(wipeE ρ [9]).set 9 (some (W.dat (.int (0 + (i : Int))))), rfl, ?_⟩
  have hi9 : i ∈ List.range 9 := by rw [List.mem_range] at hi ⊢; omega
  refine x_bin x_c (x_bi (xs_cons (x_v (w := .dat (.int (0 + (i : Int)))) ?_) xs_nil) (strI (hI i hi9))) rfl rfl (addS (hA i hi9))
  rw [List.getElem?_set_self (by simp [wipeE, h])]; rfl
/-- a loop over values: each is told b by is_said behind the place -/
theorem ans_loop (k : Nat) (b : Bool) (pl : D) (vals : List D) (e : Ex) (ρ : Env) (st st0 : Store) (hs : sm pl = true) (h : ∀ v ∈ vals, sm v = true ∧ gSaid (.tup [.tup [pl, v]]) = b) (hρ : ρ.length = 11) (h4 : ρ[4]?.join = some (.dat pl)) (he : eX (cF T F (k + 5)) e ρ st0 = .ok (.dat (.tup vals)) st) (P : Res Fl → Prop) (r : Ss) (hP : ∀ o, Go P (eSs (cF T F (k + 5)) F r (ρ.set 8 o) st)) :
    Go P (eSs (cF T F (k + 5)) F (.cons (.for (.n 8) (.sq e) (.cons (.ife (.cmp .IsNot (.call F_is_said (.cons (.tup (.cons (.tup (.cons (.v 4) (.cons (.v 8) .nil))) .nil)) .nil)) (.c (.bl b))) (.cons (.ret (.c (.bl false))) .nil) .nil) .nil)) r) ρ st0) := by
  refine ss_forI (as := vals) (k := .dat) (n := none) (I := fun as ρ' st' => st' = st ∧ (∀ v ∈ as, sm v = true ∧ gSaid (.tup [.tup [pl, v]]) = b) ∧ ∃ o, ρ' = ρ.set 8 o) (i_sq he rfl) ⟨rfl, h, ρ[8]'(by omega), by simp⟩ ?_ ?_
  · rintro d as ρ' st' ⟨rfl, hd, o, rfl⟩
    refine ⟨_, rfl, ?_⟩
    rw [List.set_set]
    have h8 : (ρ.set 8 (some (.dat d)))[8]?.join = some (.dat d) := by
      rw [List.getElem?_set_self (by omega)]; rfl
    have h4' : (ρ.set 8 (some (.dat d)))[4]?.join = some (.dat pl) := by
      rw [List.getElem?_set_ne (by omega)]; exact h4
    obtain ⟨d1, d2⟩ := hd d List.mem_cons_self
    refine ss_ifF (x_cmp (x_call (xs_cons (x_tup (xs_cons (x_tup (xs_cons (x_v h4') (xs_cons (x_v h8) xs_nil)) rfl) xs_nil) rfl) xs_nil) (is_said_ok k _ _ ?_)) x_c cW_isn) (by rw [d2]; cases b <;> rfl) (ss_nil (.nx ⟨rfl, fun e he => hd e (List.mem_cons_of_mem _ he), _, rfl⟩ rfl))
    simp [sm, sms, hs, d1]
  · rintro ρ' st' ⟨rfl, _, o, rfl⟩
    exact hP o
end

section
variable {F : Nat}
theorem badw1 : gName (.str "Ant") = false := by kernel_rfl
theorem badw2 : gName (.str "") = false := by kernel_rfl
theorem badw3 : gName (.str "A") = false := by kernel_rfl
theorem pairs_last {α : Type} (ys : List α) (x y : α) : (x, y) ∈ pairs (ys ++ [x, y]) := by
  induction ys with
  | nil => simp [pairs]
  | cons z ys ih =>
    cases ys with
    | nil => simp [pairs]
    | cons w ys =>
      have e : pairs (z :: w :: ys ++ [x, y]) = (z, w) :: pairs (w :: ys ++ [x, y]) := by simp [pairs]
      rw [e]
      exact List.mem_cons_of_mem _ ih
def oddS (l : List (Pl × D)) (pl : D) : List D := [.lst (encS l), if (!eqD (.tup (encS l)) (.tup [])) then .tup (encS l ++ (encS l).drop ((encS l).length - 1)) else .int 5, if (decide ((1 : Int) < ((encS l).length : Int))) then .tup (encS l).reverse else .non, .tup (encS l ++ [.tup [pl]])] ++ [.tup (encS l ++ [.tup [pl, .int 1, .int 2]]), .tup (encS l ++ [.lst [pl, .int 1]]), .tup (encS l ++ [.non])]
theorem oddS_no {l : List (Pl × D)} {pl : D} (h1 : l.Pairwise (fun a b => keyP a.1 < keyP b.1)) (hs : sms (encS l) = true) (hp : sm pl = true) : ∀ d ∈ oddS l pl, sm d = true ∧ gSaid d = false := by
  have hdr : ∀ i, sms ((encS l).drop i) = true := fun i => sms_all fun x hx => sms_mem hs (List.mem_of_mem_drop hx)
  have hrv : sms (encS l).reverse = true := sms_all fun x hx => sms_mem hs (List.mem_reverse.mp hx)
  unfold oddS
  simp only [List.cons_append, List.nil_append, List.forall_mem_cons]
  refine ⟨⟨hs, rfl⟩, ?_, ?_, ⟨by simp [sm, sms, sms_app, hs, hp], gS_bad (x := .tup [pl]) (by simp) rfl⟩, ⟨by simp [sm, sms, sms_app, hs, hp], gS_bad (x := .tup [pl, .int 1, .int 2]) (by simp) rfl⟩, ⟨by simp [sm, sms, sms_app, hs, hp], gS_bad (x := .lst [pl, .int 1]) (by simp) rfl⟩, ⟨by simp [sm, sms, sms_app, hs], gS_bad (x := .non) (by simp) rfl⟩, fun d hd => by cases hd⟩
  · rcases List.eq_nil_or_concat l with rfl | ⟨l', x, rfl⟩
    · exact ⟨rfl, rfl⟩
    · have e : (!eqD (.tup (encS (l' ++ [x]))) (.tup [])) = true := by
        simp only [encS, List.map_append, eqD]
        cases (l'.map fun x => D.tup [encP x.1, x.2]) <;> rfl
      rw [List.concat_eq_append] at *
      rw [e]
      simp only [if_true]
      refine ⟨by rw [sm_tup, sms_app, hs, hdr]; rfl, ?_⟩
      have e2 : encS (l' ++ [x]) ++ (encS (l' ++ [x])).drop ((encS (l' ++ [x])).length - 1) = encS l' ++ [.tup [encP x.1, x.2], .tup [encP x.1, x.2]] := by
        simp [encS]
      rw [e2]
      refine gS_pair (pairs_last _ _ _) ?_
      simp only [ltPl, ltD_encP, List.lt_irrefl, decide_false]
  · match l, h1, hrv with
    | [], _, _ => exact ⟨rfl, rfl⟩
    | [x], _, _ => exact ⟨rfl, rfl⟩
    | x :: y :: l, h1, hrv =>
      have e : (decide ((1 : Int) < ((encS (x :: y :: l)).length : Int))) = true := by simp [encS]; omega
      rw [e]
      refine ⟨hrv, ?_⟩
      have e2 : (encS (x :: y :: l)).reverse = (encS l).reverse ++ [.tup [encP y.1, y.2], .tup [encP x.1, x.2]] := by
        simp [encS]
      show gSaid (.tup (encS (x :: y :: l)).reverse) = false
      rw [e2]
      refine gS_pair (pairs_last _ _ _) ?_
      have := (List.pairwise_cons.mp h1).1 y (by simp)
      simp only [ltPl, ltD_encP, decide_eq_false_iff_not]
      exact List.lt_asymm this
theorem said_right_ok (k : Nat) : Dr F (k + 6) F__law_said_right [] (· = .bl true) := by
  refine Dr.go rfl rfl fun a b => ?_
  obtain ⟨a1, b1, _, e1, hQ⟩ := (law_questions_ok (F := F) k 5 4 (by omega) (by omega) (by omega) (by omega)).use (k' := k + 5) (by omega) a b []
  obtain ⟨_, _, hq1, hq2⟩ : ∃ n : Nat, ∃ qs : List D, True ∧ True := ⟨0, [], trivial, trivial⟩
  obtain ⟨n, qs, rfl, hn1, hn2, hn3, hn4⟩ := hQ
  have hql : qs.length = n := by
    have hl := congrArg List.length hn3
    have h5 : fiveS.length = 5 := rfl
    simp at hl; omega
  obtain ⟨a2, b2, _, e2, l, rfl, l1, l2, l3⟩ := (law_said_ok (F := F) k 8 (by omega) qs (by omega) (by omega) hn4).use (k' := k + 5) (by omega) a1 b1 []
  obtain ⟨g1, g2⟩ := said_good (by omega) l2 l3
  apply ss_asg
  · (repeat' (first | exact e1 | exact e2 | exact x_c | exact x_g | exact xs_nil | exact c_no | exact di_nil | exact o_no | exact x_v rfl | apply xs_cons | apply x_tup | apply x_lst | apply x_bin | apply x_neg | apply x_nt | apply x_and | apply x_or | apply x_cmp | apply x_cmp2 | apply x_ix | apply x_sl | apply x_rv | apply x_call | apply x_bi | apply x_lens | apply x_lrg | apply x_lrg0 | apply x_isi | apply o_so | apply c_so | apply i_r1 | apply i_r2 | apply i_sq | apply x_mtW | apply di_cons | apply x_dic | apply x_nl | apply x_lc | apply x_lcf | (intro a ha; refine ⟨_, rfl, ?_, ?_⟩) | (intro a ha; refine ⟨_, rfl, ?_⟩) | exact allB | exact anyB | exact cW_eq (okD_r (by decide)) | exact cW_ne (okD_r (by decide)) | exact cW_lt | exact cW_gt | exact cW_le | exact cW_ge | exact cW_inS | exact cW_is | exact cW_isn | exact cW_isN | exact cW_isnN | exact lenT | exact intI | exact intB | exact absI | exact listT | exact listL | exact tupT | exact tupL | exact minI | exact maxI | exact strS | exact boolB | exact listScr | exact lenL | exact ixT0 | exact ixT1 | exact ixT2 | exact ixT3 | exact ixL0 | exact rfl | exact Nat.le_of_ble_eq_true rfl | exact fun hp => absurd hp fnt | exact fun hp => absurd hp tnf | refine imp_x ?_ | (intro (hp : (_ : Bool) = _)) | exact (false : Bool) | exact D.non | assumption))
  · rfl
  obtain ⟨a3, b3, _, e3, r, rfl, hr⟩ := (roll_ok (F := F) k 3 (by omega) (by omega)).use (k' := k + 5) (by omega) a2 b2 []
  obtain ⟨a4, b4, us, e4, hus, hum⟩ := words_lc (F := F) (k + 3) 3 r ["ant", "ant", "bee"] (.lst (.cons (.c (.str "ant")) (.cons (.c (.str "ant")) (.cons (.c (.str "bee")) .nil)))) (.call F__law_roll (.cons (.v 0) (.cons (.c (.int 3)) .nil)))
      [some (.ref 0), some (.dat (.tup (encS l))), none, none, none, none, none, none, none, none, none] a3 b3 [] [Cup a2 b2] (by decide) (by decide) (Nat.le_of_ble_eq_true rfl) (by decide) rfl (by omega) (fun ρ st => by (repeat' (first | exact x_c | exact x_g | exact xs_nil | exact c_no | exact di_nil | exact o_no | exact x_v rfl | apply xs_cons | apply x_tup | apply x_lst | apply x_bin | apply x_neg | apply x_nt | apply x_and | apply x_or | apply x_cmp | apply x_cmp2 | apply x_ix | apply x_sl | apply x_rv | apply x_call | apply x_bi | apply x_lens | apply x_lrg | apply x_lrg0 | apply x_isi | apply o_so | apply c_so | apply i_r1 | apply i_r2 | apply i_sq | apply x_mtW | apply di_cons | apply x_dic | apply x_nl | apply x_lc | apply x_lcf | (intro a ha; refine ⟨_, rfl, ?_, ?_⟩) | (intro a ha; refine ⟨_, rfl, ?_⟩) | exact allB | exact anyB | exact cW_eq (okD_r (by decide)) | exact cW_ne (okD_r (by decide)) | exact cW_lt | exact cW_gt | exact cW_le | exact cW_ge | exact cW_inS | exact cW_is | exact cW_isn | exact cW_isN | exact cW_isnN | exact lenT | exact intI | exact intB | exact absI | exact listT | exact listL | exact tupT | exact tupL | exact minI | exact maxI | exact strS | exact boolB | exact listScr | exact lenL | exact ixT0 | exact ixT1 | exact ixT2 | exact ixT3 | exact ixL0 | exact rfl | exact Nat.le_of_ble_eq_true rfl | exact fun hp => absurd hp fnt | exact fun hp => absurd hp tnf | refine imp_x ?_ | (intro (hp : (_ : Bool) = _)) | exact (false : Bool) | exact D.non | assumption))) (by (repeat' (first | exact e3 | exact x_c | exact x_g | exact xs_nil | exact c_no | exact di_nil | exact o_no | exact x_v rfl | apply xs_cons | apply x_tup | apply x_lst | apply x_bin | apply x_neg | apply x_nt | apply x_and | apply x_or | apply x_cmp | apply x_cmp2 | apply x_ix | apply x_sl | apply x_rv | apply x_call | apply x_bi | apply x_lens | apply x_lrg | apply x_lrg0 | apply x_isi | apply o_so | apply c_so | apply i_r1 | apply i_r2 | apply i_sq | apply x_mtW | apply di_cons | apply x_dic | apply x_nl | apply x_lc | apply x_lcf | (intro a ha; refine ⟨_, rfl, ?_, ?_⟩) | (intro a ha; refine ⟨_, rfl, ?_⟩) | exact allB | exact anyB | exact cW_eq (okD_r (by decide)) | exact cW_ne (okD_r (by decide)) | exact cW_lt | exact cW_gt | exact cW_le | exact cW_ge | exact cW_inS | exact cW_is | exact cW_isn | exact cW_isN | exact cW_isnN | exact lenT | exact intI | exact intB | exact absI | exact listT | exact listL | exact tupT | exact tupL | exact minI | exact maxI | exact strS | exact boolB | exact listScr | exact lenL | exact ixT0 | exact ixT1 | exact ixT2 | exact ixT3 | exact ixL0 | exact rfl | exact Nat.le_of_ble_eq_true rfl | exact fun hp => absurd hp fnt | exact fun hp => absurd hp tnf | refine imp_x ?_ | (intro (hp : (_ : Bool) = _)) | exact (false : Bool) | exact D.non | assumption)))
  apply ss_asg
  · (repeat' (first | exact e4 | exact x_c | exact x_g | exact xs_nil | exact c_no | exact di_nil | exact o_no | exact x_v rfl | apply xs_cons | apply x_tup | apply x_lst | apply x_bin | apply x_neg | apply x_nt | apply x_and | apply x_or | apply x_cmp | apply x_cmp2 | apply x_ix | apply x_sl | apply x_rv | apply x_call | apply x_bi | apply x_lens | apply x_lrg | apply x_lrg0 | apply x_isi | apply o_so | apply c_so | apply i_r1 | apply i_r2 | apply i_sq | apply x_mtW | apply di_cons | apply x_dic | apply x_nl | apply x_lc | apply x_lcf | (intro a ha; refine ⟨_, rfl, ?_, ?_⟩) | (intro a ha; refine ⟨_, rfl, ?_⟩) | exact allB | exact anyB | exact cW_eq (okD_r (by decide)) | exact cW_ne (okD_r (by decide)) | exact cW_lt | exact cW_gt | exact cW_le | exact cW_ge | exact cW_inS | exact cW_is | exact cW_isn | exact cW_isN | exact cW_isnN | exact lenT | exact intI | exact intB | exact absI | exact listT | exact listL | exact tupT | exact tupL | exact minI | exact maxI | exact strS | exact boolB | exact listScr | exact lenL | exact ixT0 | exact ixT1 | exact ixT2 | exact ixT3 | exact ixL0 | exact rfl | exact Nat.le_of_ble_eq_true rfl | exact fun hp => absurd hp fnt | exact fun hp => absurd hp tnf | refine imp_x ?_ | (intro (hp : (_ : Bool) = _)) | exact (false : Bool) | exact D.non | assumption))
  · rfl
  obtain ⟨a5, b5, z, e5, hz⟩ := (some_ok (F := F) k (zS.map .str) (by decide) (by decide)).use (k' := k + 5) (by omega) a4 b4 []
  obtain ⟨z, hz', rfl⟩ := List.mem_map.mp hz
  apply ss_asg
  · (repeat' (first | exact e5 | exact x_c | exact x_g | exact xs_nil | exact c_no | exact di_nil | exact o_no | exact x_v rfl | apply xs_cons | apply x_tup | apply x_lst | apply x_bin | apply x_neg | apply x_nt | apply x_and | apply x_or | apply x_cmp | apply x_cmp2 | apply x_ix | apply x_sl | apply x_rv | apply x_call | apply x_bi | apply x_lens | apply x_lrg | apply x_lrg0 | apply x_isi | apply o_so | apply c_so | apply i_r1 | apply i_r2 | apply i_sq | apply x_mtW | apply di_cons | apply x_dic | apply x_nl | apply x_lc | apply x_lcf | (intro a ha; refine ⟨_, rfl, ?_, ?_⟩) | (intro a ha; refine ⟨_, rfl, ?_⟩) | exact allB | exact anyB | exact cW_eq (okD_r (by decide)) | exact cW_ne (okD_r (by decide)) | exact cW_lt | exact cW_gt | exact cW_le | exact cW_ge | exact cW_inS | exact cW_is | exact cW_isn | exact cW_isN | exact cW_isnN | exact lenT | exact intI | exact intB | exact absI | exact listT | exact listL | exact tupT | exact tupL | exact minI | exact maxI | exact strS | exact boolB | exact listScr | exact lenL | exact ixT0 | exact ixT1 | exact ixT2 | exact ixT3 | exact ixL0 | exact rfl | exact Nat.le_of_ble_eq_true rfl | exact fun hp => absurd hp fnt | exact fun hp => absurd hp tnf | refine imp_x ?_ | (intro (hp : (_ : Bool) = _)) | exact (false : Bool) | exact D.non | assumption))
  · rfl
  have hus2 : us.length ≤ 2 := by omega
  have hP : PlOk (z, us) := ⟨.inr hz', hus2, fun w hw => by
    have := hum w hw
    simp at this
    rcases this with rfl | rfl <;> decide +kernel⟩
  obtain ⟨p1, p2⟩ := hP.good
  have hz2 := zN z hz'
  have husm : sms (us.map .str) = true := sms_all fun x hx => by
    obtain ⟨w, hw, rfl⟩ := List.mem_map.mp hx
    exact (threeN w (hP.2.2 w hw)).2
  refine ss_ifF (x_orF (x_cmp (x_call (xs_cons (x_v rfl) xs_nil) (is_said_ok k _ _ g2)) x_c cW_isn) (is_true g1) (x_cmp (x_call (xs_cons (x_v rfl) xs_nil) (is_place_ok (k + 2) _ _ p2)) x_c cW_isn)) (is_true p1) ?_
  apply ss_asg
  · (repeat' (first | exact x_c | exact x_g | exact xs_nil | exact c_no | exact di_nil | exact o_no | exact x_v rfl | apply xs_cons | apply x_tup | apply x_lst | apply x_bin | apply x_neg | apply x_nt | apply x_and | apply x_or | apply x_cmp | apply x_cmp2 | apply x_ix | apply x_sl | apply x_rv | apply x_call | apply x_bi | apply x_lens | apply x_lrg | apply x_lrg0 | apply x_isi | apply o_so | apply c_so | apply i_r1 | apply i_r2 | apply i_sq | apply x_mtW | apply di_cons | apply x_dic | apply x_nl | apply x_lc | apply x_lcf | (intro a ha; refine ⟨_, rfl, ?_, ?_⟩) | (intro a ha; refine ⟨_, rfl, ?_⟩) | exact allB | exact anyB | exact cW_eq (okD_r (by decide)) | exact cW_ne (okD_r (by decide)) | exact cW_lt | exact cW_gt | exact cW_le | exact cW_ge | exact cW_inS | exact cW_is | exact cW_isn | exact cW_isN | exact cW_isnN | exact lenT | exact intI | exact intB | exact absI | exact listT | exact listL | exact tupT | exact tupL | exact minI | exact maxI | exact strS | exact boolB | exact listScr | exact lenL | exact ixT0 | exact ixT1 | exact ixT2 | exact ixT3 | exact ixL0 | exact rfl | exact Nat.le_of_ble_eq_true rfl | exact fun hp => absurd hp fnt | exact fun hp => absurd hp tnf | refine imp_x ?_ | (intro (hp : (_ : Bool) = _)) | exact (false : Bool) | exact D.non | assumption))
  · rfl
  have hb' : bigLine = 16777216 := rfl
  -- near places
  have key : ∀ d ∈ ([.tup [.str z], .tup [.str z, .tup (us.map .str), .tup []], .lst [.str z, .tup (us.map .str)], .tup [.str z, .lst (us.map .str)], .tup [.str "A", .tup (us.map .str)], .tup [.non, .tup (us.map .str)], .non, .int 5,
      .tup [.str z, .tup [.str "ant", .str "ant", .str "ant"]], .tup [.str z, .tup [.str "Ant"]], .tup [.str z, .tup [.non]], .tup [.str z, .str "ant"], .tup [.str z, .tup [.str "ant", .str ""]]] : List D), sm d = true ∧ gPlace d = false := by
    have hA : smStr "A" = true := by decide +kernel
    simp only [List.forall_mem_cons]
    and_intros
    all_goals first
      | rfl
      | (simp [sm, sms, hz2.2, husm, hA, sm8, sm9, smA]; done)
      | (simp [gPlace, badw1, badw2, badw3]; done)
      | (simp [gPlace, badw1, badw2, badw3, gName]; done)
      | (intro d hd; cases hd)
  refine ss_forI (st1 := [Cup a5 b5]) (as := [.tup [.str z], .tup [.str z, .tup (us.map .str), .tup []], .lst [.str z, .tup (us.map .str)], .tup [.str z, .lst (us.map .str)], .tup [.str "A", .tup (us.map .str)], .tup [.non, .tup (us.map .str)], .non, .int 5,
      .tup [.str z, .tup [.str "ant", .str "ant", .str "ant"]], .tup [.str z, .tup [.str "Ant"]], .tup [.str z, .tup [.non]], .tup [.str z, .str "ant"], .tup [.str z, .tup [.str "ant", .str ""]]]) (k := .dat) (n := none)
    (I := fun as ρ' st' => st' = [Cup a5 b5] ∧ (∀ d ∈ as, sm d = true ∧ gPlace d = false) ∧ ∃ o x, ρ' = [some (.ref 0), some (.dat (.tup (encS l))), some (.dat (.tup (us.map .str))), none, some (.dat (encP (z, us))), some x, o, none, none, none, none]) ?_ ⟨rfl, key, none, _, rfl⟩ ?_ ?_
  · refine i_sq (x := .dat (.lst _)) ?_ rfl
    (repeat' (first | exact x_c | exact x_g | exact xs_nil | exact c_no | exact di_nil | exact o_no | exact x_v rfl | apply xs_cons | apply x_tup | apply x_lst | apply x_bin | apply x_neg | apply x_nt | apply x_and | apply x_or | apply x_cmp | apply x_cmp2 | apply x_ix | apply x_sl | apply x_rv | apply x_call | apply x_bi | apply x_lens | apply x_lrg | apply x_lrg0 | apply x_isi | apply o_so | apply c_so | apply i_r1 | apply i_r2 | apply i_sq | apply x_mtW | apply di_cons | apply x_dic | apply x_nl | apply x_lc | apply x_lcf | (intro a ha; refine ⟨_, rfl, ?_, ?_⟩) | (intro a ha; refine ⟨_, rfl, ?_⟩) | exact allB | exact anyB | exact cW_eq (okD_r (by decide)) | exact cW_ne (okD_r (by decide)) | exact cW_lt | exact cW_gt | exact cW_le | exact cW_ge | exact cW_inS | exact cW_is | exact cW_isn | exact cW_isN | exact cW_isnN | exact lenT | exact intI | exact intB | exact absI | exact listT | exact listL | exact tupT | exact tupL | exact minI | exact maxI | exact strS | exact boolB | exact listScr | exact lenL | exact ixT0 | exact ixT1 | exact ixT2 | exact ixT3 | exact ixL0 | exact rfl | exact Nat.le_of_ble_eq_true rfl | exact fun hp => absurd hp fnt | exact fun hp => absurd hp tnf | refine imp_x ?_ | (intro (hp : (_ : Bool) = _)) | exact (false : Bool) | exact D.non | assumption))
  · rintro d as ρ' st' ⟨rfl, hd, o, x, rfl⟩
    refine ⟨_, rfl, ?_⟩
    obtain ⟨d1, d2⟩ := hd d List.mem_cons_self
    refine ss_ifF (x_orF (x_cmp (x_call (xs_cons (x_v rfl) xs_nil) (is_place_ok (k + 2) _ _ d1)) x_c cW_isn) (is_false d2) (x_cmp (x_call (xs_cons (x_tup (xs_cons (x_tup (xs_cons (x_v rfl) (xs_cons x_c xs_nil)) rfl) xs_nil) rfl) xs_nil) (is_said_ok k _ _ ?_)) x_c cW_isn)) (is_false (gS_one (by simp [gPair, d2]))) (ss_nil (.nx ⟨rfl, fun e he => hd e (List.mem_cons_of_mem _ he), _, _, rfl⟩ rfl))
    simp [sm, sms, d1]
  rintro ρ' st' ⟨rfl, _, o, x, rfl⟩
  -- right answers
  have hgood : ∀ v, gShape v = true → gSaid (.tup [.tup [encP (z, us), v]]) = true := fun v hv => by
    rw [gS_eq]; simp [gPair, p1, hv, pairs]
  have hbad : ∀ v, gShape v = false → gSaid (.tup [.tup [encP (z, us), v]]) = false := fun v hv => gS_one (by simp [gPair, hv])
  refine ans_loop k true (encP (z, us)) [.non, .bl true, .bl false, .int 9999, .int (-9999), .int 0, .str "ant", .tup [], .tup [.str "ant"], .tup [.str "b", .str "a"], .tup (manyL 0 8)] _ _ [Cup a5 b5] _ p2 ?_ rfl rfl ?_ _ _ fun o8 => ?_
  · simp only [List.forall_mem_cons]
    and_intros
    all_goals first
      | (refine hgood _ ?_; kernel_rfl)
      | (intro d hd; cases hd)
      | kernel_rfl
  · (repeat' (first | exact many8_ok 8 (by decide) rfl | exact x_c | exact x_g | exact xs_nil | exact c_no | exact di_nil | exact o_no | exact x_v rfl | apply xs_cons | apply x_tup | apply x_lst | apply x_bin | apply x_neg | apply x_nt | apply x_and | apply x_or | apply x_cmp | apply x_cmp2 | apply x_ix | apply x_sl | apply x_rv | apply x_call | apply x_bi | apply x_lens | apply x_lrg | apply x_lrg0 | apply x_isi | apply o_so | apply c_so | apply i_r1 | apply i_r2 | apply i_sq | apply x_mtW | apply di_cons | apply x_dic | apply x_nl | apply x_lc | apply x_lcf | (intro a ha; refine ⟨_, rfl, ?_, ?_⟩) | (intro a ha; refine ⟨_, rfl, ?_⟩) | exact allB | exact anyB | exact cW_eq (okD_r (by decide)) | exact cW_ne (okD_r (by decide)) | exact cW_lt | exact cW_gt | exact cW_le | exact cW_ge | exact cW_inS | exact cW_is | exact cW_isn | exact cW_isN | exact cW_isnN | exact lenT | exact intI | exact intB | exact absI | exact listT | exact listL | exact tupT | exact tupL | exact minI | exact maxI | exact strS | exact boolB | exact listScr | exact lenL | exact ixT0 | exact ixT1 | exact ixT2 | exact ixT3 | exact ixL0 | exact rfl | exact Nat.le_of_ble_eq_true rfl | exact fun hp => absurd hp fnt | exact fun hp => absurd hp tnf | refine imp_x ?_ | (intro (hp : (_ : Bool) = _)) | exact (false : Bool) | exact D.non | assumption))
  apply ss_asg
  · (repeat' (first | exact many8_ok 9 (by decide) rfl | exact x_c | exact x_g | exact xs_nil | exact c_no | exact di_nil | exact o_no | exact x_v rfl | apply xs_cons | apply x_tup | apply x_lst | apply x_bin | apply x_neg | apply x_nt | apply x_and | apply x_or | apply x_cmp | apply x_cmp2 | apply x_ix | apply x_sl | apply x_rv | apply x_call | apply x_bi | apply x_lens | apply x_lrg | apply x_lrg0 | apply x_isi | apply o_so | apply c_so | apply i_r1 | apply i_r2 | apply i_sq | apply x_mtW | apply di_cons | apply x_dic | apply x_nl | apply x_lc | apply x_lcf | (intro a ha; refine ⟨_, rfl, ?_, ?_⟩) | (intro a ha; refine ⟨_, rfl, ?_⟩) | exact allB | exact anyB | exact cW_eq (okD_r (by decide)) | exact cW_ne (okD_r (by decide)) | exact cW_lt | exact cW_gt | exact cW_le | exact cW_ge | exact cW_inS | exact cW_is | exact cW_isn | exact cW_isN | exact cW_isnN | exact lenT | exact intI | exact intB | exact absI | exact listT | exact listL | exact tupT | exact tupL | exact minI | exact maxI | exact strS | exact boolB | exact listScr | exact lenL | exact ixT0 | exact ixT1 | exact ixT2 | exact ixT3 | exact ixL0 | exact rfl | exact Nat.le_of_ble_eq_true rfl | exact fun hp => absurd hp fnt | exact fun hp => absurd hp tnf | refine imp_x ?_ | (intro (hp : (_ : Bool) = _)) | exact (false : Bool) | exact D.non | assumption))
  · rfl
  refine ans_loop k false (encP (z, us)) [.int 10000, .int (-10000), .str "Ant", .str "", .lst [.str "ant"], .tup [.str "ant", .str "ant"], .tup [.non], .tup [.int 1], .tup [.str "ant", .str ""], .tup (manyL 0 9), .tup [.tup []]] _ _ [Cup a5 b5] _ p2 ?_ rfl rfl ?_ _ _ fun o8' => ?_
  · simp only [List.forall_mem_cons]
    and_intros
    all_goals first
      | (refine hbad _ ?_; kernel_rfl)
      | (intro d hd; cases hd)
      | kernel_rfl
  · (repeat' (first | exact x_c | exact x_g | exact xs_nil | exact c_no | exact di_nil | exact o_no | exact x_v rfl | apply xs_cons | apply x_tup | apply x_lst | apply x_bin | apply x_neg | apply x_nt | apply x_and | apply x_or | apply x_cmp | apply x_cmp2 | apply x_ix | apply x_sl | apply x_rv | apply x_call | apply x_bi | apply x_lens | apply x_lrg | apply x_lrg0 | apply x_isi | apply o_so | apply c_so | apply i_r1 | apply i_r2 | apply i_sq | apply x_mtW | apply di_cons | apply x_dic | apply x_nl | apply x_lc | apply x_lcf | (intro a ha; refine ⟨_, rfl, ?_, ?_⟩) | (intro a ha; refine ⟨_, rfl, ?_⟩) | exact allB | exact anyB | exact cW_eq (okD_r (by decide)) | exact cW_ne (okD_r (by decide)) | exact cW_lt | exact cW_gt | exact cW_le | exact cW_ge | exact cW_inS | exact cW_is | exact cW_isn | exact cW_isN | exact cW_isnN | exact lenT | exact intI | exact intB | exact absI | exact listT | exact listL | exact tupT | exact tupL | exact minI | exact maxI | exact strS | exact boolB | exact listScr | exact lenL | exact ixT0 | exact ixT1 | exact ixT2 | exact ixT3 | exact ixL0 | exact rfl | exact Nat.le_of_ble_eq_true rfl | exact fun hp => absurd hp fnt | exact fun hp => absurd hp tnf | refine imp_x ?_ | (intro (hp : (_ : Bool) = _)) | exact (false : Bool) | exact D.non | assumption))
  have hsl3 : slW (.dat (.tup (encS l))) (some (-1)) none = some (.dat (.tup ((encS l).drop ((encS l).length - 1)))) := slLast
  have hsll : (encS l).length ≤ 8 := by simpa [encS] using l1
  have hA3 : binD .Add (.tup (encS l)) (.tup ((encS l).drop ((encS l).length - 1))) = some (.tup (encS l ++ (encS l).drop ((encS l).length - 1))) := addT (by simp; omega)
  have hA4 : ∀ x, binD .Add (.tup (encS l)) (.tup [x]) = some (.tup (encS l ++ [x])) := fun x => addT (by simp; omega)
  apply ss_asg
  · apply x_lst
    · apply xs_cons
      · (repeat' (first | exact x_c | exact x_g | exact xs_nil | exact c_no | exact di_nil | exact o_no | exact x_v rfl | apply xs_cons | apply x_tup | apply x_lst | apply x_bin | apply x_neg | apply x_nt | apply x_and | apply x_or | apply x_cmp | apply x_cmp2 | apply x_ix | apply x_sl | apply x_rv | apply x_call | apply x_bi | apply x_lens | apply x_lrg | apply x_lrg0 | apply x_isi | apply o_so | apply c_so | apply i_r1 | apply i_r2 | apply i_sq | apply x_mtW | apply di_cons | apply x_dic | apply x_nl | apply x_lc | apply x_lcf | (intro a ha; refine ⟨_, rfl, ?_, ?_⟩) | (intro a ha; refine ⟨_, rfl, ?_⟩) | exact allB | exact anyB | exact cW_eq (okD_r (by decide)) | exact cW_ne (okD_r (by decide)) | exact cW_lt | exact cW_gt | exact cW_le | exact cW_ge | exact cW_inS | exact cW_is | exact cW_isn | exact cW_isN | exact cW_isnN | exact lenT | exact intI | exact intB | exact absI | exact listT | exact listL | exact tupT | exact tupL | exact minI | exact maxI | exact strS | exact boolB | exact listScr | exact lenL | exact ixT0 | exact ixT1 | exact ixT2 | exact ixT3 | exact ixL0 | exact rfl | exact Nat.le_of_ble_eq_true rfl | exact fun hp => absurd hp fnt | exact fun hp => absurd hp tnf | refine imp_x ?_ | (intro (hp : (_ : Bool) = _)) | exact (false : Bool) | exact D.non | assumption))
      · apply xs_cons
        · apply x_iteD (dx := .tup (encS l ++ (encS l).drop ((encS l).length - 1))) (dy := .int 5)
          · exact x_cmp (x_v rfl) (x_tup xs_nil rfl) (cW_ne (okD_r (by decide)))
          · intro _; (repeat' (first | exact hsl3 | exact hA3 | exact x_c | exact x_g | exact xs_nil | exact c_no | exact di_nil | exact o_no | exact x_v rfl | apply xs_cons | apply x_tup | apply x_lst | apply x_bin | apply x_neg | apply x_nt | apply x_and | apply x_or | apply x_cmp | apply x_cmp2 | apply x_ix | apply x_sl | apply x_rv | apply x_call | apply x_bi | apply x_lens | apply x_lrg | apply x_lrg0 | apply x_isi | apply o_so | apply c_so | apply i_r1 | apply i_r2 | apply i_sq | apply x_mtW | apply di_cons | apply x_dic | apply x_nl | apply x_lc | apply x_lcf | (intro a ha; refine ⟨_, rfl, ?_, ?_⟩) | (intro a ha; refine ⟨_, rfl, ?_⟩) | exact allB | exact anyB | exact cW_eq (okD_r (by decide)) | exact cW_ne (okD_r (by decide)) | exact cW_lt | exact cW_gt | exact cW_le | exact cW_ge | exact cW_inS | exact cW_is | exact cW_isn | exact cW_isN | exact cW_isnN | exact lenT | exact intI | exact intB | exact absI | exact listT | exact listL | exact tupT | exact tupL | exact minI | exact maxI | exact strS | exact boolB | exact listScr | exact lenL | exact ixT0 | exact ixT1 | exact ixT2 | exact ixT3 | exact ixL0 | exact rfl | exact Nat.le_of_ble_eq_true rfl | exact fun hp => absurd hp fnt | exact fun hp => absurd hp tnf | refine imp_x ?_ | (intro (hp : (_ : Bool) = _)) | exact (false : Bool) | exact D.non | assumption))
          · intro _; exact x_c
        · apply xs_cons
          · apply x_iteD (dx := .tup (encS l).reverse) (dy := .non)
            · (repeat' (first | exact x_c | exact x_g | exact xs_nil | exact c_no | exact di_nil | exact o_no | exact x_v rfl | apply xs_cons | apply x_tup | apply x_lst | apply x_bin | apply x_neg | apply x_nt | apply x_and | apply x_or | apply x_cmp | apply x_cmp2 | apply x_ix | apply x_sl | apply x_rv | apply x_call | apply x_bi | apply x_lens | apply x_lrg | apply x_lrg0 | apply x_isi | apply o_so | apply c_so | apply i_r1 | apply i_r2 | apply i_sq | apply x_mtW | apply di_cons | apply x_dic | apply x_nl | apply x_lc | apply x_lcf | (intro a ha; refine ⟨_, rfl, ?_, ?_⟩) | (intro a ha; refine ⟨_, rfl, ?_⟩) | exact allB | exact anyB | exact cW_eq (okD_r (by decide)) | exact cW_ne (okD_r (by decide)) | exact cW_lt | exact cW_gt | exact cW_le | exact cW_ge | exact cW_inS | exact cW_is | exact cW_isn | exact cW_isN | exact cW_isnN | exact lenT | exact intI | exact intB | exact absI | exact listT | exact listL | exact tupT | exact tupL | exact minI | exact maxI | exact strS | exact boolB | exact listScr | exact lenL | exact ixT0 | exact ixT1 | exact ixT2 | exact ixT3 | exact ixL0 | exact rfl | exact Nat.le_of_ble_eq_true rfl | exact fun hp => absurd hp fnt | exact fun hp => absurd hp tnf | refine imp_x ?_ | (intro (hp : (_ : Bool) = _)) | exact (false : Bool) | exact D.non | assumption))
            · intro _; exact x_rv (x_v rfl) rfl
            · intro _; exact x_c
          · (repeat' (first | exact hA4 _ | exact x_c | exact x_g | exact xs_nil | exact c_no | exact di_nil | exact o_no | exact x_v rfl | apply xs_cons | apply x_tup | apply x_lst | apply x_bin | apply x_neg | apply x_nt | apply x_and | apply x_or | apply x_cmp | apply x_cmp2 | apply x_ix | apply x_sl | apply x_rv | apply x_call | apply x_bi | apply x_lens | apply x_lrg | apply x_lrg0 | apply x_isi | apply o_so | apply c_so | apply i_r1 | apply i_r2 | apply i_sq | apply x_mtW | apply di_cons | apply x_dic | apply x_nl | apply x_lc | apply x_lcf | (intro a ha; refine ⟨_, rfl, ?_, ?_⟩) | (intro a ha; refine ⟨_, rfl, ?_⟩) | exact allB | exact anyB | exact cW_eq (okD_r (by decide)) | exact cW_ne (okD_r (by decide)) | exact cW_lt | exact cW_gt | exact cW_le | exact cW_ge | exact cW_inS | exact cW_is | exact cW_isn | exact cW_isN | exact cW_isnN | exact lenT | exact intI | exact intB | exact absI | exact listT | exact listL | exact tupT | exact tupL | exact minI | exact maxI | exact strS | exact boolB | exact listScr | exact lenL | exact ixT0 | exact ixT1 | exact ixT2 | exact ixT3 | exact ixL0 | exact rfl | exact Nat.le_of_ble_eq_true rfl | exact fun hp => absurd hp fnt | exact fun hp => absurd hp tnf | refine imp_x ?_ | (intro (hp : (_ : Bool) = _)) | exact (false : Bool) | exact D.non | assumption))
    · rfl
  · rfl
  apply ss_asg
  · (repeat' (first | exact hA4 _ | exact x_c | exact x_g | exact xs_nil | exact c_no | exact di_nil | exact o_no | exact x_v rfl | apply xs_cons | apply x_tup | apply x_lst | apply x_bin | apply x_neg | apply x_nt | apply x_and | apply x_or | apply x_cmp | apply x_cmp2 | apply x_ix | apply x_sl | apply x_rv | apply x_call | apply x_bi | apply x_lens | apply x_lrg | apply x_lrg0 | apply x_isi | apply o_so | apply c_so | apply i_r1 | apply i_r2 | apply i_sq | apply x_mtW | apply di_cons | apply x_dic | apply x_nl | apply x_lc | apply x_lcf | (intro a ha; refine ⟨_, rfl, ?_, ?_⟩) | (intro a ha; refine ⟨_, rfl, ?_⟩) | exact allB | exact anyB | exact cW_eq (okD_r (by decide)) | exact cW_ne (okD_r (by decide)) | exact cW_lt | exact cW_gt | exact cW_le | exact cW_ge | exact cW_inS | exact cW_is | exact cW_isn | exact cW_isN | exact cW_isnN | exact lenT | exact intI | exact intB | exact absI | exact listT | exact listL | exact tupT | exact tupL | exact minI | exact maxI | exact strS | exact boolB | exact listScr | exact lenL | exact ixT0 | exact ixT1 | exact ixT2 | exact ixT3 | exact ixL0 | exact rfl | exact Nat.le_of_ble_eq_true rfl | exact fun hp => absurd hp fnt | exact fun hp => absurd hp tnf | refine imp_x ?_ | (intro (hp : (_ : Bool) = _)) | exact (false : Bool) | exact D.non | assumption))
  · rfl
  have hodd := oddS_no l2 g2 p2
  refine ss_ret (st1 := [Cup a5 b5]) (x_andT (p := true) (x_cmp (x := .dat (.lst [])) ?hlc (x_lst xs_nil rfl) rfl) rfl (x_cmp (x_call (xs_cons (x_v rfl) xs_nil) (is_said_ok k _ _ g2)) x_c cW_is)) ⟨a5, b5, .bl (gSaid (.tup (encS l)) == true), rfl, by rw [g1]; rfl⟩
  refine (x_lcf (as := oddS l (encP (z, us))) (k := .dat) (q := fun d => !(gSaid d == false)) (g := id) (i_sq (x := .dat (.lst (oddS l (encP (z, us))))) (x_v rfl) rfl) (Nat.le_of_ble_eq_true rfl) rfl fun d hd => ⟨_, rfl, x_cmp (x_call (xs_cons (x_v rfl) xs_nil) (is_said_ok k _ _ (hodd d hd).1)) x_c cW_isn, fun _ => x_v rfl⟩).trans ?_
  have : (oddS l (encP (z, us))).filter (fun d => !(gSaid d == false)) = [] := by
    rw [List.filter_eq_nil_iff]
    intro d hd
    rw [(hodd d hd).2]; simp
  rw [this]
  rfl
/-! ### the law -/
def lawB : Ss := D_law.body
def headS : Ss → Ss
  | .cons s r => .cons s .nil
  | .nil => .nil
def tailS : Ss → Ss
  | .cons _ r => r
  | .nil => .nil
def takeS : Nat → Ss → Ss
  | 0, _ => .nil
  | _ + 1, .nil => .nil
  | n + 1, .cons s r => .cons s (takeS n r)
def dropS : Nat → Ss → Ss
  | 0, r => r
  | _ + 1, .nil => .nil
  | n + 1, .cons _ r => dropS n r
theorem split_at {C : Nat → List W → M W} {n : Nat} {b : Ss} {ρ ρ1 : Env} {st st1 : Store} {P : Res Fl → Prop} (h : eSs C F (takeS n b) ρ st = .ok (.nx ρ1) st1) (g : Go P (eSs C F (dropS n b) ρ1 st1)) : Go P (eSs C F b ρ st) := by
  have e : ∀ (n : Nat) (b : Ss), b = (takeS n b).app (dropS n b) := by
    intro n
    induction n with
    | zero => intro b; rfl
    | succ n ih =>
      intro b
      cases b with
      | nil => rfl
      | cons s r => show Ss.cons s r = Ss.cons s ((takeS n r).app (dropS n r)); rw [← ih r]
  rw [e n b]
  unfold Go at g ⊢
  rw [Ss_app, h]
  exact g
/-- the head of the law: what is told of things that are not drawn -/
def midS : Ss := takeS 14 (dropS 1 lawB)
def ρ1 (ns : List Int) : Env := [some (.scr ns), some (.ref 0), none, none, none, none, none, none, none, none, none, none, none, none, none]
def envOf (r : Res Fl) : Env := match r with
  | .ok (.nx ρ) _ => ρ
  | _ => []
def stays0 (r : Res Fl) (st : Store) : Bool := match r with
  | .ok (.nx ρ) [Cell.lst [.int _, .int _]] => true
  | _ => false
end

section
variable {F : Nat}
theorem mid_ok (k : Nat) (ns : List Int) (a b : Int) : ∃ ρ : Env, eSs (cF T F (k + 10)) F midS (ρ1 ns) [Cup a b] = .ok (.nx ρ) [Cup a b] ∧ ρ.length = 15 ∧ ρ[1]?.join = some (.ref 0) :=
  ⟨envOf (eSs (cF T F (k + 10)) F midS (ρ1 ns) [Cup a b]), by kernel_rfl, by kernel_rfl, by kernel_rfl⟩
abbrev lawK : Nat := 20
abbrev lawF : Nat := 1000
theorem law_run_ok (ns : List Int) (h : ns.length ≤ 63) : ∃ st, cF T lawF lawK 26 [.scr ns] [] = .ok (.dat (.bl true)) st := by
  obtain ⟨a, b, e⟩ := cup_ok (F := lawF) 18 ns h
  refine call_fd (P := fun r => ∃ st, r = .ok (.dat (.bl true)) st) (k := 19) rfl rfl ?_
  refine ss_asg (x_call (xs_cons (x_v rfl) xs_nil) e) rfl ?_
  obtain ⟨ρ, e1, hl, h1⟩ := mid_ok (F := lawF) 9 ns a b
  refine split_at (n := 14) e1 ?_
  refine ss_forI (st1 := [Cup a b]) (as := List.range 9) (k := fun (i : Nat) => W.dat (.int (i : Int))) (n := none) (I := fun as ρ' st' => ∃ a b, st' = [Cup a b] ∧ ∃ o, ρ' = ρ.set 14 o) ?_ ⟨a, b, rfl, ρ[14]'(by omega), by simp⟩ ?_ ?_
  · rw [← rangeL_0]
    exact i_r1 (j := 9) x_c rfl
  · rintro i as ρ' st' ⟨a, b, rfl, o, rfl⟩
    refine ⟨_, rfl, ?_⟩
    rw [List.set_set]
    have h1' : ∀ o, (ρ.set 14 o)[1]?.join = some (.ref 0) := fun o => by rw [List.getElem?_set_ne (by omega)]; exact h1
    obtain ⟨a1, b1, _, e1, rfl⟩ := (kinds_right_ok (F := lawF) 0).use (k' := 19) (by omega) a b []
    obtain ⟨a2, b2, _, e2, rfl⟩ := (questions_right_ok (F := lawF) 0).use (k' := 19) (by omega) a1 b1 []
    obtain ⟨a3, b3, _, e3, rfl⟩ := (said_right_ok (F := lawF) 0).use (k' := 19) (by omega) a2 b2 []
    exact ss_ifF (x_orF (x_nt (x_call (xs_cons (x_v (h1' _)) xs_nil) e1)) rfl (x_orF (x_nt (x_call (xs_cons (x_v (h1' _)) xs_nil) e2)) rfl (x_nt (x_call (xs_cons (x_v (h1' _)) xs_nil) e3)))) rfl (ss_nil (.nx ⟨a3, b3, rfl, _, rfl⟩ rfl))
  · rintro ρ' st' ⟨a, b, rfl, o, rfl⟩
    exact ss_ret x_c ⟨_, rfl⟩
theorem law_true (ns : List Int) (h : ns.length ≤ 63) : ∃ st, callF (fds (tab Ts)) lawF lawK 26 [.scr ns] [] = .ok (.dat (.bl true)) st := by
  have := law_run_ok ns h
  rw [cF_eq] at this
  exact this
end

end Ev
namespace Ev
open PySem PySem.Spec PyProof.Rows L2
def loose0 : List Str := ["__name__", "LETTERS", "SIGNS", "LONGEST", "QUESTIONS", "PLACES", "FAR", "fits_name", "fits_whole", "is_tuple_of", "are_words", "fits_kind", "fits_question", "fits_questions", "fits_place", "fits_shape", "fits_said", "is_name", "is_kind", "are_questions", "is_place", "is_said", "_law_cup", "_law_roll", "_law_some", "_law_turned", "_law_kind", "_law_questions", "_law_answers", "_law_said"]
def loose1 : List Str := ["_law_kinds_right", "_law_questions_right", "_law_said_right"]
def loose : List Str := loose0 ++ loose1
abbrev R : PySem.W.OpenRow := PySem.W.OpenLaw.row PySem.Challenge.rw_askedofall_k02_whole_values_near_questio
abbrev fa : List He.Fa := faOf Ts gcs frs
abbrev fn : List He.DefD := fnOf Ts As
abbrev hk : PySem.W.Hook := He.hookD 4 fa fn
def ob (s : PySem.W.SharedT) : He.AlD := He.obsDG 4 fa fn (HandSHeadRun.getT s)
theorem ob_eq (s : PySem.W.SharedT) : ob s = hk.obs s.abs := He.obsDG_eq (HandSHeadRun.getT_eq s)
theorem run (w : World) : HandSHeadRun.RunEq R (PySem.W.view R.prog [34]) hk ob 20000 loose w := by
  intro os
  kernel_rfl
theorem chk_all : Ts.all (chkD (tab Ts) (gcOf gcs) (frOf frs)) = true := by kernel_rfl
theorem all_ok : allOk Ts As = true := by kernel_rfl
theorem gcs_ok : gcs.all okC = true := by kernel_rfl
end Ev
open PySem PySem.W PySem.Calls PyProof.Rows
set_option maxRecDepth 100000 in
set_option maxHeartbeats 0 in
theorem PySem.Challenge.cw_askedofall_k02_whole_values_near_questio_holds : PySem.Challenge.rw_askedofall_k02_whole_values_near_questio.Holds := by
  w_on; o_law
  refine HandSHeadRun.head_any (r := OpenLaw.row PySem.Challenge.rw_askedofall_k02_whole_values_near_questio) (q := view (OpenLaw.row PySem.Challenge.rw_askedofall_k02_whole_values_near_questio).prog [34]) (H := Ev.hk) (ob := Ev.ob) (M := 20000) (loose := Ev.loose) (d := HandSHeadRun.topDef (OpenLaw.row PySem.Challenge.rw_askedofall_k02_whole_values_near_questio).prog 34) (kwd := []) Ev.ob_eq
    (by kernel_rfl) (fun s => by kernel_rfl) Ev.run (by kernel_rfl) (by kernel_rfl) (by kernel_rfl) (by rfl) (by first | assumption | decide +kernel) (by decide +kernel) ⟨rfl, rfl, rfl, rfl, rfl, by decide +kernel⟩ ?hw ?hc
  case hw => w_witness2
  case hc =>
    refine Ev.walk_ev (l := PySem.Challenge.rw_askedofall_k02_whole_values_near_questio) (n := 63) (k := Ev.lawK) (x := "script") rfl (by decide) (by kernel_rfl) ?room ?F
    case room => exact ⟨rfl, by decide, by decide⟩
    intro w mg fa h Y G hmg0
    obtain ⟨K, KX, c⟩ := Y
    have hmg : mg ("law" : PySem.Str) = some (.ref fa) := by
      have e : (HandSHeadRun.topDef (OpenLaw.row PySem.Challenge.rw_askedofall_k02_whole_values_near_questio).prog 34).name = ("law" : PySem.Str) := by kernel_rfl
      rw [← e]
      exact hmg0
    obtain ⟨fd, sp, hb, hsp, hF⟩ := Ev.law_run (P := (PySem.Challenge.rw_askedofall_k02_whole_values_near_questio).prog) (w := w) (f := 26) (d := Ev.D_law) (F := Ev.lawF) (k := Ev.lawK) KX G hmg c Ev.all_ok Ev.gcs_ok Ev.chk_all rfl rfl Ev.law_true
    exact ⟨K, fd, sp, KX, hb, hsp, hF⟩

