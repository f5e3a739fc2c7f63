import PyProof.Rows.All
import Wide.All
import OpenK.AllK
import Wide.FinOn
import HandS.ForMost
import HandS.SetFor
import HandS.SetKeys
import PyProof.ReprRoads
import PyProof.CallFns
import KE.KDictZip
import HandS.ForExc
import HandS.ExcCtx
import HandS.Hot
import HandS.HotCalls
import HandS.ExcIs
import HandS.Walk
import HandS.Ends
import HandS.HeadEnd
import HandS.IsInst
import PyProof.ReprLen
import PyProof.StrLawsRepr
import HandS.More
import PyProof.P3Eq
import PyProof.EqLayable
import HandS.Finally
import HandS.ListItems
import HandS.Conv
import HandS.Head0
import HandS.Head1
import HandS.Head2
import HandS.HeadHook1
import PySem.Challenge.RW_pointways_k15_whole_renamed_reordered
set_option Elab.async false
set_option linter.all false
set_option maxRecDepth 100000
set_option maxHeartbeats 4000000
/-! len(set(xs)) of a list or a tuple of ints and texts, doubles allowed: as long as the row just where nothing stands twice. -/
namespace Pw
open PySem PySem.Spec PyProof.Rows L2
/-- q stands in ks -/
def inK (ks : List Key) (q : Key) : Bool := ks.any fun j => decide (j = q)
theorem inK_iff {ks : List Key} {q : Key} : inK ks q = true ↔ q ∈ ks := by
  unfold inK
  rw [List.any_eq_true]
  exact ⟨fun ⟨j, h, e⟩ => by rw [← of_decide_eq_true e]; exact h, fun h => ⟨q, h, decide_eq_true rfl⟩⟩
theorem inK_app {ks : List Key} {k q : Key} : inK (ks ++ [k]) q = (inK ks q || decide (q = k)) := by
  unfold inK
  rw [List.any_append, List.any_cons, List.any_nil, Bool.or_false]
  by_cases h : k = q
  · subst h; simp
  · rw [decide_eq_false h, decide_eq_false (Ne.symm h)]
theorem nodup_step {ks : List Key} {i : Nat} {k : Key} {c : Nat} (hk : ks[i]? = some k) (hc : c ≤ i) (e : c = i ↔ (ks.take i).Nodup) :
    (if inK (ks.take i) k = true then c else c + 1) ≤ i + 1 ∧ ((if inK (ks.take i) k = true then c else c + 1) = i + 1 ↔ (ks.take (i + 1)).Nodup) := by
  have et : ks.take (i + 1) = ks.take i ++ [k] := by
    rw [List.take_add_one, hk]
    rfl
  rw [et, List.nodup_append]
  by_cases hm : k ∈ ks.take i
  · rw [if_pos (inK_iff.mpr hm)]
    refine ⟨by omega, fun q => by omega, fun q => ?_⟩
    exact absurd rfl (q.2.2 k hm k (List.mem_singleton.mpr rfl))
  · rw [if_neg (fun z => hm (inK_iff.mp z))]
    refine ⟨by omega, fun q => ⟨e.mp (by omega), by simp, fun a ha b hb => ?_⟩, fun q => by have := e.mpr q.1; omega⟩
    rw [List.mem_singleton.mp hb]
    intro z
    exact hm (z ▸ ha)
theorem setOf_as {prog : Program} {w : World} {h h' : Heap} {a : Addr} {S S' : Key → Bool} {n : Nat} (R : h.SetOf (mixKind prog w) a S n) (k : ∀ o, h.get? a = some o → h'.get? a = some o) (e : ∀ x, S x = S' x) : h'.SetOf (mixKind prog w) a S' n := by
  obtain rfl : S = S' := funext e
  obtain ⟨o, es, ep, t, ho, r⟩ := R
  exact ⟨o, es, ep, t, k o ho, r⟩
section
variable {prog : Program} {w : World} {A : Around} {E : Value → Shared → Prop} {s : Shared}
theorem set_loop {I : Addr} {fp wr : List Addr} {G : Array GenState → Array GenState → Prop} {n : Nat} {Pv : Nat → Value → Prop} {Sv : Nat → Shared → Prop} {R : Result → Shared → Prop}
    (W : WalksS prog w A.in1 I fp wr G n Pv Sv) (S : Addr) (hSf : S ∉ fp) (ks : List Key) (hn : n = ks.length) (hb : ks.length + 1 < scanBound) (hval : ∀ i v, Pv i v → ∃ k, ks[i]? = some k ∧ RelV (kV k) v) :
    ∀ (m i c : Nat) (s : Shared), n - i = m → i ≤ n → Sv i s → s.heap.SetOf (mixKind prog w) S (fun q => inK (ks.take i) q) c → c ≤ i → (c = i ↔ (ks.take i).Nodup) →
      (∀ s' c', Moved (S :: wr) G s s' → s'.heap.SetOf (mixKind prog w) S (fun q => inK ks q) c' → c' ≤ n → (c' = n ↔ ks.Nodup) → R (.ok (.ret .none)) s') →
      codeAny (model prog w) A (.builtin "set.update.loop" ⟨[.ref S, .ref I], []⟩) R s := by
  have nSw : S ∉ wr := fun h => hSf (W.sub _ h)
  have sub : ∀ b ∈ wr, b ∈ S :: wr := fun b => List.mem_cons_of_mem _
  intro m
  induction m with
  | zero =>
    intro i c s hm hi hst hS hc he hR
    obtain rfl : i = n := by omega
    have all : ks.take i = ks := List.take_of_length_le (Nat.le_of_eq hn.symm)
    rw [all] at hS he
    refine codeAny_builtin F.entry_set_update_loop ?_
    rw [Around.under_plainId F.plain_set_update_loop _]
    show wpAny _ A.in1 (pyNext (.ref I) >>= _) _ _ s
    refine wpAny_bind (W.done s _ _ hst fun s' mv => ?_)
    show wpAny _ A.in1 (ret Value.none) _ _ s'
    exact wpAny_pure (hR s' c (mv.mono sub) (setOf_as hS (fun o e => mv.heap S o nSw e) fun _ => rfl) hc he)
  | succ m ih =>
    intro i c s hm hi hst hS hc he hR
    have lt : i < n := by omega
    refine codeAny_builtin F.entry_set_update_loop ?_
    rw [Around.under_plainId F.plain_set_update_loop _]
    show wpAny _ A.in1 (pyNext (.ref I) >>= _) _ _ s
    refine wpAny_bind (W.item i s _ _ lt hst fun v s' hP hst' mv => ?_)
    obtain ⟨k, hk, rk⟩ := hval i v hP
    have hS1 := setOf_as hS (fun o e => mv.heap S o nSw e) fun _ => rfl
    show wpAny _ A.in1 (holding [v] (setAdd S v) >>= _) _ _ s'
    refine wpAny_bind (wpAny_holding ?_)
    unfold setAdd
    refine wpAny_holding (wpAny_bind ((mixKind prog w).pyHash (k := k) (kV_is rk) ?_))
    refine wpAny_setAddHashed_of (knd := mixKind prog w) (s := { s' with toks := s'.toks + 1 }) (kV_is rk) (key_scan rk) hS1 (by omega) fun h' sb hS2 => ?_
    obtain ⟨c1, c2⟩ := nodup_step hk hc he
    refine wpAny_pure ⟨plainId_quiet F.plain_set_update_loop _, ih (i + 1) _ _ (by omega) lt (W.frame _ s' _ _ hst' (Nat.le_succ _) fun b hb o e => ?_) (setOf_as hS2 (fun _ e => e) fun q => ?_) c1 c2 fun s2 c3 mv2 hS3 hc3 he3 => ?_⟩
    · rw [sb.2 b fun z : b = S => hSf (z ▸ hb)]
      exact e
    · rw [List.take_add_one, hk]
      exact inK_app.symm
    · refine hR s2 c3 (Moved.trans W.gtrans ((mv.mono sub).then_heap (Nat.le_succ _) fun b o hb e => ?_) mv2) hS3 hc3 he3
      rw [sb.2 b fun z : b = S => hb (by rw [z]; exact List.mem_cons_self)]
      exact e
/-- what set(xs) leaves -/
def SetEnd (prog : Program) (w : World) (s : Shared) (ks : List Key) (h' : Heap) : Prop :=
  (∃ c, h'.SetOf (mixKind prog w) s.heap.objs.size (fun q => inK ks q) c ∧ c ≤ ks.length ∧ (c = ks.length ↔ ks.Nodup)) ∧ ∀ b o, s.heap.get? b = some o → h'.get? b = some o
theorem set_fresh {h : Heap} {a : Addr} {led : Bool} {ks : List Key} (ho : h.get? a = some { cls := .type "set", dict := none, data := .set #[] 0 (.fresh 0 0 led) }) : h.SetOf (mixKind prog w) a (fun q => inK (ks.take 0) q) 0 :=
  ⟨_, #[], 0, _, ho, ⟨rfl, rfl, rfl⟩, rfl, (fun e he => by simp at he), (fun k => by simp [inK]), (by decide), (by rfl), rfl⟩
theorem keys_at {ks : List Key} {us : List Value} (r : Vals (ks.map kV) us) {i : Nat} {v : Value} (e : us[i]? = some v) : ∃ k, ks[i]? = some k ∧ RelV (kV k) v := by
  have hl := r.length
  rw [List.length_map] at hl
  have hi : i < ks.length := by
    rw [hl]
    exact (List.getElem?_eq_some_iff.mp e).1
  obtain ⟨u, hu, ru⟩ := r.get (i := i) (x := kV ks[i]) (by rw [List.getElem?_map, List.getElem?_eq_getElem hi]; rfl)
  rw [e] at hu
  cases hu
  exact ⟨ks[i], List.getElem?_eq_getElem hi, ru⟩
end
end Pw

namespace Pw
open PySem PySem.Spec PyProof.Rows L2
section
variable {prog : Program} {w : World} {A : Around} {E : Value → Shared → Prop} {s : Shared}
theorem set_of_list {l : Addr} {us : List Value} {ks : List Key} {Q : Value → Shared → Prop} (hh : A.handled = none) (hl : s.heap.IsList l us.toArray) (r : Vals (ks.map kV) us) (hb : ks.length + 1 < scanBound)
    (h : ∀ h' tk, SetEnd prog w s ks h' → Q (.ref s.heap.objs.size) { s with heap := h', toks := tk }) : wpAny (model prog w) A (call (.type "set") [.ref l]) Q E s := by
  have hlen : us.toArray.size = ks.length := by rw [List.size_toArray, ← r.length, List.length_map]
  generalize hI : us.toArray = items at hl hlen
  obtain ⟨c, tl, hmro⟩ := F.called_set.mro
  have hmade := F.called_set.made
  have hsub := F.called_set.sub
  refine wpAny_call (codeAny_of_tree ?_)
  show wpAny _ _ (callAny (.type "set") _) _ _ _
  refine wpAny_pure ⟨Code.quiet_builtin _ (by decide +kernel), codeAny_builtin F.entry_type_call ?_⟩
  rw [Around.under_plain (weight_type_call_type "set" [.ref l] []) rfl]
  have h1 := F.called_set.notType
  have h2 := F.called_set.canCreate
  have hct := F.typeCall_set_1 (.ref l)
  repeat (any_goals (first | assumption | wp_step))
  refine codeAny_mono (code_set_new_1 (.ref l) (E := E) (Q₁ := fun obj s1 => ∃ led : Bool, obj = .ref s.heap.objs.size ∧ s1 = { s with heap := s.heap.push { cls := .type "set", dict := none, data := .set #[] 0 (.fresh 0 0 led) } }) fun led => ⟨led, rfl, rfl⟩) fun res s1 hr => ?_
  cases res with
  | error e => exact hr
  | ok fl =>
    cases fl with
    | ret obj =>
      obtain ⟨led, rfl, rfl⟩ := hr
      have hS : (s.heap.push { cls := .type "set", dict := none, data := .set #[] 0 (.fresh 0 0 led) }).get? s.heap.objs.size = some { cls := .type "set", dict := none, data := .set #[] 0 (.fresh 0 0 led) } := Heap.get?_push_size _ rfl
      have hT : Shared.TypeIs { s with heap := s.heap.push { cls := .type "set", dict := none, data := .set #[] 0 (.fresh 0 0 led) } } (.ref s.heap.objs.size) "set" := ⟨_, hS, rfl⟩
      have hli := F.called_set.init.lookup
      have hbi := F.called_set.init.bind (.ref s.heap.objs.size)
      repeat (any_goals (first | assumption | wp_step))
      refine codeAny_mono (codeAny_call_builtin (R := wants (fun r2 s2 => r2 = .none ∧ ∃ h' tk, s2 = { s with heap := h', toks := tk } ∧ SetEnd prog w s ks h') E) F.called_set.init.plain F.entry_set_init (check_set_init_1 hT ?_)) fun r2 s2 hr2 => ?_
      · obtain ⟨⟨ocls, odict, odata, oslots⟩, hol, hcl, nl, hdl⟩ := hl
        simp only at hcl hdl
        subst hcl hdl
        have hol' : (s.heap.push { cls := .type "set", dict := none, data := .set #[] 0 (.fresh 0 0 led) }).get? l = some { cls := .type "list", dict := odict, data := .seq items nl, slots := oslots } := Heap.get?_push_of_some _ hol
        have hsls := F.sub_list_set
        have hslf := F.sub_list_frozenset
        have hne : (Value.type "list" == Value.type "dict") = false := by decide
        have hl1 : (s.heap.push { cls := .type "set", dict := none, data := .set #[] 0 (.fresh 0 0 led) }).IsList l items := ⟨_, hol', rfl, nl, rfl⟩
        unfold Builtin.«set.__init__» noKeywords Builtin.Frozenset.updateFrom
        generalize hPI : pyIter = PI
        wp_walk
        subst hPI
        refine wpAny_pyIter_list hl1 ?_
        refine wpAny_bind (wpAny_runValue ?_)
        have hlS : l < s.heap.objs.size := Heap.lt_size hol
        have zS : (s.heap.push { cls := .type "set", dict := none, data := .set #[] 0 (.fresh 0 0 led) }).objs.size = s.heap.objs.size + 1 := Heap.size_push ..
        have neI : l ≠ (s.heap.push { cls := .type "set", dict := none, data := .set #[] 0 (.fresh 0 0 led) }).objs.size := by
          rw [zS]; exact Nat.ne_of_lt (Nat.lt_succ_of_lt hlS)
        refine set_loop ((Walks.list (show A.in1.in1.in1.handled = none by simp [hh]) _ l neI items).toS) s.heap.objs.size (by simp only [List.mem_cons, List.not_mem_nil, or_false, not_or]; rw [zS]; exact ⟨Nat.ne_of_lt (Nat.lt_succ_self _), Nat.ne_of_gt hlS⟩) ks hlen hb
          (fun i v hv => keys_at r (by rw [← hI] at hv; simpa using hv)) (items.size - 0) 0 0 _ rfl (Nat.zero_le _) ⟨⟨_, Heap.get?_push_size _ rfl, rfl, rfl⟩, hl1.push _⟩ (set_fresh (led := led) (Heap.get?_push_of_some _ hS)) (Nat.le_refl _) (by simp) fun s' c' mv hS' hc' he' => ?_
        obtain ⟨h', g', d', tk', os'⟩ := s'
        obtain rfl : g' = s.gens := mv.gens
        obtain rfl : d' = s.drawn := mv.drawn
        obtain rfl : os' = s.os := mv.os
        show wpAny _ _ _ _ _ _
        refine wpAny_pure ?_
        show wpAny _ _ (ret Value.none) _ _ _
        rw [hlen] at hc' he'
        refine wpAny_pure ⟨rfl, h', tk', rfl, ⟨c', hS', hc', he'⟩, fun b o e => ?_⟩
        have lb : b < s.heap.objs.size := Heap.lt_size e
        exact mv.heap b o (by simp only [List.mem_cons, List.not_mem_nil, or_false, not_or]; rw [zS]; exact ⟨Nat.ne_of_lt lb, Nat.ne_of_lt (Nat.lt_succ_of_lt lb)⟩) (Heap.get?_push_of_some _ (Heap.get?_push_of_some _ e))
      · cases r2 with
        | error e => exact hr2
        | ok f2 =>
          cases f2 with
          | ret v2 =>
            obtain ⟨rfl, h', tk, rfl, hE⟩ := hr2
            repeat (any_goals (first | assumption | wp_step))
            exact h _ _ hE
          | _ => exact hr2.elim
    | _ => exact hr.elim
end
end Pw

namespace Pw
open PySem PySem.Spec PyProof.Rows L2
section
variable {prog : Program} {w : World} {A : Around} {E : Value → Shared → Prop} {s : Shared}
theorem set_of_tuple {l : Addr} {us : List Value} {ks : List Key} {Q : Value → Shared → Prop} (hh : A.handled = none) (hl : s.heap.IsTuple l us.toArray) (r : Vals (ks.map kV) us) (hb : ks.length + 1 < scanBound)
    (h : ∀ h' tk, SetEnd prog w s ks h' → Q (.ref s.heap.objs.size) { s with heap := h', toks := tk }) : wpAny (model prog w) A (call (.type "set") [.ref l]) Q E s := by
  have hlen : us.toArray.size = ks.length := by rw [List.size_toArray, ← r.length, List.length_map]
  generalize hI : us.toArray = items at hl hlen
  obtain ⟨c, tl, hmro⟩ := F.called_set.mro
  have hmade := F.called_set.made
  have hsub := F.called_set.sub
  refine wpAny_call (codeAny_of_tree ?_)
  show wpAny _ _ (callAny (.type "set") _) _ _ _
  refine wpAny_pure ⟨Code.quiet_builtin _ (by decide +kernel), codeAny_builtin F.entry_type_call ?_⟩
  rw [Around.under_plain (weight_type_call_type "set" [.ref l] []) rfl]
  have h1 := F.called_set.notType
  have h2 := F.called_set.canCreate
  have hct := F.typeCall_set_1 (.ref l)
  repeat (any_goals (first | assumption | wp_step))
  refine codeAny_mono (code_set_new_1 (.ref l) (E := E) (Q₁ := fun obj s1 => ∃ led : Bool, obj = .ref s.heap.objs.size ∧ s1 = { s with heap := s.heap.push { cls := .type "set", dict := none, data := .set #[] 0 (.fresh 0 0 led) } }) fun led => ⟨led, rfl, rfl⟩) fun res s1 hr => ?_
  cases res with
  | error e => exact hr
  | ok fl =>
    cases fl with
    | ret obj =>
      obtain ⟨led, rfl, rfl⟩ := hr
      have hS : (s.heap.push { cls := .type "set", dict := none, data := .set #[] 0 (.fresh 0 0 led) }).get? s.heap.objs.size = some { cls := .type "set", dict := none, data := .set #[] 0 (.fresh 0 0 led) } := Heap.get?_push_size _ rfl
      have hT : Shared.TypeIs { s with heap := s.heap.push { cls := .type "set", dict := none, data := .set #[] 0 (.fresh 0 0 led) } } (.ref s.heap.objs.size) "set" := ⟨_, hS, rfl⟩
      have hli := F.called_set.init.lookup
      have hbi := F.called_set.init.bind (.ref s.heap.objs.size)
      repeat (any_goals (first | assumption | wp_step))
      refine codeAny_mono (codeAny_call_builtin (R := wants (fun r2 s2 => r2 = .none ∧ ∃ h' tk, s2 = { s with heap := h', toks := tk } ∧ SetEnd prog w s ks h') E) F.called_set.init.plain F.entry_set_init (check_set_init_1 hT ?_)) fun r2 s2 hr2 => ?_
      · obtain ⟨⟨ocls, odict, odata, oslots⟩, hol, hcl, nl, hdl⟩ := hl
        simp only at hcl hdl
        subst hcl hdl
        have hol' : (s.heap.push { cls := .type "set", dict := none, data := .set #[] 0 (.fresh 0 0 led) }).get? l = some { cls := .type "tuple", dict := odict, data := .seq items nl, slots := oslots } := Heap.get?_push_of_some _ hol
        have hsls := F.sub_tuple_set
        have hslf := F.sub_tuple_frozenset
        have hne : (Value.type "tuple" == Value.type "dict") = false := by decide
        have hl1 : (s.heap.push { cls := .type "set", dict := none, data := .set #[] 0 (.fresh 0 0 led) }).IsTuple l items := ⟨_, hol', rfl, nl, rfl⟩
        unfold Builtin.«set.__init__» noKeywords Builtin.Frozenset.updateFrom
        generalize hPI : pyIter = PI
        wp_walk
        subst hPI
        refine wpAny_pyIter_tuple hl1 ?_
        refine wpAny_bind (wpAny_runValue ?_)
        have hlS : l < s.heap.objs.size := Heap.lt_size hol
        have zS : (s.heap.push { cls := .type "set", dict := none, data := .set #[] 0 (.fresh 0 0 led) }).objs.size = s.heap.objs.size + 1 := Heap.size_push ..
        have neI : l ≠ (s.heap.push { cls := .type "set", dict := none, data := .set #[] 0 (.fresh 0 0 led) }).objs.size := by
          rw [zS]; exact Nat.ne_of_lt (Nat.lt_succ_of_lt hlS)
        refine set_loop ((Walks.tuple (show A.in1.in1.in1.handled = none by simp [hh]) _ l neI items).toS) s.heap.objs.size (by simp only [List.mem_cons, List.not_mem_nil, or_false, not_or]; rw [zS]; exact ⟨Nat.ne_of_lt (Nat.lt_succ_self _), Nat.ne_of_gt hlS⟩) ks hlen hb
          (fun i v hv => keys_at r (by rw [← hI] at hv; simpa using hv)) (items.size - 0) 0 0 _ rfl (Nat.zero_le _) ⟨⟨_, Heap.get?_push_size _ rfl, rfl, rfl⟩, hl1.push _⟩ (set_fresh (led := led) (Heap.get?_push_of_some _ hS)) (Nat.le_refl _) (by simp) fun s' c' mv hS' hc' he' => ?_
        obtain ⟨h', g', d', tk', os'⟩ := s'
        obtain rfl : g' = s.gens := mv.gens
        obtain rfl : d' = s.drawn := mv.drawn
        obtain rfl : os' = s.os := mv.os
        show wpAny _ _ _ _ _ _
        refine wpAny_pure ?_
        show wpAny _ _ (ret Value.none) _ _ _
        rw [hlen] at hc' he'
        refine wpAny_pure ⟨rfl, h', tk', rfl, ⟨c', hS', hc', he'⟩, fun b o e => ?_⟩
        have lb : b < s.heap.objs.size := Heap.lt_size e
        exact mv.heap b o (by simp only [List.mem_cons, List.not_mem_nil, or_false, not_or]; rw [zS]; exact ⟨Nat.ne_of_lt lb, Nat.ne_of_lt (Nat.lt_succ_of_lt lb)⟩) (Heap.get?_push_of_some _ (Heap.get?_push_of_some _ e))
      · cases r2 with
        | error e => exact hr2
        | ok f2 =>
          cases f2 with
          | ret v2 =>
            obtain ⟨rfl, h', tk, rfl, hE⟩ := hr2
            repeat (any_goals (first | assumption | wp_step))
            exact h _ _ hE
          | _ => exact hr2.elim
    | _ => exact hr.elim
end
end Pw

namespace Pw
open PySem PySem.Spec PyProof.Rows L2
section
variable {X : Cx}
/-- len(set(xs)), xs a list or a tuple of keys -/
def tLenSetK (K : PySem.W.Frag) (ta : TE) : TE := fun σ H Q => ta σ H fun x H1 => ∃ (l : Addr) (ks : List Key), x = .ref l ∧ (SqL K H1 l (ks.map kV) ∨ SqT K H1 l (ks.map kV)) ∧ ks.length ≤ 4000 ∧
  ∀ n : Nat, n ≤ ks.length → (n = ks.length ↔ ks.Nodup) → Q (.int (n : Nat)) H1
theorem pe_lenSetK {a : Expr} {ta : TE} {p p2 q pos : Pos} (hg : Gl X "len") (hm : X.mg "len" = none) (hg2 : Gl X "set") (hm2 : X.mg "set" = none) (ha : PE X a ta) (hc : X.calm = true)
    (na : starEach [a] X.env = (false, eval a X.env) :: starEach [] X.env := by rfl) : PE X (.Call (.Name "len" p) [.Call (.Name "set" p2) [a] [] q] [] pos) (tLenSetK X.K ta) := by
  refine ⟨fun pins s σ H Q I h => ?_⟩
  refine Call_ (ld_blt I hg hm boot_len ?_)
  refine PyProof.Rows.callWith_builtin1 (PyProof.Rows.args_cons ?_ rfl) rfl rfl
  refine Call_ (ld_blt I hg2 hm2 boot_set ?_)
  refine PyProof.Rows.callWith_type1 (PyProof.Rows.args_cons (thn (ha.run pins s σ H _ I h) fun v s1 ⟨x, H1, I1, r1, q1⟩ => PyProof.Rows.args_nil ?_) na) na rfl
  obtain ⟨l, ks, rfl, hq, hl, q1⟩ := q1
  cases r1
  rcases hq with hq | hq
  · obtain ⟨its, r, pl, hz⟩ := I1.list hq
    refine set_of_list (I1.ok.hd hc) pl.isList r (by unfold scanBound; omega) fun h' tk hS => PyProof.Rows.args_nil ?_
    obtain ⟨⟨c, ⟨o, es, ep, t, ho, hex, hd, _, _, _, hf, hn⟩, hc1, hc2⟩, hk⟩ := hS
    have I2 : Inv X pins σ H1 { s1 with heap := h', toks := tk } := I1.kept hk
    exact call_len_set ho hex hd hf (by rw [hn]; omega) ⟨.int c, H1, I2.tok _, ⟨_, by rw [hn]⟩, q1 c hc1 hc2⟩
  · obtain ⟨its, r, pl, hz⟩ := I1.tuple hq
    refine set_of_tuple (I1.ok.hd hc) pl r (by unfold scanBound; omega) fun h' tk hS => PyProof.Rows.args_nil ?_
    obtain ⟨⟨c, ⟨o, es, ep, t, ho, hex, hd, _, _, _, hf, hn⟩, hc1, hc2⟩, hk⟩ := hS
    have I2 : Inv X pins σ H1 { s1 with heap := h', toks := tk } := I1.kept hk
    exact call_len_set ho hex hd hf (by rw [hn]; omega) ⟨.int c, H1, I2.tok _, ⟨_, by rw [hn]⟩, q1 c hc1 hc2⟩
end
end Pw

/-! dict(zip(xs, ys)) as one expression; repr of scalars, of lists and dicts of such, one level deeper at most, where nothing is being shown already. -/
namespace Pw
open PySem PySem.Spec PyProof.Rows L2
abbrev St := L2.St
section
variable {X : Cx}
/-- dict(zip(xs, ys)): xs keys -/
def tDictZip (K : PySem.W.Frag) (ta : TA) : TE := fun σ H Q => ta σ H fun vs H1 => ∃ (a b : Addr) (ks : List Key) (ys : List V), vs = [.ref a, .ref b] ∧ SqL K H1 a (ks.map kV) ∧ SqL K H1 b ys ∧ ks.length = ys.length ∧
  ∀ p, H1 p = none → Q (.ref p) (upd H1 p (.dK (mergeK [] (ks.zip ys))))
theorem zip_kv : ∀ {ks : List Key} {ys : List V} {us : List Value}, Vals ys us → KV (ks.zip ys) (ks.zip us)
  | [], _, _, _ => .nil
  | _ :: _, [], _, r => by
    cases r
    exact .nil
  | k :: ks, y :: ys, _, .cons h t => .cons ⟨rfl, h⟩ (zip_kv (ks := ks) t)
theorem keyAt {ks : List Key} {us : List Value} (r : Vals (ks.map kV) us) {i : Nat} {v : Value} (e : us[i]? = some v) : ∃ k, ks[i]? = some k ∧ RelV (kV k) v := by
  have hl := r.length
  rw [List.length_map] at hl
  have hi : i < ks.length := by
    rw [hl]
    exact (List.getElem?_eq_some_iff.mp e).1
  obtain ⟨u, hu, ru⟩ := r.get (i := i) (x := kV ks[i]) (by rw [List.getElem?_map, List.getElem?_eq_getElem hi]; rfl)
  rw [e] at hu
  cases hu
  exact ⟨ks[i], List.getElem?_eq_getElem hi, ru⟩
theorem pe_dictZip {e e2 : Expr} {ta : TA} {p p2 pos pos2 : Pos} (hc : X.calm = true) (hg : Gl X "dict") (hm : X.mg "dict" = none) (hg2 : Gl X "zip") (hm2 : X.mg "zip" = none) (ha : PA X [e, e2] ta)
    (hs : starEach [e, e2] X.env = (false, eval e X.env) :: starEach [e2] X.env := by rfl) (hpl : (backTo pos2 (starEach [e2] X.env)).any (·.1) = false := by rfl) :
    PE X (.Call (.Name "dict" p) [.Call (.Name "zip" p2) [e, e2] [] pos2] [] pos) (tDictZip X.K ta) := by
  refine ⟨fun pins s σ H Q I h => ?_⟩
  refine Call_ (ld_blt I hg hm boot_dict ?_)
  refine PyProof.Rows.callWith_type1 (PyProof.Rows.args_cons ?_ rfl) rfl rfl
  refine Call_ (ld_blt I hg2 hm2 PyProof.Rows.boot_zip (PyProof.Rows.callWith_type1 (thn (ha.run pos2 pins s σ H _ I h) fun us s1 hh => ?_) hs hpl))
  obtain ⟨vs, H1, I1, r1, a, b, ks, ys, ev, hqa, hqb, hl, q⟩ := hh
  subst ev
  cases r1 with
  | cons ra rr =>
    cases rr with
    | cons rb rn =>
      cases rn
      cases ra
      cases rb
      obtain ⟨is, rv, pl, hz⟩ := I1.list hqa
      obtain ⟨js, rw_, pl2, hz2⟩ := I1.list hqb
      have li : is.length = ks.length := by rw [← rv.length, List.length_map]
      have lj : js.length = ys.length := rw_.length.symm
      have la : a < s1.heap.objs.size := pl.lt
      have lb : b < s1.heap.objs.size := pl2.lt
      refine call_zip_2 pl.isList pl2.isList fun h' z1 z2 z3 z4 z5 hsz hk => PyProof.Rows.args_nil ?_
      have I2 : Inv X pins σ H1 { s1 with heap := h' } := I1.kept (t' := s1.toks) hk
      have P := PairArg.zip (prog := X.prog) (w := X.w) (s1.heap.objs.size + 4) (s1.heap.objs.size + 2) (s1.heap.objs.size + 3) s1.heap.objs.size (s1.heap.objs.size + 1) a b (PySem.W.ktu_apart s1.heap.objs.size a b la lb) is.toArray js.toArray
      refine PySem.call_dict_pairs (s := { s1 with heap := h' }) (knd := mixKind X.prog X.w) (kvs := ks.zip js) P (I1.ok.hd hc) ⟨z1, z2, ⟨_, _, z3⟩, z4, z5, pl.isList.at fun o e => hk _ o e, pl2.isList.at fun o e => hk _ o e⟩ ⟨?_, fun i k v hr => ?_⟩ ?_ fun h2 tk hd k2 => ?_
      · rw [List.length_zip, List.size_toArray, List.size_toArray, li]
      · obtain ⟨hr1, hr2⟩ := hr
        obtain ⟨k0, e0, rk⟩ := keyAt rv (i := i) (v := k) (by simpa using hr1)
        exact ⟨k0, by rw [List.getElem?_zip_eq_some]; exact ⟨e0, by simpa using hr2⟩, kV_is rk⟩
      · rw [List.size_toArray, List.size_toArray, li]
        rw [List.length_map] at hz
        omega
      · have new : ∀ c, c ∈ [s1.heap.objs.size + 4, s1.heap.objs.size + 3, s1.heap.objs.size, s1.heap.objs.size + 1] → s1.heap.objs.size ≤ c := fun c hc => by
          simp only [List.mem_cons, List.not_mem_nil, or_false] at hc
          omega
        have big : sysModules < h'.objs.size := by
          rw [hsz]
          exact Nat.lt_of_lt_of_le I1.big (Nat.le_add_right _ _)
        have sz2 : h'.objs.size ≤ h2.objs.size := by
          obtain ⟨o, _, _, ho, _⟩ := hd
          exact Nat.le_of_lt (Heap.lt_size ho)
        have I3 : Inv X pins σ H1 { s1 with heap := h2, toks := tk } := I1.kept (t' := tk) fun c o e => k2 c o (fun hm => absurd (Heap.lt_size e) (Nat.not_lt.mpr (new c hm))) (hk c o e)
        have hf : H1 h'.objs.size = none := I1.hok.fresh (by rw [hsz]; exact Nat.le_add_right _ _)
        have hlen : (mergeK [] (ks.zip ys)).length ≤ sizeLine := by
          refine Nat.le_trans (length_mergeK _ _) ?_
          rw [List.length_nil, Nat.zero_add, List.length_zip]
          omega
        refine ⟨.ref h'.objs.size, upd H1 h'.objs.size (.dK (mergeK [] (ks.zip ys))), ?_, rfl, q _ hf⟩
        have ok : ObjOk X.prog X.w (upd H1 h'.objs.size (.dK (mergeK [] (ks.zip ys)))) h2 h'.objs.size (.dK (mergeK [] (ks.zip ys))) :=
          ⟨hlen, beq_eq_false_iff_ne.mpr (Nat.ne_of_gt big), merged [] (ks.zip js), KV.merge (zip_kv rw_) .nil, hd⟩
        exact I1.laid (t' := tk) (fun c o e => k2 c o (fun hm => absurd (Heap.lt_size e) (Nat.not_lt.mpr (new c hm))) (hk c o e)) (by rw [hsz]; exact Nat.le_add_right _ _) ok

/-! ### repr -/
/-- a value without parts and its text -/
inductive Scal : V → Str → Prop
  | non : Scal .non "None"
  | bl (b : Bool) : Scal (.bl b) (if b then "True" else "False")
  | int {i : Int} (h : i.natAbs.log2 < 1920) : Scal (.int i) (toString i)
  | str {x : Str} (h : (reprText x).length ≤ sizeLine) : Scal (.str x) (reprText x)
/-- a scalar, or a list or a tuple of such -/
inductive Flat1 (H : Hp) : V → Str → Prop
  | sc {v : V} {t : Str} (h : Scal v t) : Flat1 H v t
  | lst {a : Addr} {vs : List V} {ts : List Str} (h : H a = some (.lst vs)) (p : Paired Scal vs ts) : Flat1 H (.ref a) (listText ts)
  | tup {a : Addr} {vs : List V} {ts : List Str} (h : H a = some (.tup vs)) (p : Paired Scal vs ts) : Flat1 H (.ref a) (tupleText ts)
/-- .. or a list, a dict of these -/
inductive Shown (H : Hp) : V → Str → Prop
  | sc {v : V} {t : Str} (h : Scal v t) : Shown H v t
  | lst {a : Addr} {vs : List V} {ts : List Str} (h : H a = some (.lst vs)) (p : Paired (Flat1 H) vs ts) (z : (listText ts).length ≤ sizeLine) : Shown H (.ref a) (listText ts)
  | dct {a : Addr} {kvs : List (Key × V)} {tk tv : List Str} (h : H a = some (.dK kvs)) (pk : Paired (fun (kv : Key × V) t => Scal (kV kv.1) t) kvs tk) (pv : Paired (fun (kv : Key × V) t => Flat1 H kv.2 t) kvs tv)
      (z : (dictText (List.zipWith (fun k v : Str => k ++ ": " ++ v) tk tv)).length ≤ sizeLine) : Shown H (.ref a) (dictText (List.zipWith (fun k v : Str => k ++ ": " ++ v) tk tv))
theorem Flat1.same {H H' : Hp} (s : Same H H') {v : V} {t : Str} (f : Flat1 H v t) : Flat1 H' v t := by
  cases f with
  | sc h => exact .sc h
  | lst h p => exact .lst (s _ _ h) p
  | tup h p => exact .tup (s _ _ h) p
theorem Shown.same {H H' : Hp} (s : Same H H') {v : V} {t : Str} (f : Shown H v t) : Shown H' v t := by
  cases f with
  | sc h => exact .sc h
  | lst h p z => exact .lst (s _ _ h) (Paired.mapP p fun _ _ q => q.same s) z
  | dct h pk pv z => exact .dct (s _ _ h) pk (Paired.mapP pv fun _ _ q => q.same s) z
theorem Scal.is {P : Program} {w : World} {v : V} {t : Str} {u : Value} (f : Scal v t) (r : RelV v u) : ReprIs P w u t := by
  cases f with
  | non => cases r; exact ReprIs.none
  | bl b => cases r; exact ReprIs.bool b
  | int h => obtain ⟨k, rfl⟩ := r; exact ReprIs.int k h
  | str h => obtain ⟨k, rfl⟩ := r; exact ReprIs.str _ k h
theorem Scal.noref {v : V} {t : Str} (f : Scal v t) (a : Addr) : v ≠ .ref a := by
  cases f <;> exact fun z => nomatch z
theorem scals_all {P : Program} {w : World} {h : Heap} {d : Nat} {as : List Addr} : ∀ {vs : List V} {ts : List Str} {us : List Value}, Paired Scal vs ts → Vals vs us → ReprAllK P w as h d us ts
  | _, _, _, .nil, .nil => .nil
  | _, _, _, .cons f p, .cons r q => .cons (.of_is (f.is r) as h d) (scals_all p q)
/-- at most one level: the text, whatever address a stands around -/
theorem Flat1.repr {pins : List (Addr × Obj)} {σ : St} {H : Hp} {s : Shared} {v : V} {t : Str} {u : Value} {a : Addr} (I : Inv X pins σ H s) (f : Flat1 H v t) (r : RelV v u) (na : ∀ b, v = .ref b → b ≠ a) :
    ∃ as, a ∉ as ∧ ReprK X.prog X.w as s.heap 1 u t := by
  cases f with
  | sc h => exact ⟨[], by simp, .of_is (h.is r) _ _ _⟩
  | @lst b vs ts h p =>
    cases r
    obtain ⟨its, rv, ⟨o, n, ho, hc, _, hd⟩, _⟩ := I.list (SqL.of h)
    have ne := na b rfl
    cases its with
    | nil =>
      cases rv
      cases p
      exact ⟨[], by simp, by
        have e : listText [] = ("[]" : Str) := listText_nil
        rw [e]
        exact ReprK.listEmpty ho hc hd⟩
    | cons x l =>
      have k := scals_all (P := X.prog) (w := X.w) (h := s.heap) (d := 0) (as := []) p rv
      refine ⟨[b], by simpa using Ne.symm ne, ReprK.list ho hc hd (by simp) (by simpa using k.length_eq) fun i y e => k.item i y (by simpa using e)⟩
  | @tup b vs ts h p =>
    cases r
    obtain ⟨its, rv, ⟨o, ho, hc, n, hd⟩, _⟩ := I.tuple (SqT.of h)
    have ne := na b rfl
    exact ⟨[b], by simpa using Ne.symm ne, ReprK.tuple ho hc hd (by simp) (by simpa using scals_all (P := X.prog) (w := X.w) (h := s.heap) (d := 0) (as := []) p rv)⟩
theorem flats_all {pins : List (Addr × Obj)} {σ : St} {H : Hp} {s : Shared} {a : Addr} (I : Inv X pins σ H s) : ∀ {vs : List V} {ts : List Str} {us : List Value}, Paired (Flat1 H) vs ts → Vals vs us → (∀ b, V.ref b ∈ vs → b ≠ a) →
    ∃ as, a ∉ as ∧ ReprAllK X.prog X.w as s.heap 1 us ts
  | _, _, _, .nil, .nil, _ => ⟨[], by simp, .nil⟩
  | _, _, _, .cons f p, .cons r q, na => by
    obtain ⟨as, h1, k1⟩ := f.repr I r fun b e => na b (by rw [e]; exact List.mem_cons_self)
    obtain ⟨bs, h2, k2⟩ := flats_all I p q fun b e => na b (List.mem_cons_of_mem _ e)
    exact ⟨as ++ bs, by simp [h1, h2], .cons (k1.more fun b hb => List.mem_append_left _ hb) (k2.more_le (fun b hb => List.mem_append_right _ hb) (Nat.le_refl _))⟩
/-- repr(x) -/
def rRepr : List V → Hp → VK → Prop := fun xs H Q => ∃ (x : V) (t : Str), xs = [x] ∧ Shown H x t ∧ Q (.str t) H
theorem flat_apart {H : Hp} {a : Addr} {vs : List V} {ts : List Str} (h : H a = some (.lst vs)) (p : Paired (Flat1 H) vs ts) : ∀ b, V.ref b ∈ vs → b ≠ a := by
  intro b hb e
  subst e
  obtain ⟨t, f⟩ : ∃ t, Flat1 H (.ref b) t := by
    clear h
    induction p with
    | nil => cases hb
    | cons f _ ih =>
      rcases List.mem_cons.mp hb with z | z
      · rw [z]; exact ⟨_, f⟩
      · exact ih z
  cases f with
  | sc q => exact q.noref b rfl
  | lst q pq =>
    rw [h] at q
    cases q
    clear h p
    induction pq with
    | nil => cases hb
    | cons f _ ih =>
      rcases List.mem_cons.mp hb with z | z
      · exact f.noref b z.symm
      · exact ih z
  | tup q _ => rw [h] at q; cases q
theorem dict_apart {H : Hp} {a : Addr} {kvs : List (Key × V)} {v : V} {t : Str} (h : H a = some (.dK kvs)) (f : Flat1 H v t) : ∀ b, v = .ref b → b ≠ a := by
  intro b e z
  subst e z
  cases f with
  | sc q => exact q.noref b rfl
  | lst q _ => rw [h] at q; cases q
  | tup q _ => rw [h] at q; cases q
theorem kV_of {k : Key} {u : Value} (h : keyIs k u = true) : RelV (kV k) u := by
  rcases keyIs_shape h with ⟨i, t, rfl, rfl⟩ | ⟨x, t, rfl, rfl⟩
  · exact ⟨t, rfl⟩
  · exact ⟨t, rfl⟩
theorem keys_all {P : Program} {w : World} {h : Heap} : ∀ {kvs : List (Key × V)} {tk : List Str} {vs : List (Key × Value)} {es : List DictEntry},
    Paired (fun (kv : Key × V) t => Scal (kV kv.1) t) kvs tk → KV kvs vs → Pairs (mixKind P w) es vs → ReprAllK P w [] h 0 (es.map (·.key)) tk
  | _, _, _, _, .nil, .nil, .nil => .nil
  | _, _, _, _, .cons f p, .cons g q, .cons h1 _ hr => .cons (.of_is (f.is (g.1 ▸ kV_of h1)) _ _ _) (keys_all p q hr)
theorem vals_of : ∀ {P : Program} {w : World} {kvs : List (Key × V)} {vs : List (Key × Value)} {es : List DictEntry}, KV kvs vs → Pairs (mixKind P w) es vs → Vals (kvs.map (·.2)) (es.map (·.val))
  | _, _, _, _, _, .nil, .nil => .nil
  | _, _, _, _, _, .cons g q, .cons _ h2 hr => .cons (by have e := g.2; rw [← h2] at e; exact e) (vals_of q hr)
theorem flats_map {H : Hp} : ∀ {kvs : List (Key × V)} {tv : List Str}, Paired (fun (kv : Key × V) t => Flat1 H kv.2 t) kvs tv → Paired (Flat1 H) (kvs.map (·.2)) tv
  | _, _, .nil => .nil
  | _, _, .cons f p => .cons f (flats_map p)
theorem dict_parts {H : Hp} {a : Addr} {kvs : List (Key × V)} {tv : List Str} (h : H a = some (.dK kvs)) (p : Paired (fun (kv : Key × V) t => Flat1 H kv.2 t) kvs tv) : ∀ b, V.ref b ∈ kvs.map (·.2) → b ≠ a := by
  intro b hb
  obtain ⟨kv, hkv, e⟩ := List.mem_map.mp hb
  obtain ⟨t, f⟩ : ∃ t, Flat1 H kv.2 t := by
    clear h hb
    induction p with
    | nil => cases hkv
    | cons f _ ih =>
      rcases List.mem_cons.mp hkv with z | z
      · rw [z]; exact ⟨_, f⟩
      · exact ih z
  exact dict_apart h f b e
theorem call_repr (hg : X.A.guards = some []) (hu : X.A.units + 8 < cLine) : CallR X (.builtin "repr") rRepr := by
  intro pins s σ H xs us Q I r h
  obtain ⟨x, t, rfl, f, q⟩ := h
  cases r with
  | cons r rr =>
    cases rr
    cases f with
    | sc f =>
      cases f with
      | non => cases r; exact P.repr_of_none ⟨.str _, H, I.tok _, ⟨_, rfl⟩, q⟩
      | bl b => cases r; exact P.repr_of_bool ⟨.str _, H, I.tok _, ⟨_, rfl⟩, q⟩
      | int hi => obtain ⟨k, rfl⟩ := r; exact P.repr_of_int hi ⟨.str _, H, I.tok _, ⟨_, rfl⟩, q⟩
      | str hs => obtain ⟨k, rfl⟩ := r; exact P.repr_of_str ⟨.str _, H, I.tok _, ⟨_, rfl⟩, q⟩ hs
    | @lst a vs ts h p z =>
      cases r
      obtain ⟨its, rv, ⟨o, n, ho, hc, hdn, hd⟩, _⟩ := I.list (SqL.of h)
      have hT : s.TypeIs (.ref a) "list" := ⟨o, ho, hc⟩
      refine call_repr_slot (by omega) hT F.slot_list_repr.toG ?_
      cases its with
      | nil =>
        cases rv
        cases p
        have e : listText [] = ("[]" : Str) := listText_nil
        rw [e] at q
        exact call_list_repr_empty hT ho hd ⟨_, _, rfl, .str _, H, I.tok _, ⟨_, rfl⟩, q⟩
      | cons x l =>
        obtain ⟨as, na, k⟩ := flats_all I p rv (flat_apart h p)
        exact call_list_reprK ho hc hd na (by simpa using k.length_eq) (fun i y e => k.item i y (by simpa using e)) hg (fun b _ => Clear.nil b) (by show X.A.units + 1 + 2 < _; omega) (fun _ _ e => e)
          (fun h' u tk hk => ⟨_, _, rfl, .str _, H, I.kept (t' := tk) hk, ⟨_, rfl⟩, q⟩) z
    | @dct a kvs tk tv h pk pv z =>
      cases r
      obtain ⟨hl, hsys, kvv, kv, o, es, ep, ho, hex, hd, _, hp, _⟩ := I.hok a _ h
      have hT : s.TypeIs (.ref a) "dict" := ⟨o, ho, hex.1⟩
      obtain ⟨as, na, k⟩ := flats_all I (flats_map pv) (vals_of kv hp) (dict_parts h pv)
      have kk := keys_all (h := s.heap) pk kv hp
      refine call_repr_slot (by omega) hT F.slot_dict_repr ?_
      exact call_dict_reprK ho hex.1 hd hsys na (ReprEntriesK.of_two es.toList _ _ (kk.more_le (fun _ hb => absurd hb (by simp)) (Nat.zero_le _)) k) hg (fun b _ => Clear.nil b) (by show X.A.units + 1 + 2 < _; omega) (fun _ _ e => e)
        (fun h' u tk hk => ⟨_, _, rfl, .str _, H, I.kept (t' := tk) hk, ⟨_, rfl⟩, q⟩) z
end
end Pw

/-! what a list's, a zip's, a tuple's iterator does at its end while an exception is handled. -/
namespace Pw
open PySem PySem.Spec PyProof.Rows HotX
section
variable {prog : Program} {w : World} {A : Around} {E : Value → Shared → Prop} {s : Shared}
theorem hot_keeps {x1 : Addr} {h h' : Heap} (hot : HotAt A x1 h) (k : ∀ o, h.get? x1 = some o → h'.get? x1 = some o) : HotAt A x1 h' := by
  obtain ⟨hh, o, vs, h1, d1, c1⟩ := hot
  exact ⟨hh, o, vs, k _ h1, d1, c1⟩
/-- something that isn't the handled exception: no field None at 2 -/
theorem hot_ne {x1 a : Addr} {h : Heap} {o : Obj} (hot : HotAt A x1 h) (ha : h.get? a = some o) (no : ∀ vs, o.data = .fields vs → vs[2]? ≠ some .none) : x1 ≠ a := by
  obtain ⟨_, o1, vs, h1, d1, c1⟩ := hot
  intro e
  subst e
  rw [h1] at ha
  cases ha
  exact no _ d1 c1
theorem stop_hot {α : Type} {x1 : Addr} {Q : α → Shared → Prop} (hot : HotAt A x1 s.heap) (h : ∀ h' e, (∀ b o, s.heap.get? b = some o → h'.get? b = some o) → (∃ o, h'.get? e = some o ∧ o.cls = .type "StopIteration") → E (.ref e) { s with heap := h' }) :
    wpAny (model prog w) A (newExc (.type "StopIteration") [] >>= fun e => (raiseNew e : Sem α)) Q E s := by
  obtain ⟨hh, o1, vs1, h1, d1, c1⟩ := hot
  refine wpAny_bind ?_
  simp only [newExc, newTuple]
  refine wpAny_bind (wpAny_newObj_type ?_ (by size_fits))
  refine wpAny_bind (m := firstArgMember _ _) (wpAny_of_eq (a := Value.none) (by first | rfl | (simp only [firstArgMember]; rfl)) ?_)
  refine wpAny_newObj_type ?_ (by size_fits)
  refine raiseNew_hot ⟨hh, o1, vs1, Heap.get?_push_of_some _ (Heap.get?_push_of_some _ h1), d1, c1⟩ (Nat.ne_of_lt (Heap.lt_size (Heap.get?_push_of_some _ h1))) (Heap.get?_push_size _ rfl) rfl (by first | (simp; done) | (simp; omega) | (simp only [Array.size_append]; simp; omega)) ?_
  refine h _ _ (fun b o e => ?_) ⟨_, Heap.get?_update_self _ (Heap.get?_push_size _ rfl) rfl, rfl⟩
  rw [Heap.get?_update_other _ _ (Nat.ne_of_gt (Heap.lt_size (Heap.get?_push_of_some _ e)))]
  exact Heap.get?_push_of_some _ (Heap.get?_push_of_some _ e)
theorem list_next_end_hot {it l x1 : Addr} {i : Nat} {items : Array Value} {Q : Fin → Shared → Prop} (hot : HotAt A x1 s.heap) (hit : s.heap.IsListIter it l i) (hl : s.heap.IsList l items) (hx : items[i]? = none)
    (h : ∀ h' e, Heap.ExtBut it s.heap h' → (∃ o, h'.get? e = some o ∧ o.cls = .type "StopIteration") → E (.ref e) { s with heap := h' }) : wpAny (model prog w) A (Builtin.«list_iterator.__next__» ⟨[.ref it], []⟩) Q E s := by
  obtain ⟨o, ho, hc, hd⟩ := id hit
  obtain ⟨ol, hol, _, nl, hdl⟩ := hl
  have hne : x1 ≠ it := hot_ne hot ho fun vs e => by rw [hd] at e; cases e; simp
  show wpAny _ _ (field (.ref it) 0 >>= _) _ _ s
  refine wpAny_bind (wpAny_field ho hd (x := .ref l) rfl ?_)
  show wpAny _ _ (if (Value.ref l == Value.none) = true then _ else _) _ _ s
  rw [if_neg (show ¬ ((Value.ref l == Value.none) = true) from Bool.false_ne_true)]
  show wpAny _ _ (field (.ref it) 1 >>= _) _ _ s
  refine wpAny_bind (wpAny_field ho hd (x := .int i 0) rfl ?_)
  show wpAny _ _ (seqItems? (.ref l) >>= _) _ _ s
  refine wpAny_bind (wpAny_seqItems hol hdl ?_)
  simp only [Int.toNat_natCast, hx]
  refine wpAny_bind (wpAny_rule (wpAny_bind (wpAny_setField ho hd (by simp) ?_)))
  show wpAny _ _ (newExc (.type "StopIteration") [] >>= fun e => raiseNew e) _ _ _
  refine stop_hot (hot_keeps hot fun o1 e => by rw [Heap.get?_update_other _ _ hne.symm]; exact e) fun h' e hk he => h h' e (fun b o' hb q => hk b o' ?_) he
  exact ((Heap.SameBut.update ..).extBut) b o' hb q
theorem nextOf_list_end_hot {it l x1 : Addr} {i : Nat} {items : Array Value} {Q : Value → Shared → Prop} (hot : HotAt A x1 s.heap) (hit : s.heap.IsListIter it l i) (hl : s.heap.IsList l items) (hx : items[i]? = none)
    (h : ∀ h' e, Heap.ExtBut it s.heap h' → (∃ o, h'.get? e = some o ∧ o.cls = .type "StopIteration") → E (.ref e) { s with heap := h' }) : wpAny (model prog w) A (Builtin.SmallTypes.nextOf (.ref it)) Q E s := by
  unfold Builtin.SmallTypes.nextOf
  exact wpAny_bind (wpAny_callSpecial?_slot (name := Str.ofString "__next__") hit.typeIs slot_listiter_next
    (wpAny_call_entry slot_listiter_next hit.typeIs entry_listiter_next (list_next_end_hot hot hit hl hx h) (args_listiter_next _)))
/-- zip of two lists, the first at its end -/
theorem zip_next_end_hot {z TI TO i1 i2 l1 l2 x1 : Addr} {k1 k2 : Nat} {xs ys : Array Value} {a b : Value} {Q : Fin → Shared → Prop} (hot : HotAt A x1 s.heap) (D : ZipApart z TI TO i1 i2 l1 l2)
    (hz : IsZip s.heap z TI TO .none) (hTI : IsPair s.heap TI (.ref i1) (.ref i2)) (hTO : IsPair s.heap TO a b)
    (h1 : s.heap.IsListIter i1 l1 k1) (h2 : s.heap.IsListIter i2 l2 k2) (hl1 : s.heap.IsList l1 xs) (hl2 : s.heap.IsList l2 ys) (hend : xs[k1]? = none)
    (hE : ∀ h' e, (∀ c o, c ≠ z → c ≠ TO → c ≠ i1 → c ≠ i2 → s.heap.get? c = some o → h'.get? c = some o) → (∃ o, h'.get? e = some o ∧ o.cls = .type "StopIteration") → E (.ref e) { s with heap := h' }) :
    wpAny (model prog w) A (Builtin.«zip.__next__» ⟨[.ref z], []⟩) Q E s := by
  have hxz : x1 ≠ z := hot_ne hot hz fun vs e => by cases e; simp
  show wpAny _ _ (field (.ref z) 2 >>= _) _ _ _
  refine wpAny_bind (wpAny_field hz rfl (x := .bool false) rfl ?_)
  show wpAny _ _ (field (.ref z) 3 >>= _) _ _ _
  refine wpAny_bind (wpAny_field hz rfl (x := .ref TI) rfl ?_)
  refine wpAny_bind (wpAny_seqItems hTI rfl ?_)
  show wpAny _ _ (Builtin.SmallTypes.ownedTupleIsFree (.ref z) >>= _) _ _ _
  refine wpAny_bind ?_
  unfold Builtin.SmallTypes.ownedTupleIsFree
  refine wpAny_bind (wpAny_field hz rfl (x := .none) rfl (wpAny_pure ?_))
  simp only [if_true]
  refine wpAny_bind (wpAny_rule ?_)
  refine wpAny_bind (wpAny_field hz rfl (x := .ref TO) rfl ?_)
  refine wpAny_bind (wpAny_setField_rec hz (by simp) fun h₁ hz₁ hs₁ => ?_)
  replace hz₁ : IsZip h₁ z TI TO .ellipsis := hz₁
  refine wpAny_bind ?_
  simp only [List.zipIdx_cons, List.zipIdx_nil, List.forIn_cons, List.forIn_nil]
  refine wpAny_bind (wpAny_bind (wpAny_onRaise ?_))
  show wpAny _ _ (Builtin.SmallTypes.nextOf (.ref i1) >>= _) _ _ _
  refine wpAny_bind (nextOf_list_end_hot (hot_keeps hot fun o q => hs₁.extBut _ _ hxz q) (h1.extBut hs₁.extBut D.i1z) (hl1.extBut hs₁.extBut D.l1z) hend fun h₂ e hs₂ he => ?_)
  obtain ⟨oe, hoe, hce⟩ := he
  have hz₂ : IsZip h₂ z TI TO .ellipsis := hs₂ _ _ D.i1z.symm hz₁
  have hez : e ≠ z := fun x => by subst x; rw [hz₂] at hoe; cases hoe; simp at hce
  refine wpAny_setField_rec hz₂ (by simp) fun h₃ _ hs₃ => hE h₃ e (fun c o c1 _ c3 _ x => hs₃.extBut _ _ c1 (hs₂ _ _ c3 (hs₁.extBut _ _ c1 x))) ⟨oe, hs₃.extBut _ _ hez hoe, hce⟩
theorem pyNext_zip_end_hot {z TI TO i1 i2 l1 l2 x1 : Addr} {k1 k2 : Nat} {xs ys : Array Value} {a b : Value} {Q : Option Value → Shared → Prop} (hot : HotAt A x1 s.heap) (D : ZipApart z TI TO i1 i2 l1 l2)
    (hz : IsZip s.heap z TI TO .none) (hTI : IsPair s.heap TI (.ref i1) (.ref i2)) (hTO : IsPair s.heap TO a b)
    (h1 : s.heap.IsListIter i1 l1 k1) (h2 : s.heap.IsListIter i2 l2 k2) (hl1 : s.heap.IsList l1 xs) (hl2 : s.heap.IsList l2 ys) (hend : xs[k1]? = none)
    (hQ : ∀ h', (∀ c o, c ≠ z → c ≠ TO → c ≠ i1 → c ≠ i2 → s.heap.get? c = some o → h'.get? c = some o) → Q none { s with heap := h' }) : wpAny (model prog w) A (pyNext (.ref z)) Q E s := by
  have hT : s.TypeIs (.ref z) "zip" := ⟨_, hz, rfl⟩
  unfold pyNext
  refine wpAny_bind (wpAny_attempt (wpAny_callSpecial?_slot (name := Str.ofString "__next__") hT F.slot_zip_next
    (wpAny_call_entry F.slot_zip_next hT F.entry_zip_next (zip_next_end_hot hot D hz hTI hTO h1 h2 hl1 hl2 hend fun h' e hk he => ?_) (F.args_zip_next_1 _))))
  obtain ⟨o, ho, hc⟩ := he
  refine wpAny_bind (wpAny_isInstance (T := "StopIteration") (b := true) ⟨o, ho, hc⟩ isSubtype_stop ?_)
  exact wpAny_pure (hQ _ hk)
theorem pyNext_tuple_end_hot {it t x1 : Addr} {i : Nat} {items : Array Value} {Q : Option Value → Shared → Prop} (hot : HotAt A x1 s.heap)
    (hit : s.heap.IsTupleIter it t i) (ht : s.heap.IsTuple t items) (hx : items[i]? = none)
    (hQ : ∀ h', Heap.ExtBut it s.heap h' → Q none { s with heap := h' }) : wpAny (model prog w) A (pyNext (.ref it)) Q E s := by
  obtain ⟨o, ho, hc, hd⟩ := id hit
  obtain ⟨ol, hol, _, nl, hdl⟩ := ht
  have hne : x1 ≠ it := hot_ne hot ho fun vs e => by rw [hd] at e; cases e; simp
  unfold pyNext
  refine wpAny_bind (wpAny_attempt (wpAny_callSpecial?_slot (name := Str.ofString "__next__") hit.typeIs F.slot_tuple_iterator_next
    (wpAny_call_entry F.slot_tuple_iterator_next hit.typeIs F.entry_tuple_iterator_next ?_ (F.args_tuple_iterator_next_1 _))))
  show wpAny _ _ (field (.ref it) 0 >>= _) _ _ s
  refine wpAny_bind (wpAny_field ho hd (x := .ref t) rfl ?_)
  show wpAny _ _ (if (Value.ref t == Value.none) = true then _ else _) _ _ s
  rw [if_neg (show ¬ ((Value.ref t == Value.none) = true) from Bool.false_ne_true)]
  show wpAny _ _ (field (.ref it) 1 >>= _) _ _ s
  refine wpAny_bind (wpAny_field ho hd (x := .int i 0) rfl ?_)
  show wpAny _ _ (seqItems? (.ref t) >>= _) _ _ s
  refine wpAny_bind (wpAny_seqItems hol hdl ?_)
  simp only [Int.toNat_natCast, hx]
  refine wpAny_bind (wpAny_rule (wpAny_bind (wpAny_setField ho hd (by simp) ?_)))
  show wpAny _ _ (newExc (.type "StopIteration") [] >>= fun e => raiseNew e) _ _ _
  refine stop_hot (hot_keeps hot fun o1 e => by rw [Heap.get?_update_other _ _ hne.symm]; exact e) fun h' e hk he => ?_
  obtain ⟨oe, hoe, hce⟩ := he
  refine wpAny_bind (wpAny_isInstance (T := "StopIteration") (b := true) ⟨oe, hoe, hce⟩ isSubtype_stop ?_)
  exact wpAny_pure (hQ _ fun b o' hb q => hk b o' ((Heap.SameBut.update ..).extBut b o' hb q))
theorem unpack_tuple_hot {t x1 : Addr} {items : Array Value} {targets : List (Bool × (Value → Sem Unit))} {Q : Unit → Shared → Prop} (hot : HotAt A x1 s.heap) (ht : s.heap.IsTuple t items)
    (hn : targets.length = items.size) (hstar : targets.findIdx? (·.1) = none)
    (h : ∀ h', (∀ b o, s.heap.get? b = some o → h'.get? b = some o) → wpAny (model prog w) A (assignInOrder (targets.map (·.2)) items.toList) Q E { s with heap := h' }) :
    wpAny (model prog w) A (unpack (.ref t) targets) Q E s := by
  have hlt : t ≠ s.heap.objs.size := by obtain ⟨o, ho, _⟩ := ht; exact Nat.ne_of_lt (Heap.lt_size ho)
  unfold unpack
  rw [hn, hstar]
  refine wpAny_bind (wpAny_holding ?_)
  unfold unpackItems
  refine wpAny_bind ?_
  unfold notIterableAtAll
  refine wpAny_bind (wpAny_specialOf ht.typeIs F.slot_tuple_iter.lookup ?_)
  refine wpAny_pure ?_
  simp only [Bool.false_eq_true, if_false]
  refine wpAny_bind (wpAny_holding (wpAny_pyIter_tuple ht ?_))
  refine wpAny_bind (wpAny_holding (wpAny_draw_tuple hlt items.size 0 _ _ ⟨_, Heap.get?_push_size _ rfl, rfl, rfl⟩ (ht.push _) (by omega) fun h₁ hit₁ hs₁ => ?_))
  have hall : List.take items.size (List.drop 0 items.toList) = items.toList := by
    rw [List.drop_zero]; exact List.take_of_length_le (by simp)
  rw [hall]
  rw [if_neg (by simp)]
  have ht₁ : h₁.IsTuple t items := (ht.push _).extBut hs₁.extBut hlt
  have k1 : ∀ b o, s.heap.get? b = some o → h₁.get? b = some o := fun b o e => hs₁.extBut b o (Nat.ne_of_lt (Heap.lt_size e)) (Heap.get?_push_of_some _ e)
  refine wpAny_bind (wpAny_holding (pyNext_tuple_end_hot (hot_keeps hot fun o e => k1 _ o e) hit₁ ht₁ (by simp) fun h₂ he₂ => ?_))
  simp only [Option.isSome_none, Bool.false_eq_true, if_false]
  exact wpAny_pure (h h₂ fun b o e => he₂ b o (Nat.ne_of_lt (Heap.lt_size e)) (k1 b o e))
theorem assign_tuple_hot {env : Env} {elts : List Expr} {k : Nat} {pos : Pos} {t x1 : Addr} {items : Array Value} {Q : Unit → Shared → Prop} (hot : HotAt A x1 s.heap) (ht : s.heap.IsTuple t items)
    (hn : (assignEach elts env).length = items.size) (hstar : (assignEach elts env).findIdx? (·.1) = none)
    (h : ∀ h', (∀ b o, s.heap.get? b = some o → h'.get? b = some o) → wpAny (model prog w) A (assignInOrder ((assignEach elts env).map (·.2)) items.toList) Q E { s with heap := h' }) :
    wpAny (model prog w) A (assign (.Tuple elts k pos) env (.ref t)) Q E s := by
  rw [arm_assign_Tuple]
  exact wpAny_bind (wpAny_standAt (unpack_tuple_hot hot ht hn hstar h))
end
end Pw

/-! while an exception is handled: a tuple of targets, a comprehension over zip, isinstance of what is handled, a def that is called with it. -/
namespace Pw
open PySem PySem.Spec PyProof.Rows L2 L2H HotX
section
variable {X : Cx}
theorem pg_tupH {es : List Expr} {k : Nat} {pos : Pos} {t : TGs} {n : Nat} (hc : HotC X) (h : PGs X es t)
    (hn : (assignEach es X.env).length = n := by rfl) (hst : (assignEach es X.env).findIdx? (·.1) = none := by rfl) : PG X (.Tuple es k pos) (gTup X.K n t) := by
  refine ⟨fun pins s σ H v u Q I r hw => ?_⟩
  obtain ⟨a, xs, e1, hq, hl, hw⟩ := hw
  subst e1
  cases r
  obtain ⟨its, rv, ht, hz⟩ := I.tuple hq
  obtain ⟨x1, hot⟩ := hc.at I
  refine assign_tuple_hot hot ht (by simp [hn, ← hl, rv.length]) hst fun h' hx => ?_
  have I1 : Inv X pins σ H { s with heap := h' } := I.kept (t' := s.toks) hx
  exact h.run pins _ σ H xs _ Q I1 (by simpa using rv) hw
/-- two lists, the first not the longer -/
def ItzH (K : PySem.W.Frag) (a b : Addr) : It := { Itz K a b with stop := fun i H => ∃ xs ys : List V, SqL K H a xs ∧ SqL K H b ys ∧ xs.length ≤ i }
theorem turn_zipH {P : Program} {w : World} {K : PySem.W.Frag} {elts : List Expr} {kk : Nat} {tpos : Pos} {a b z TI TO i1 i2 : Addr} (D : ZipApart z TI TO i1 i2 a b) :
    TurnH P w K (.Tuple elts kk tpos) (ItzH K a b) [z, TI, TO, i1, i2] z (fun i h => IsZip h z TI TO .none ∧ IsPair h TI (.ref i1) (.ref i2) ∧ (∃ x y, IsPair h TO x y) ∧ h.IsListIter i1 a i ∧ h.IsListIter i2 b i) where
  mem := by simp
  obj := (turn_zip (P := P) (w := w) (K := K) (elts := elts) (kk := kk) (tpos := tpos) D).obj
  keep := (turn_zip (P := P) (w := w) (K := K) (elts := elts) (kk := kk) (tpos := tpos) D).keep
  item := by
    intro X hP hw hK hc i pins s σ H E I hf st hg
    subst hP hw hK
    obtain ⟨hz, hTI, ⟨x0, y0, hTO⟩, h1, h2⟩ := st
    obtain ⟨xs, ys, x, y, hqx, hqy, hx, hy⟩ := hg
    obtain ⟨its, rv, p, _⟩ := I.list hqx
    obtain ⟨its2, rv2, p2, _⟩ := I.list hqy
    obtain ⟨u, hu, ru⟩ := rv.get hx
    obtain ⟨u2, hu2, ru2⟩ := rv2.get hy
    have hzl : z < s.heap.objs.size := Heap.lt_size hz
    refine wpAny_pyNext_zip_item D hz hTI hTO h1 h2 p.isList p2.isList (x := u) (y := u2) (by simpa using hu) (by simpa using hu2) fun h' z' TO' h1' h2' hT hsz hk => ?_
    refine ⟨_, rfl, wpAny_letOwnedTupleGo_zip (s := { s with heap := h' }) z' fun h'' z'' sb => ?_⟩
    have hT2 : h''.get? s.heap.objs.size = some { cls := .type "tuple", data := .seq #[u, u2] } := (sb.2 _ (Nat.ne_of_gt hzl)).trans hT
    have new : ObjOk X.prog X.w (upd H s.heap.objs.size (.tup [x, y])) h'' s.heap.objs.size (.tup [x, y]) :=
      ⟨by show 2 ≤ sizeLine; decide, [u, u2], .cons ru (.cons ru2 .nil), ⟨_, hT2, rfl, _, rfl⟩⟩
    have I1 : Inv X pins σ (upd H s.heap.objs.size (.tup [x, y])) { s with heap := h'' } :=
      I.turnedNew (t' := s.toks) (ch := [z, TI, TO, i1, i2]) (fun c o hb q => (sb.2 c (fun q' => hb (by simp [q']))).trans (hk c o (fun q' => hb (by simp [q'])) (fun q' => hb (by simp [q'])) (fun q' => hb (by simp [q'])) (fun q' => hb (by simp [q'])) q)) hf (Nat.le_refl _) new
    refine ⟨.ref s.heap.objs.size, _, I1, rfl, ⟨_, x, y, rfl, I.hok.fresh (Nat.le_refl _), rfl, fun l hl => by rw [I.list_inj hl hqx]; exact hx, fun l hl => by rw [I.list_inj hl hqy]; exact hy⟩, ⟨z'', ?_, ⟨u, u2, ?_⟩, ?_, ?_⟩, fun c hcm => ?_⟩
    · exact (sb.2 _ D.TIz).trans (hk _ _ D.TIz D.TITO D.TIi1 D.TIi2 hTI)
    · exact (sb.2 _ D.TOz).trans TO'
    · exact h1'.at fun o q => (sb.2 _ D.i1z).trans q
    · exact h2'.at fun o q => (sb.2 _ D.i2z).trans q
    · have hlt : c < s.heap.objs.size := by
        have e' : c = z ∨ c = TI ∨ c = TO ∨ c = i1 ∨ c = i2 := by simpa using hcm
        rcases e' with q | q | q | q | q
        · rw [q]; exact hzl
        · rw [q]; exact Heap.lt_size hTI
        · rw [q]; exact Heap.lt_size hTO
        · rw [q]; obtain ⟨_, e1, _⟩ := h1; exact Heap.lt_size e1
        · rw [q]; obtain ⟨_, e2, _⟩ := h2; exact Heap.lt_size e2
      rw [upd_ne (Nat.ne_of_lt hlt)]
      exact (hf c hcm).1
  done := by
    intro X hP hw hK hc i pins s σ H E I hf st hg
    subst hP hw hK
    obtain ⟨hz, hTI, ⟨x0, y0, hTO⟩, h1, h2⟩ := st
    obtain ⟨xs, ys, hqx, hqy, hend⟩ := hg
    obtain ⟨its, rv, p, _⟩ := I.list hqx
    obtain ⟨its2, rv2, p2, _⟩ := I.list hqy
    have l1 := rv.length
    obtain ⟨x1, hot⟩ := hc.at I
    exact pyNext_zip_end_hot hot D hz hTI hTO h1 h2 p.isList p2.isList (by simp; omega) fun h' hk => ⟨rfl, I.turnedL (t' := s.toks) (ch := [z, TI, TO, i1, i2]) (fun c o hb q =>
      hk c o (fun q' => hb (by simp [q'])) (fun q' => hb (by simp [q'])) (fun q' => hb (by simp [q'])) (fun q' => hb (by simp [q'])) q) hf⟩
  self := fun A i s Q E st h => wpAny_pyIter_zip st.1 h
def iZipH (K : PySem.W.Frag) (ta : TA) : TI := fun σ H R => ta σ H fun vs H1 => ∃ a b xs ys, vs = [.ref a, .ref b] ∧ SqL K H1 a xs ∧ SqL K H1 b ys ∧ R (ItzH K a b) H1
theorem pi_zipH {e e2 : Expr} {ta : TA} {p pos tpos : Pos} {elts : List Expr} {kk : Nat} (hg : Gl X "zip") (hm : X.mg "zip" = none) (ha : PA X [e, e2] ta)
    (hs : starEach [e, e2] X.env = (false, eval e X.env) :: starEach [e2] X.env := by rfl) (hpl : (backTo pos (starEach [e2] X.env)).any (·.1) = false := by rfl) :
    PIH X (.Tuple elts kk tpos) (.Call (.Name "zip" p) [e, e2] [] pos) (iZipH X.K ta) := by
  refine ⟨fun pins s σ H R I h => ?_⟩
  refine Call_ (ld_blt I hg hm PyProof.Rows.boot_zip (PyProof.Rows.callWith_type1 (thn (ha.run pos pins s σ H _ I h) fun us s1 ⟨vs, H1, I1, r1, q1⟩ => ?_) hs hpl))
  obtain ⟨a, b, xs, ys, ex, hqx, hqy, q⟩ := q1
  subst ex
  cases r1 with
  | cons r rr =>
    cases rr with
    | cons r' rr =>
      cases rr
      cases r
      cases r'
      obtain ⟨its, rv, p1, _⟩ := I1.list hqx
      obtain ⟨its2, rv2, p2, _⟩ := I1.list hqy
      have la : a < s1.heap.objs.size := p1.lt
      have lb : b < s1.heap.objs.size := p2.lt
      refine call_zip_2 p1.isList p2.isList fun h' hz hTI hTO h1 h2 hsz hk => wpAny_pyIter_zip hz ?_
      have I2 : Inv X pins σ H1 { s1 with heap := h' } := I1.kept (t' := s1.toks) hk
      refine ⟨s1.heap.objs.size + 4, [s1.heap.objs.size + 4, s1.heap.objs.size + 2, s1.heap.objs.size + 3, s1.heap.objs.size, s1.heap.objs.size + 1], _, _, H1, rfl, I2, turn_zipH (PySem.W.ktu_apart s1.heap.objs.size a b la lb), ⟨hz, hTI, ⟨_, _, hTO⟩, h1, h2⟩, fun c hcm => ?_, q⟩
      have e' : c = s1.heap.objs.size + 4 ∨ c = s1.heap.objs.size + 2 ∨ c = s1.heap.objs.size + 3 ∨ c = s1.heap.objs.size ∨ c = s1.heap.objs.size + 1 := by simpa using hcm
      have hle : s1.heap.objs.size ≤ c := by
        rcases e' with z | z | z | z | z
        · rw [z]; exact Nat.le_add_right _ _
        · rw [z]; exact Nat.le_add_right _ _
        · rw [z]; exact Nat.le_add_right _ _
        · rw [z]; exact Nat.le_refl _
        · rw [z]; exact Nat.le_add_right _ _
      exact I1.fpOk hle (I1.hok.fresh hle) |> fun z => ⟨z.1, z.2⟩
theorem walk_zipH {K : PySem.W.Frag} {a b : Addr} {xs ys : List V} (hl : xs.length = ys.length) : Walk (ItzH K a b) xs.length (fun H => SqL K H a xs ∧ SqL K H b ys) (YPair (fun i => xs[i]?) (fun i => ys[i]?)) := by
  have w := walk_zip (K := K) (a := a) (b := b) (xs := xs) (ys := ys) (n := xs.length) (by omega)
  exact ⟨w.goes, fun _ q => ⟨xs, ys, q.1, q.2, Nat.le_refl _⟩, w.yields⟩
/-- the block's context, the handled exception pinned -/
abbrev _root_.L2.Cx.blkH (X : Cx) (s : Shared) (H : Hp) (scope : Scope) (cenv : Env) (fp : List Addr) (p : Addr × Obj) : Cx := (X.blk s H scope cenv fp).tr [p] (fun _ _ => False)
theorem pe_lcH {elt tg iter : Expr} {ifs : List Expr} {scope : Scope} {own : List (Str × Nat)} {pos : Pos} {wi : TI} {g : TG} {tt : TT} {te : TE} {p : Addr × Obj} (hot : Hot1 X.A p) (hp : p ∈ X.pn) (hN : X.N.Nodup) (hi : PIH X tg iter wi) (ok : BlkOk X.N X.env.scope scope own)
    (hg : ∀ (s : Shared) (H : Hp) (C : Addr) (cl : List (Str × Addr)) (fp : List Addr), PG (X.blkH s H scope (compEnvC scope cl C X.env) fp p) tg g) (ht : ∀ (s : Shared) (H : Hp) (C : Addr) (cl : List (Str × Addr)) (fp : List Addr), PTs (X.blkH s H scope (compEnvC scope cl C X.env) fp p) ifs tt)
    (he : ∀ (s : Shared) (H : Hp) (C : Addr) (cl : List (Str × Addr)) (fp : List Addr), PE (X.blkH s H scope (compEnvC scope cl C X.env) fp p) elt te) (hs : ∀ x, foldedSetIterable iter X.env x = pure x := by intro _; rfl) :
    PE X (.ListComp elt [⟨tg, iter, ifs, 0⟩] scope pos) (tLc wi g tt te (own.map (·.2))) := by
  refine ⟨fun pins s σ H Q I h => ?_⟩
  rw [eval_ListComp]
  have hfree : ∀ y ∈ scope.names, y.2 = .free → ∃ c, X.env.cells.lookup y.1 = some c := fun y hy e => by
    rcases ok.free y hy e with k | k
    · exact I.ok.has _ (.inl k)
    · exact I.ok.has _ (.inr k)
  refine wpAny_comprehension_free (use := none) rfl hs (closure_ok hfree) ok.kind (fun y hy e => by rw [ok.uniq y hy, e])
    (thn (hi.run pins s σ H _ I h) fun xv s1 hx => thn hx fun itv s2 h2 => ?_)
  obtain ⟨it, fp, tn, J, H2, e, I2, T, st2, f2, q⟩ := h2
  subst e
  refine wpAny_newObj_type (newEnv_comp ?_) (by show 0 ≤ sizeLine; decide)
  generalize hD : s2.heap.objs.size = D
  have hDn : H2 D = none := I2.hok.fresh (Nat.le_of_eq hD)
  obtain ⟨W, ⟨m0, w0⟩, turn⟩ := q D hDn
  generalize hs3 : ({ s2 with heap := s2.heap.push { cls := .type "list", data := .seq ([] : List Value).toArray } } : Shared) = s3
  have I3 : Inv X pins σ (upd H2 D (.lst [])) s3 := by
    rw [← hs3]
    refine I2.laid (t' := s2.toks) (fun b o e => Heap.get?_push_of_some _ e) (Nat.le_of_eq hD) ⟨Nat.zero_le _, [], 0, .nil, ?_⟩
    rw [← hD]
    exact Heap.get?_push_size _ rfl
  have h3 : s3.heap = s2.heap.push { cls := .type "list", data := .seq ([] : List Value).toArray } := by rw [← hs3]
  have sz : ∀ b ∈ fp, b < s2.heap.objs.size := fun b hb => by
    obtain ⟨o, e, _⟩ := T.obj _ _ st2 b hb
    exact Heap.lt_size e
  have f3 : ∀ b ∈ fp, FpOk X pins (upd H2 D (.lst [])) b ∧ b < s3.heap.objs.size := fun b hb => by
    have hlt := sz b hb
    refine ⟨⟨?_, (f2 b hb).2⟩, by rw [h3, Heap.size_push]; exact Nat.lt_succ_of_lt hlt⟩
    rw [upd_ne (by rw [← hD]; exact Nat.ne_of_lt hlt)]
    exact (f2 b hb).1
  have st3 : tn 0 s3.heap := T.keep _ _ _ st2 fun b _ o e => by rw [h3]; exact Heap.get?_push_of_some _ e
  have P3 := I3.pin p (List.mem_append_left _ hp)
  have pfp : ∀ b ∈ fp, p.1 ≠ b := fun b hb => (f3 b hb).1.2.2.2.2.2 p (List.mem_append_left _ hp)
  have I4 := ((block_start I3 ok hN f3).pins_of (pins' := [p]) fun r hr => by
    rw [List.mem_singleton.mp hr]
    exact ⟨pushCells_keeps _ _ _ _ (Heap.get?_push_of_some _ P3.1), P3.2.1, Nat.ne_of_lt (Heap.lt_size P3.1), fun hm => (List.mem_cons.mp (I3.stkSub p.1 hm)).elim P3.2.2.1 P3.2.2.2.1, P3.2.2.2.2⟩).toTry (fun _ _ => False)
  have pg := hg s3 (upd H2 D (.lst [])) s3.heap.objs.size (cellsFrom (s3.heap.objs.size + 1) scope.names (cloFrom X.env.cells scope.names [])) fp
  have pt := ht s3 (upd H2 D (.lst [])) s3.heap.objs.size (cellsFrom (s3.heap.objs.size + 1) scope.names (cloFrom X.env.cells scope.names [])) fp
  have pe := he s3 (upd H2 D (.lst [])) s3.heap.objs.size (cellsFrom (s3.heap.objs.size + 1) scope.names (cloFrom X.env.cells scope.names [])) fp
  show codeAny _ _ (.compStart (.ListComp elt [⟨tg, iter, ifs, 0⟩] scope pos) 0 (.ref it) (.ref D) (compEnvC scope (cellsFrom (s3.heap.objs.size + 1) scope.names (cloFrom X.env.cells scope.names [])) s3.heap.objs.size X.env)) (compPost (model X.prog X.w) X.A X.xe none (EP X pins σ Q) (.ref D) s3.heap.objs.size) { s3 with heap := pushCells (s3.heap.push { cls := .type "dict", data := .dict #[] }) scope.names }
  have nfp : ∀ b ∈ fp, (upd H2 D (.lst [])) b = none := fun b hb => (f3 b hb).1.1
  generalize hce : compEnvC scope (cellsFrom (s3.heap.objs.size + 1) scope.names (cloFrom X.env.cells scope.names [])) s3.heap.objs.size X.env = ce at I4 pg pt pe ⊢
  have cL : ce.locals = s3.heap.objs.size := by subst hce; rfl
  generalize hH3 : upd H2 D (.lst []) = H3 at I3 I4 pg pt pe w0 nfp f3 P3
  generalize hs4 : ({ s3 with heap := pushCells (s3.heap.push { cls := .type "dict", data := .dict #[] }) scope.names } : Shared) = s4 at I4 ⊢
  have I4' : Inv (X.blkH s3 H3 scope ce fp p) [] (wipe σ (own.map (·.2))) H3 s4 := I4
  have hcB : HotC (X.blkH s3 H3 scope ce fp p) := ⟨p, hot, List.mem_singleton.mpr rfl⟩
  have st4 : tn 0 s4.heap := T.keep _ _ _ st3 fun b _ o e => by rw [← hs4]; exact pushCells_keeps _ _ _ _ (Heap.get?_push_of_some _ e)
  have stat : ∀ {σ' : L2.St} {H' : Hp} {s' : Shared}, Inv (X.blkH s3 H3 scope ce fp p) [] σ' H' s' → (∀ b ∈ fp, H' b = none) → ∀ b ∈ fp, FpOk (X.blkH s3 H3 scope ce fp p) [] H' b := fun {σ' H' s'} I' hn b hb =>
    ⟨hn b hb, (I'.ok.exf b hb).1, I'.ok.exfs b hb, .inl hb, fun x c e => (I'.ok.exf b hb).2 x c e, fun r hr => by
      have e : r = p := by simpa using (show r ∈ [p] ++ ([] : List (Addr × Obj)) from hr)
      rw [e]
      exact pfp b hb⟩
  have loop : codeAny (model X.prog X.w) X.A (.compLoop (.ListComp elt [⟨tg, iter, ifs, 0⟩] scope pos) 0 (.ref it) (.ref D) ce) (compPost (model X.prog X.w) X.A X.xe none (EP X pins σ Q) (.ref D) s3.heap.objs.size) s4 := by
    refine compLoop_any (fun n s' => ∃ i H', Inv (X.blkH s3 H3 scope ce fp p) [] (wipe σ (own.map (·.2))) H' s' ∧ tn i s'.heap ∧ (∀ b ∈ fp, H' b = none) ∧ W i n H') ?_ m0 ⟨0, H3, I4', st4, nfp, w0⟩
    rintro n s5 ⟨i, H5, I5, st5, n5, w5⟩
    rcases turn i n H5 w5 with ⟨stop, qq⟩ | ⟨go, Nx, hNx, step⟩
    · have td := T.done (X.blkH s3 H3 scope ce fp p) rfl rfl rfl hcB i [] s5 _ H5 (fun _ _ => False) I5 (stat I5 n5) st5 stop
      refine thnF td fun r s6 ⟨hr, I6⟩ => ?_
      subst hr
      have I7 : Inv X pins σ H5 s6 := I3.call' (ch := fp) I6.os I6.base I6.hok I6.bare fun b hb => ⟨(f3 b hb).1.2.2.2.1, (f3 b hb).1.2.1, (f3 b hb).1.2.2.2.2.1, (f3 b hb).1.2.2.2.2.2⟩
      have nC : H5 s3.heap.objs.size = none := by
        have z : H5 ce.locals = none := I6.free
        rw [cL] at z
        exact z
      obtain ⟨m, hn, _⟩ := I6.loc
      have hn : s6.heap.Ns ce.locals m := hn
      rw [cL] at hn
      refine ⟨m, hn, fun h'' sb => ?_⟩
      obtain ⟨f0, f1, f2, f3, f4, f5⟩ := I3.fpOk (Nat.le_refl _) nC
      exact ⟨.ref D, H5, I7.turned (t' := s6.toks) (fun b o hb e => (sb.2 b hb).trans e) f0 f1 f3 f4 f5, rfl, qq⟩
    · have ti := T.item (X.blkH s3 H3 scope ce fp p) rfl rfl rfl hcB i [] s5 _ H5 (fun _ _ => False) I5 (stat I5 n5) st5 go
      refine thnF ti fun r s6 ⟨u, hr, h6⟩ => ?_
      subst hr
      refine thnF h6 fun _ s7 ⟨x, H7, I7, r7, y7, st7, n7⟩ => ?_
      have I7' := I7.pinned (stat I7 n7) (T.obj _ _ st7)
      refine thnF (pg.run _ s7 _ H7 x u _ I7' r7 (step x H7 y7)) fun _ s8 ⟨σ8, H8, I8, hw8, q8⟩ => ?_
      refine thnF (pt.run _ s8 σ8 H8 _ I8 q8) fun b s9 ⟨H9, I9, q9⟩ => ?_
      have fin : ∀ {s' : Shared} {H' : Hp}, Inv (X.blkH s3 H3 scope ce fp p) ([] ++ pinsAt fp s7.heap) σ8 H' s' → Nx H' → ∃ m, m < n ∧ ∃ i H', Inv (X.blkH s3 H3 scope ce fp p) [] (wipe σ (own.map (·.2))) H' s' ∧ tn i s'.heap ∧ (∀ b ∈ fp, H' b = none) ∧ W i m H' := fun {s' H'} I' nx => by
        obtain ⟨m', hm, w'⟩ := hNx H' nx
        have pin' : ∀ b ∈ fp, ∀ o, s7.heap.get? b = some o → s'.heap.get? b = some o ∧ H' b = none := fun b hb o e =>
          let z := I'.pin (b, o) (List.mem_append_right _ (List.mem_append_right _ (mem_pinsAt hb e)))
          ⟨z.1, z.2.1⟩
        have hl : (wipe σ (own.map (·.2))).length = σ8.length := by rw [← hw8, wipe_length]
        refine ⟨m', hm, i + 1, H', (I'.unpinned (pins := [])).weak hl (fun j v e => ?_), T.keep _ _ _ st7 fun b hb o e => (pin' b hb o e).1, fun b hb => ?_, w'⟩
        · rw [← hw8] at e
          exact (wipe_some e).1
        · obtain ⟨o, e, _⟩ := T.obj _ _ st7 b hb
          exact (pin' b hb o e).2
      cases b with
      | false =>
        simp only [Bool.false_eq_true, if_false] at q9 ⊢
        exact fin I9 q9
      | true =>
        simp only [if_true] at q9 ⊢
        refine thnF (pe.run _ s9 σ8 H9 _ I9 q9) fun z s10 ⟨yv, H10, I10, r10, acc, hD10, hz10, nx⟩ => ?_
        exact app_ok (X := X.blkH s3 H3 scope ce fp p) I10 hD10 hz10 r10 fun s11 I11 => fin I11 nx
  exact codeAny_compStart_list loop (T.self X.A 0 _ _ _ st4 loop)
end
/-! ### a def that is called with the handled exception -/
structure FnE (P : Program) (w : World) (K : PySem.W.Frag) (mg : Str → Option Value) (base : Heap) (CX : CXT) (k : Nat) (f : Addr) (fd : FuncData) (ps : List Str) (sp : Addr × Obj → Sp) : Prop where
  len : ∀ p vs H Q E, sp p vs H Q E → vs.length = ps.length
  run : ∀ (A : Around) (outer : List Env) (s : Shared) (H : Hp) (args : Args) (us : List Value) (vs : List V) (Q : VK) (E : XK) (p : Addr × Obj), RoomH k A → Hot1 A p → PinOk outer H s p → Env0 P w K mg base A outer s H → BindsTo s fd args (ps.zip us) → Vals vs us → sp p vs H Q E →
    codeAny (model P w) A (.call (.ref f) args) (CR CX outer P w H s Q E) s
theorem fn_ofE {CX : CXT} {P : Program} {w : World} {K : PySem.W.Frag} {mg : Str → Option Value} {base : Heap} {k : Nat} {f : Addr} {name qual : Str} {params : Arguments} {body : List Stmt} {scope : Scope} {dV kV doc pm cdv ct oc : Value} {an od : Option Addr}
    {osl : Array (Option Value)} {N ps : List Str} {sp : Addr × Obj → Sp} (lk : K.lookup f = some ⟨oc, od, .func (PySem.W.fnOf name qual params body scope dV kV doc pm an cdv ct), osl⟩) (hcd : PySem.W.codeIn K cdv qual = true) (S : FnScope N ps scope)
    (len : ∀ p vs H Q E, sp p vs H Q E → vs.length = ps.length)
    (hbody : ∀ (A : Around) (outer : List Env) (s : Shared) (H : Hp) (vs : List V) (Q : VK) (E : XK) (p : Addr × Obj), Hot1 A p → RoomH k (A.deeper (envOfC qual scope s.heap.objs.size f cdv)) → sp p vs H Q E →
      ∃ t, PSs (cxH CX P w K mg base N qual scope f cdv A outer s H E p) body t ∧ t { nx := fun _ H' => Q .non H', rt := Q } (L2.start N vs) H) :
    FnE P w K mg base CX (k + 1) f (PySem.W.fnOf name qual params body scope dV kV doc pm an cdv ct) ps sp := by
  refine ⟨len, fun A outer s H args us vs Q E p hr hot hpin e0 hb r hsp => ?_⟩
  have hl := len _ _ _ _ _ hsp
  have KX : K.In s.heap := e0.mod.kin.keeps fun b o e => (e0.bs b o e).1
  have lim : s.heap.NoLimit := e0.mod.nolimit.keeps fun b o e => (e0.bs b o e).1
  have hkind : ∀ y ∈ ps.zip us, scope.names.lookup y.1 = some .local ∨ (scope.names.lookup y.1 = some .cell ∧ ((cellsFrom (s.heap.objs.size + 1) scope.names []).lookup y.1).isSome = true) := fun ⟨n, v⟩ hy => by
    rcases S.par n (List.of_mem_zip hy).1 with q | q
    · exact .inl q
    · exact .inr ⟨q, PySem.W.cellsFrom_some _ _ _ (.inl q)⟩
  refine codeAny_call_function hr.depth (KX _ _ lk) rfl S.co S.gen rfl (PySem.W.codeRec_of KX hcd) (hb _ _ _ _ ?_)
  refine wpAny_newFunctionEnv_cells S.kind hkind fun env he s1 x => ?_
  subst he
  refine ⟨lim.keeps x.toInCall.keep, codeAny_func ?_⟩
  obtain ⟨t, ht, hq⟩ := hbody A outer s H vs Q E p hot (hr.deeper _) hsp
  have I : Inv (cxH CX P w K mg base N qual scope f cdv A outer s H E p) [] (L2.start N vs) H s1 := inv_startH S hpin e0 hl r x
  refine wpAny_mono (ht.run [] s1 (L2.start N vs) H _ I hq) (fun fl s' hs => ?_) fun e s' hs => hs
  have fin : ∀ {σ' : L2.St} {H' : Hp} {v : V} {u : Value}, Inv (cxH CX P w K mg base N qual scope f cdv A outer s H E p) [] σ' H' s' → RelV v u → Q v H' → CE outer P w H s Q u s' :=
    fun {σ' H' v u} J rv q => ⟨v, H', J.os, J.bare, J.base, J.hok, rv, q⟩
  cases fl with
  | ret u =>
    obtain ⟨v, σ', H', J, rv, q⟩ := hs
    exact fin J rv q
  | next =>
    obtain ⟨σ', H', J, q⟩ := hs
    exact fin (v := V.non) (u := Value.none) J rfl q
  | brk =>
    obtain ⟨_, _, _, q⟩ := hs
    exact False.elim q
  | cont =>
    obtain ⟨_, _, _, q⟩ := hs
    exact False.elim q
section
variable {X : Cx} {CX : CXT} {k : Nat} {f : Addr} {fd : FuncData} {ps : List Str} {sp : Addr × Obj → Sp} {E : L2.St → XK} {x : Str} {q pos : Pos} {e : Expr} {es : List Expr} {t : TA}
theorem pe_callE {p : Addr × Obj} (F : FnE X.prog X.w X.K X.mg X.base CX k f fd ps sp) (hr : RoomH k X.A) (hot : Hot1 X.A p) (hp : p ∈ X.pn) (hg : Gl X x) (hm : X.mg x = some (.ref f)) (hk : PySem.W.keepIn X.K (.ref f) = true) (hb : Binds X.K fd ps []) (hx : ∀ σ, PassesAt CX X σ (E σ))
    (ha : PA X (e :: es) t) (hdb : (x == ("__debug__" : Str)) = false := by decide) (he : starEach (e :: es) X.env = (false, eval e X.env) :: starEach es X.env := by rfl) (hpl : (backTo pos (starEach es X.env)).any (·.1) = false := by rfl) :
    PE X (.Call (.Name x q) (e :: es) [] pos) (tCallS (sp p) E t) := by
  refine ⟨fun pins s σ H Q I h => ?_⟩
  refine wpAny_Call_Name_kw (ld_glob I hg hm ?_ hdb)
  refine PySem.W.callWith_K (h₀ := X.base) I.ok.mod.kin hk (thn (ha.run pos pins s σ H _ I h) fun us s1 ⟨vs, H1, I1, r, q⟩ => ⟨I1.kIn, ?_⟩) he hpl
  have hl : us.length = ps.length := by rw [← r.length]; exact F.len _ _ _ _ _ q
  have b := hb s1 us I1.kIn (by rw [List.append_nil]; exact hl)
  rw [List.append_nil] at b
  have P1 := I1.pin p (List.mem_append_left _ hp)
  have hpin : PinOk X.stack H1 s1 p := ⟨P1.1, P1.2.1, fun hm => (List.mem_cons.mp (I1.stkSub p.1 hm)).elim P1.2.2.1 P1.2.2.2.1, P1.2.2.2.2⟩
  refine wpAny_call (codeAny_mono (F.run X.A X.stack s1 H1 ⟨us, []⟩ us vs Q (E σ) p hr hot hpin I1.env0 b r q) fun r s' hq => ?_)
  cases r with
  | error e => exact hx σ pins H1 s1 e s' I1 hq
  | ok fl =>
    cases fl with
    | ret u => exact I1.after hq
    | next => exact False.elim hq
    | brk => exact False.elim hq
    | cont => exact False.elim hq
theorem call_isP {D : Addr} {p : Addr × Obj} (C : ExcC X.K D) (hp : p ∈ X.pn) (hz : Zc (.ref D) none p.2) (hf : ∃ vs, p.2.data = .fields vs) : CallR X (.builtin "isinstance") (rIsE X.K D p.1) := by
  intro pins s σ H xs us Q I r h
  obtain ⟨c, cv, b, rfl, hcv, e, q⟩ := h
  cases r with
  | cons rx rr =>
    cases rr with
    | cons rt rr =>
      cases rr
      cases rx
      have ec := hcv _ rt
      subst ec
      obtain ⟨hget, _⟩ := I.pin p (List.mem_append_left _ hp)
      obtain ⟨vs, hv⟩ := hf
      have J : PySem.W.InstAt s.heap p.1 p.2 D none := by
        obtain ⟨pa, oc, od, oda, osl⟩ := p
        obtain ⟨h1, h2⟩ := hz
        dsimp only at h1 h2 hv
        subst h1 h2 hv
        exact ⟨hget, rfl, rfl, trivial⟩
      exact PySem.W.kia_one (PySem.W.handS_kitx_exc C.hg C.hk C.hs C.hd C.ha C.hn C.ht C.hm) I.kIn J e (fun z => nomatch z) fun tk => ⟨.bl b, H, I.kept (t' := tk) fun _ _ z => z, rfl, q⟩
end
end Pw

/-! defs that show things: called where nothing is being shown already. -/
namespace Pw
open PySem PySem.Spec PyProof.Rows L2
structure FnG (P : Program) (w : World) (K : PySem.W.Frag) (mg : Str → Option Value) (base : Heap) (CX : CXT) (k : Nat) (f : Addr) (fd : FuncData) (ps : List Str) (sp : Sp) : Prop where
  len : ∀ vs H Q E, sp vs H Q E → vs.length = ps.length
  run : ∀ (A : Around) (outer : List Env) (s : Shared) (H : Hp) (args : Args) (us : List Value) (vs : List V) (Q : VK) (E : XK), A.guards = some [] → Room k A → Env0 P w K mg base A outer s H → BindsTo s fd args (ps.zip us) → Vals vs us → sp vs H Q E →
    codeAny (model P w) A (.call (.ref f) args) (CR CX outer P w H s Q E) s
theorem fn_ofG {CX : CXT} {P : Program} {w : World} {K : PySem.W.Frag} {mg : Str → Option Value} {base : Heap} {k : Nat} {f : Addr} {name qual : Str} {params : Arguments} {body : List Stmt} {scope : Scope} {dV kV doc pm cdv ct oc : Value} {an od : Option Addr}
    {osl : Array (Option Value)} {N ps : List Str} {sp : Sp} (lk : K.lookup f = some ⟨oc, od, .func (PySem.W.fnOf name qual params body scope dV kV doc pm an cdv ct), osl⟩) (hcd : PySem.W.codeIn K cdv qual = true) (S : FnScope N ps scope)
    (len : ∀ vs H Q E, sp vs H Q E → vs.length = ps.length)
    (hbody : ∀ (A : Around) (outer : List Env) (s : Shared) (H : Hp) (vs : List V) (Q : VK) (E : XK), A.guards = some [] → Room k (A.deeper (envOfC qual scope s.heap.objs.size f cdv)) → sp vs H Q E →
      ∃ t, PSs (cxOf CX P w K mg base N qual scope f cdv A outer s H E) body t ∧ t { nx := fun _ H' => Q .non H', rt := Q } (L2.start N vs) H) :
    FnG P w K mg base CX (k + 1) f (PySem.W.fnOf name qual params body scope dV kV doc pm an cdv ct) ps sp := by
  refine ⟨len, fun A outer s H args us vs Q E hg hr e0 hb r hsp => ?_⟩
  have hl := len _ _ _ _ hsp
  have KX : K.In s.heap := e0.mod.kin.keeps fun b o e => (e0.bs b o e).1
  have lim : s.heap.NoLimit := e0.mod.nolimit.keeps fun b o e => (e0.bs b o e).1
  have hkind : ∀ y ∈ ps.zip us, scope.names.lookup y.1 = some .local ∨ (scope.names.lookup y.1 = some .cell ∧ ((cellsFrom (s.heap.objs.size + 1) scope.names []).lookup y.1).isSome = true) := fun ⟨n, v⟩ hy => by
    rcases S.par n (List.of_mem_zip hy).1 with q | q
    · exact .inl q
    · exact .inr ⟨q, PySem.W.cellsFrom_some _ _ _ (.inl q)⟩
  refine codeAny_call_function hr.depth (KX _ _ lk) rfl S.co S.gen rfl (PySem.W.codeRec_of KX hcd) (hb _ _ _ _ ?_)
  refine wpAny_newFunctionEnv_cells S.kind hkind fun env he s1 x => ?_
  subst he
  refine ⟨lim.keeps x.toInCall.keep, codeAny_func ?_⟩
  obtain ⟨t, ht, hq⟩ := hbody A outer s H vs Q E hg (hr.deeper _) hsp
  have I : Inv (cxOf CX P w K mg base N qual scope f cdv A outer s H E) [] (L2.start N vs) H s1 := inv_start S hr.hd e0 hl r x
  refine wpAny_mono (ht.run [] s1 (L2.start N vs) H _ I hq) (fun fl s' hs => ?_) fun e s' hs => hs
  have fin : ∀ {σ' : L2.St} {H' : Hp} {v : V} {u : Value}, Inv (cxOf CX P w K mg base N qual scope f cdv A outer s H E) [] σ' H' s' → RelV v u → Q v H' → CE outer P w H s Q u s' :=
    fun {σ' H' v u} J rv q => ⟨v, H', J.os, J.bare, J.base, J.hok, rv, q⟩
  cases fl with
  | ret u =>
    obtain ⟨v, σ', H', J, rv, q⟩ := hs
    exact fin J rv q
  | next =>
    obtain ⟨σ', H', J, q⟩ := hs
    exact fin (v := V.non) (u := Value.none) J rfl q
  | brk =>
    obtain ⟨_, _, _, q⟩ := hs
    exact False.elim q
  | cont =>
    obtain ⟨_, _, _, q⟩ := hs
    exact False.elim q
section
variable {X : Cx} {CX : CXT} {k : Nat} {f : Addr} {fd : FuncData} {ps : List Str} {sp : Sp} {E : XK} {x : Str} {p pos : Pos} {e : Expr} {es : List Expr} {t : TA}
theorem pe_callG (F : FnG X.prog X.w X.K X.mg X.base CX k f fd ps sp) (hgu : X.A.guards = some []) (hr : Room k X.A) (hg : Gl X x) (hm : X.mg x = some (.ref f)) (hk : PySem.W.keepIn X.K (.ref f) = true) (hb : Binds X.K fd ps []) (hx : Passes CX X E)
    (ha : PA X (e :: es) t) (hdb : (x == ("__debug__" : Str)) = false := by decide) (he : starEach (e :: es) X.env = (false, eval e X.env) :: starEach es X.env := by rfl) (hpl : (backTo pos (starEach es X.env)).any (·.1) = false := by rfl) :
    PE X (.Call (.Name x p) (e :: es) [] pos) (tCall sp [] E t) := by
  refine ⟨fun pins s σ H Q I h => ?_⟩
  refine wpAny_Call_Name_kw (ld_glob I hg hm ?_ hdb)
  refine PySem.W.callWith_K (h₀ := X.base) I.ok.mod.kin hk (thn (ha.run pos pins s σ H _ I h) fun us s1 ⟨vs, H1, I1, r, q⟩ => ⟨I1.kIn, ?_⟩) he hpl
  have q : sp (vs ++ []) H1 Q E := q
  rw [List.append_nil] at q
  have hl : us.length = ps.length := by rw [← r.length]; exact F.len _ _ _ _ q
  have b := hb s1 us I1.kIn (by rw [List.append_nil]; exact hl)
  rw [List.append_nil] at b
  refine wpAny_call (codeAny_mono (F.run X.A X.stack s1 H1 ⟨us, []⟩ us vs Q E hgu hr I1.env0 b r q) fun r s' hq => ?_)
  cases r with
  | error e => exact hx pins σ H1 s1 e s' I1 hq
  | ok fl =>
    cases fl with
    | ret u => exact I1.after hq
    | next => exact False.elim hq
    | brk => exact False.elim hq
    | cont => exact False.elim hq
end
theorem law_callG {P : Program} {w : World} {K : PySem.W.Frag} {mg mb : Str → Option Value} {CX : CXT} {k : Nat} {fa a : Addr} {fd : FuncData} {x : Str} {sp : Sp} {s₁ : Shared} {vs : List Value} {ns : List Int}
    (KX : K.In s₁.heap) (hns : s₁.heap.Ns mainGlobals mg) (hb : s₁.heap.Ns builtinsNs mb) (hbb : ∀ x : Str, x ≠ "__name__" → mb x = bootBuiltins x) (hlim : s₁.heap.NoLimit) (hg : s₁.gens = #[])
    (ha : s₁.heap.get? a = some { cls := .type "list", data := .seq vs.toArray }) (hi : IntsAre vs ns) (hl : ns.length ≤ sizeLine) (hr : Room k callerA)
    (F : ∀ base : Heap, K.In base → base.Ns mainGlobals mg → FnG P w K mg base CX k fa fd [x] sp) (hbind : ∀ (s : Shared) (u : Value), BindsTo s fd ⟨[u], []⟩ [(x, u)])
    (hsp : ∀ H : Hp, Only H → SqL K H a (ns.map V.int) → sp [.ref a] H (fun v _ => v = .bl true) fun _ _ _ => False)
    (hCX : ∀ H e s', CX [] H s₁ (fun _ _ _ => False) e s' → False) :
    codeAny (model P w) callerA (.call (.ref fa) ⟨[.ref a], []⟩) (fun r s' => r = .ok (.ret (.bool true)) ∧ OldK s₁.heap s'.heap ∧ s'.os = s₁.os ∧ AllBare s'.gens) s₁ := by
  have rv := vals_ints hi
  have lenV := hi.length
  -- from an abstract heap in which nothing but the script may be tracked
  have core : ∀ H : Hp, Only H → SqL K H a (ns.map V.int) → HOk P w H s₁.heap → (∀ b, H b ≠ none → b = a) → (H a ≠ none → K.lookup a = none) →
      codeAny (model P w) callerA (.call (.ref fa) ⟨[.ref a], []⟩) (fun r s' => r = .ok (.ret (.bool true)) ∧ OldK s₁.heap s'.heap ∧ s'.os = s₁.os ∧ AllBare s'.gens) s₁ := by
    intro H hO hS hok hA hK
    have base_of : ∀ {b : Addr} {o : Obj}, s₁.heap.get? b = some o → H b = none → (hidT s₁.heap H).get? b = some o := fun e n => hidT_get e n
    have noA : ∀ {b : Addr} {o : Obj} {es : Array DictEntry} {ep : Nat}, s₁.heap.get? b = some o → o.data = .dict es ep → H b = none := fun {b o es ep} e d => by
      cases q : H b with
      | none => rfl
      | some u =>
        have e' : b = a := hA b (by rw [q]; simp)
        subst e'
        rw [ha] at e; cases e
        have d' : Data.seq vs.toArray _ = Data.dict es ep := d
        cases d'
    have nsK : ∀ {b : Addr} {m : Str → Option Value}, s₁.heap.Ns b m → (hidT s₁.heap H).Ns b m := fun {b m} ⟨o, es, ep, e, d, r⟩ => ⟨o, es, ep, base_of e (noA e d), d, r⟩
    have hKb : K.In (hidT s₁.heap H) := fun b o e => base_of (KX b o e) (by
      cases q : H b with
      | none => rfl
      | some u =>
        have e' : b = a := hA b (by rw [q]; simp)
        subst e'
        rw [hK (by rw [q]; simp)] at e; cases e)
    have hM : Mod K mg (hidT s₁.heap H) := ⟨hKb, nsK hns, ⟨mb, nsK hb, hbb⟩, let ⟨mc, h1, h2⟩ := hlim; ⟨mc, nsK h1, h2⟩⟩
    have e0 : Env0 P w K mg (hidT s₁.heap H) callerA [] s₁ H := ⟨rfl, hM, fun b o e => of_hidT e, Nat.le_of_eq (hidT_size _ _), trivial, fun b hb => absurd (show b ∈ ([] : List Addr) from hb) (by simp), hok, .of_eq hg⟩
    refine codeAny_mono ((F _ hKb (nsK hns)).run callerA [] s₁ H ⟨[.ref a], []⟩ [.ref a] [.ref a] _ _ rfl hr e0 (hbind s₁ (.ref a)) (.cons rfl .nil) (hsp H hO hS)) fun r s' h => ?_
    cases r with
    | error e => exact (hCX H e s' h).elim
    | ok fl =>
      cases fl with
      | next => exact False.elim h
      | brk => exact False.elim h
      | cont => exact False.elim h
      | ret u =>
        obtain ⟨v, H', os, bare, un, hok', r', q⟩ := h
        have q' : v = .bl true := q
        subst q'
        obtain rfl : u = Value.bool true := r'
        refine ⟨rfl, OldK.of_keep fun b o e => ?_, os, bare⟩
        cases q : H b with
        | none => exact un.keep b o e q (by intro z; exact absurd (show b ∈ ([] : List Addr) from z) (by simp)) (by simp)
        | some u =>
          rcases hO b with z | ⟨ob, xs, z⟩
          · rw [q] at z; cases z
          · have z2 := un.frzs b ob _ z
            obtain ⟨e1, _⟩ := hok b _ z
            obtain ⟨e2, _⟩ := hok' b _ z2
            rw [e] at e1; cases e1
            exact e2
  cases hk : K.lookup a with
  | some o =>
    -- the script is one of the module's own objects
    have e := KX a o hk
    rw [ha] at e
    cases e
    refine core (fun _ => none) (fun _ => .inl rfl) (.inr ⟨_, vs.toArray, _, hk, rfl, rfl, rfl, by rw [List.size_toArray, lenV]; exact hl, by simpa using rv⟩) (fun b u z => by have z' : (none : Option HO) = some u := z; cases z') (fun b z => absurd rfl z) fun z => absurd rfl z
  | none =>
    refine core (fun b => if b = a then some (.frz { cls := .type "list", data := .seq vs.toArray } (.lst (ns.map V.int))) else none) (fun b => ?_) (.inl (.inr ⟨{ cls := .type "list", data := .seq vs.toArray }, if_pos rfl⟩)) (fun b u z => ?_) (fun b z => ?_) fun _ => hk
    · by_cases hb : b = a
      · exact .inr ⟨_, _, if_pos hb⟩
      · exact .inl (if_neg hb)
    · by_cases hb : b = a
      · have z' := (if_pos hb).symm.trans z
        cases z'
        subst hb
        exact ⟨ha, by rw [List.length_map]; exact hl, vs, _, rv, ha⟩
      · have z' := (if_neg hb).symm.trans z
        cases z'
    · by_cases hb : b = a
      · exact hb
      · exact absurd (if_neg hb) z
theorem walk_ofG {l : PySem.W.OpenLaw} {n k : Nat} {q : Program} {loose : List Str} {XP : (Str → Option Value) → Heap → Prop} {YP : World → Heap → Prop} {d : DefRec} {K : Params → PySem.W.Frag} {CX : World → CXT} {sp : World → Sp} {x : Str}
    (hn : l.most = some n) (hn2 : n ≤ sizeLine) (hdf : d.params.defaults = []) (hr : Room k callerA)
    (hY : ∀ (w : World) (h : Heap), YP w h → (K w.params).In h)
    (F : ∀ (w : World) (mg : Str → Option Value) (fa : Addr) (h : Heap), (K w.params).In h → h.Ns mainGlobals mg → mg d.name = some (.ref fa) →
      ∃ fd : FuncData, (∀ (s : Shared) (u : Value), BindsTo s fd ⟨[u], []⟩ [(x, u)]) ∧
        ∀ base : Heap, (K w.params).In base → base.Ns mainGlobals mg → FnG l.prog w (K w.params) mg base (CX w) k fa fd [x] (sp w))
    (hsp : ∀ (w : World) (H : Hp) (a : Addr) (ns : List Int), ns.length ≤ n → Only H → SqL (K w.params) H a (ns.map V.int) → sp w [.ref a] H (fun v _ => v = .bl true) fun _ _ _ => False)
    (hCX : ∀ (w : World) (H : Hp) (s : Shared) (e : Value) (s' : Shared), CX w [] H s (fun _ _ _ => False) e s' → False) :
    PySem.W.WalkO q loose XP YP l.row.toRowW d [] (fun f vs => PySem.call f vs) := by
  refine Att.attach_call hn hdf fun w s₀ s₁ mg mb fa o pm cd doc a vs ns G Y ho hd hcd hmg hobj hints hlen hg => ?_
  have KX := hY w _ Y
  obtain ⟨fd, hb, hF⟩ := F w mg fa _ KX G.T.g hmg
  exact law_callG KX G.T.g G.T.b G.T.builtins G.T.nolimit hg hobj hints (Nat.le_trans hlen hn2) hr hF hb (fun H hO hS => hsp w H a ns hlen hO hS) fun H e s' => hCX w H s₁ e s'
end Pw

/-! the text by places, the scopes, what the written part says. -/
namespace Pw
open PySem L2
def top (i : Nat) : Stmt := PySem.Challenge.pw_pointways_k15_whole_renamed_reordered.main.body.getD i (.Pass ⟨0, 0, 0, 0⟩)
abbrev sRow : Stmt := top 16
abbrev sWhole : Stmt := top 17
abbrev sName : Stmt := top 18
abbrev sNames : Stmt := top 19
abbrev sPair : Stmt := top 20
abbrev sRen : Stmt := top 22
abbrev sRenT : Stmt := top 23
abbrev sNums : Stmt := top 24
abbrev sReo : Stmt := top 25
abbrev sPot : Stmt := top 27
abbrev sTake : Stmt := top 28
abbrev sLNames : Stmt := top 29
abbrev sMixed : Stmt := top 30
abbrev sTie : Stmt := top 31
abbrev sLWeb : Stmt := top 32
abbrev sCls : Stmt := top 33
abbrev sNew : Stmt := top 34
abbrev sIs : Stmt := top 35
abbrev sRR : Stmt := top 36
abbrev sRO : Stmt := top 37
abbrev sBN : Stmt := top 38
abbrev sBO : Stmt := top 39
abbrev sRef : Stmt := top 40
abbrev sLaw : Stmt := top 41
abbrev sInit : Stmt := inClass (top 21) 0
abbrev sPoints : Stmt := inClass (top 21) 1
abbrev sTies : Stmt := inClass (top 21) 2
abbrev sMany : Stmt := inClass (top 21) 3
abbrev nRow : List Str := ["thing"]
abbrev pRow : List Str := ["thing"]
theorem scRow : FnScope nRow pRow (defScope sRow) := ⟨rfl, rfl, rfl, by decide +kernel, rfl, by decide +kernel, by decide +kernel⟩
abbrev nWhole : List Str := ["thing"]
abbrev pWhole : List Str := ["thing"]
theorem scWhole : FnScope nWhole pWhole (defScope sWhole) := ⟨rfl, rfl, rfl, by decide +kernel, rfl, by decide +kernel, by decide +kernel⟩
abbrev nName : List Str := ["thing", "sign"]
abbrev pName : List Str := ["thing"]
theorem scName : FnScope nName pName (defScope sName) := ⟨rfl, rfl, rfl, by decide +kernel, rfl, by decide +kernel, by decide +kernel⟩
abbrev nNames : List Str := ["thing", "one"]
abbrev pNames : List Str := ["thing"]
theorem scNames : FnScope nNames pNames (defScope sNames) := ⟨rfl, rfl, rfl, by decide +kernel, rfl, by decide +kernel, by decide +kernel⟩
abbrev nPair : List Str := ["points", "thing", "one"]
abbrev pPair : List Str := ["points", "thing"]
theorem scPair : FnScope nPair pPair (defScope sPair) := ⟨rfl, rfl, rfl, by decide +kernel, rfl, by decide +kernel, by decide +kernel⟩
abbrev nRen : List Str := ["web", "names", "points", "point"]
abbrev pRen : List Str := ["web", "names"]
theorem scRen : FnScope nRen pRen (defScope sRen) := ⟨rfl, rfl, rfl, by decide +kernel, rfl, by decide +kernel, by decide +kernel⟩
abbrev nRenT : List Str := ["web", "names", "point", "a", "b"]
abbrev pRenT : List Str := ["web", "names"]
theorem scRenT : FnScope nRenT pRenT (defScope sRenT) := ⟨rfl, rfl, rfl, by decide +kernel, rfl, by decide +kernel, by decide +kernel⟩
abbrev nNums : List Str := ["many", "thing", "one"]
abbrev pNums : List Str := ["many", "thing"]
theorem scNums : FnScope nNums pNums (defScope sNums) := ⟨rfl, rfl, rfl, by decide +kernel, rfl, by decide +kernel, by decide +kernel⟩
abbrev nReo : List Str := ["web", "order", "ties", "k"]
abbrev pReo : List Str := ["web", "order"]
theorem scReo : FnScope nReo pReo (defScope sReo) := ⟨rfl, rfl, rfl, by decide +kernel, rfl, by decide +kernel, by decide +kernel⟩
abbrev nPot : List Str := ["_law_script", "_law_k", "_law_cell"]
abbrev pPot : List Str := ["_law_script", "_law_k"]
theorem scPot : FnScope nPot pPot (defScope sPot) := ⟨rfl, rfl, rfl, by decide +kernel, rfl, by decide +kernel, by decide +kernel⟩
abbrev nTake : List Str := ["_law_pot_here", "_law_many", "_law_digit"]
abbrev pTake : List Str := ["_law_pot_here", "_law_many"]
theorem scTake : FnScope nTake pTake (defScope sTake) := ⟨rfl, rfl, rfl, by decide +kernel, rfl, by decide +kernel, by decide +kernel⟩
abbrev nLNames : List Str := ["_law_pot_here", "_law_many", "_law_letters", "_law_begin", "_law_p", "_law_q", "_law_some", "_law_k", "_law_found", "_law_word", "_law_j"]
abbrev pLNames : List Str := ["_law_pot_here", "_law_many"]
theorem scLNames : FnScope nLNames pLNames (defScope sLNames) := ⟨rfl, rfl, rfl, by decide +kernel, rfl, by decide +kernel, by decide +kernel⟩
abbrev nMixed : List Str := ["_law_pot_here", "_law_things", "_law_found", "_law_thing"]
abbrev pMixed : List Str := ["_law_pot_here", "_law_things"]
theorem scMixed : FnScope nMixed pMixed (defScope sMixed) := ⟨rfl, rfl, rfl, by decide +kernel, rfl, by decide +kernel, by decide +kernel⟩
abbrev nTie : List Str := ["_law_pot_here", "_law_names_here", "_law_a", "_law_b"]
abbrev pTie : List Str := ["_law_pot_here", "_law_names_here"]
theorem scTie : FnScope nTie pTie (defScope sTie) := ⟨rfl, rfl, rfl, by decide +kernel, rfl, by decide +kernel, by decide +kernel⟩
abbrev nLWeb : List Str := ["_law_pot_here", "_law_points", "_law_most", "_law_names_here", "_law_kind", "_law_ties", "_law_row", "_law_k", "_law_turns", "_law_tie_here", "_law_a", "_law_b", "_law_turn"]
abbrev pLWeb : List Str := ["_law_pot_here", "_law_points", "_law_most"]
theorem scLWeb : FnScope nLWeb pLWeb (defScope sLWeb) := ⟨rfl, rfl, rfl, by decide +kernel, rfl, by decide +kernel, by decide +kernel⟩
abbrev nCls : List Str := ["_law_e", "_law_found", "_law_words", "_law_word", "_law_told"]
abbrev pCls : List Str := ["_law_e"]
theorem scCls : FnScope nCls pCls (defScope sCls) := ⟨rfl, rfl, rfl, by decide +kernel, rfl, by decide +kernel, by decide +kernel⟩
abbrev nNew : List Str := ["_law_pot_here", "_law_names_here"]
abbrev pNew : List Str := ["_law_pot_here", "_law_names_here"]
theorem scNew : FnScope nNew pNew (defScope sNew) := ⟨rfl, rfl, rfl, by decide +kernel, rfl, by decide +kernel, by decide +kernel⟩
abbrev nIs : List Str := ["_law_web_here", "_law_names_here", "_law_ties"]
abbrev pIs : List Str := ["_law_web_here", "_law_names_here", "_law_ties"]
theorem scIs : FnScope nIs pIs (defScope sIs) := ⟨rfl, rfl, rfl, by decide +kernel, rfl, by decide +kernel, by decide +kernel⟩
abbrev nRR : List Str := ["_law_web_here", "_law_names_here", "_law_ties", "_law_more", "_law_other", "_law_due", "_law_back", "_law_name", "_law_a", "_law_b"]
abbrev pRR : List Str := ["_law_web_here", "_law_names_here", "_law_ties", "_law_more"]
theorem scRR : FnScope nRR pRR (defScope sRR) := ⟨rfl, rfl, rfl, by decide +kernel, rfl, by decide +kernel, by decide +kernel⟩
abbrev nRO : List Str := ["_law_web_here", "_law_names_here", "_law_ties", "_law_order", "_law_other", "_law_due", "_law_back", "_law_k"]
abbrev pRO : List Str := ["_law_web_here", "_law_names_here", "_law_ties", "_law_order"]
theorem scRO : FnScope nRO pRO (defScope sRO) := ⟨rfl, rfl, rfl, by decide +kernel, rfl, by decide +kernel, by decide +kernel⟩
abbrev nBN : List Str := ["_law_pot_here", "_law_names_here", "_law_more", "_law_odd", "_law_one", "_law_left", "_law_strange", "_law_some", "_law_name", "_law_letter"]
abbrev pBN : List Str := ["_law_pot_here", "_law_names_here", "_law_more"]
theorem scBN : FnScope nBN pBN (defScope sBN) := ⟨rfl, rfl, rfl, by decide +kernel, rfl, by decide +kernel, by decide +kernel⟩
abbrev nBO : List Str := ["_law_pot_here", "_law_order", "_law_at", "_law_some", "_law_odd", "_law_k"]
abbrev pBO : List Str := ["_law_pot_here", "_law_order"]
theorem scBO : FnScope nBO pBO (defScope sBO) := ⟨rfl, rfl, rfl, by decide +kernel, rfl, by decide +kernel, by decide +kernel⟩
abbrev nRef : List Str := ["_law_kind", "_law_web_here", "_law_thing", "_law_held", "_law_found", "_law_e"]
abbrev pRef : List Str := ["_law_kind", "_law_web_here", "_law_thing"]
theorem scRef : FnScope nRef pRef (defScope sRef) := ⟨rfl, rfl, rfl, by decide +kernel, rfl, by decide +kernel, by decide +kernel⟩
abbrev nLaw : List Str := ["_law_script", "_law_k", "_law_pot_here", "_law_names_here", "_law_ties", "_law_web_here", "_law_more", "_law_order"]
abbrev pLaw : List Str := ["_law_script"]
theorem scLaw : FnScope nLaw pLaw (defScope sLaw) := ⟨rfl, rfl, rfl, by decide +kernel, rfl, by decide +kernel, by decide +kernel⟩
abbrev nInit : List Str := ["self", "points", "ties", "tie"]
abbrev pInit : List Str := ["self", "points", "ties"]
theorem scInit : FnScope nInit pInit (defScope sInit) := ⟨rfl, rfl, rfl, by decide +kernel, rfl, by decide +kernel, by decide +kernel⟩
abbrev nPoints : List Str := ["self"]
abbrev pPoints : List Str := ["self"]
theorem scPoints : FnScope nPoints pPoints (defScope sPoints) := ⟨rfl, rfl, rfl, by decide +kernel, rfl, by decide +kernel, by decide +kernel⟩
abbrev nTies : List Str := ["self"]
abbrev pTies : List Str := ["self"]
theorem scTies : FnScope nTies pTies (defScope sTies) := ⟨rfl, rfl, rfl, by decide +kernel, rfl, by decide +kernel, by decide +kernel⟩
abbrev nMany : List Str := ["self"]
abbrev pMany : List Str := ["self"]
theorem scMany : FnScope nMany pMany (defScope sMany) := ⟨rfl, rfl, rfl, by decide +kernel, rfl, by decide +kernel, by decide +kernel⟩
/-- a def that is called by its name -/
structure D (K : PySem.W.Frag) (mg : Str → Option Value) (x : Str) (st : Stmt) (ps : List Str) (f : Addr) (fd : FuncData) : Prop where
  fn : Fun K x x st f fd
  g : mg x = some (.ref f)
  b : Binds K fd ps []
theorem D.k {K : PySem.W.Frag} {mg : Str → Option Value} {x : Str} {st : Stmt} {ps : List Str} {f : Addr} {fd : FuncData} (d : D K mg x st ps f fd) : PySem.W.keepIn K (.ref f) = true := d.fn.kp
def bmVE : List Value := [.type "ValueError", .type "Exception", .type "BaseException", .type "object"]
/-- an own class of errors -/
structure XC (K : PySem.W.Frag) (mg : Str → Option Value) (x : Str) (C : Addr) : Prop where
  g : mg x = some (.ref C)
  k : PySem.W.keepIn K (.ref C) = true
  ex : PySem.W.excIn K C bmVE "ValueError.__new__" = true
  sb : PySem.W.subIn K (.ref C) (.type "BaseException") = some true
  ty : PySem.W.typeIn K (.ref C) = some (.type "type")
/-- what the written part says -/
structure W0 (K : PySem.W.Frag) (mg : Str → Option Value) where
  fRow : Addr
  dRow : FuncData
  eRow : D K mg "is_row" sRow pRow fRow dRow
  fWhole : Addr
  dWhole : FuncData
  eWhole : D K mg "is_whole" sWhole pWhole fWhole dWhole
  fName : Addr
  dName : FuncData
  eName : D K mg "is_name" sName pName fName dName
  fNames : Addr
  dNames : FuncData
  eNames : D K mg "are_names" sNames pNames fNames dNames
  fPair : Addr
  dPair : FuncData
  ePair : D K mg "is_pair" sPair pPair fPair dPair
  fRen : Addr
  dRen : FuncData
  eRen : D K mg "renamed" sRen pRen fRen dRen
  fRenT : Addr
  dRenT : FuncData
  eRenT : D K mg "renamed_ties" sRenT pRenT fRenT dRenT
  fNums : Addr
  dNums : FuncData
  eNums : D K mg "are_numbers" sNums pNums fNums dNums
  fReo : Addr
  dReo : FuncData
  eReo : D K mg "reordered" sReo pReo fReo dReo
  fPot : Addr
  dPot : FuncData
  ePot : D K mg "_law_pot" sPot pPot fPot dPot
  fTake : Addr
  dTake : FuncData
  eTake : D K mg "_law_take" sTake pTake fTake dTake
  fLNames : Addr
  dLNames : FuncData
  eLNames : D K mg "_law_names" sLNames pLNames fLNames dLNames
  fMixed : Addr
  dMixed : FuncData
  eMixed : D K mg "_law_mixed" sMixed pMixed fMixed dMixed
  fTie : Addr
  dTie : FuncData
  eTie : D K mg "_law_tie" sTie pTie fTie dTie
  fLWeb : Addr
  dLWeb : FuncData
  eLWeb : D K mg "_law_web" sLWeb pLWeb fLWeb dLWeb
  fCls : Addr
  dCls : FuncData
  eCls : D K mg "_law_classes" sCls pCls fCls dCls
  fNew : Addr
  dNew : FuncData
  eNew : D K mg "_law_new_names" sNew pNew fNew dNew
  fIs : Addr
  dIs : FuncData
  eIs : D K mg "_law_is" sIs pIs fIs dIs
  fRR : Addr
  dRR : FuncData
  eRR : D K mg "_law_renamed_right" sRR pRR fRR dRR
  fRO : Addr
  dRO : FuncData
  eRO : D K mg "_law_reordered_right" sRO pRO fRO dRO
  fBN : Addr
  dBN : FuncData
  eBN : D K mg "_law_bad_names" sBN pBN fBN dBN
  fBO : Addr
  dBO : FuncData
  eBO : D K mg "_law_bad_order" sBO pBO fBO dBO
  fRef : Addr
  dRef : FuncData
  eRef : D K mg "_law_refusal" sRef pRef fRef dRef
  fInit : Addr
  dInit : FuncData
  eInit : Fun K "__init__" "Web.__init__" sInit fInit dInit
  bInit : Binds K dInit pInit []
  fPoints : Addr
  dPoints : FuncData
  ePoints : Fun K "points" "Web.points" sPoints fPoints dPoints
  bPoints : Binds K dPoints pPoints []
  fTies : Addr
  dTies : FuncData
  eTies : Fun K "ties" "Web.ties" sTies fTies dTies
  bTies : Binds K dTies pTies []
  fMany : Addr
  dMany : FuncData
  eMany : Fun K "many" "Web.many" sMany fMany dMany
  bMany : Binds K dMany pMany []
  cWeb : Addr
  kWeb : Cls K cWeb
  mWeb : Mk K cWeb fInit
  gWeb : mg "Web" = some (.ref cWeb)
  mPoints : Meth K cWeb "points" fPoints
  mTies : Meth K cWeb "ties" fTies
  mMany : Meth K cWeb "many" fMany
  aP : NoAttr K cWeb "own_points"
  aT : NoAttr K cWeb "own_ties"
  z_isinstance : mg "isinstance" = none
  z_list : mg "list" = none
  z_tuple : mg "tuple" = none
  z_int : mg "int" = none
  z_bool : mg "bool" = none
  z_str : mg "str" = none
  z_len : mg "len" = none
  z_all : mg "all" = none
  z_set : mg "set" = none
  z_dict : mg "dict" = none
  z_divmod : mg "divmod" = none
  z_max : mg "max" = none
  z_min : mg "min" = none
  z_abs : mg "abs" = none
  z_range : mg "range" = none
  z_zip : mg "zip" = none
  z_repr : mg "repr" = none
  z_ValueError : mg "ValueError" = none
  tSmall : Tok
  gSmall : mg "SMALL" = some (.str "abcdefghijklmnopqrstuvwxyz" tSmall)
  tMOST_LETTERS : Tok
  gMOST_LETTERS : mg "MOST_LETTERS" = some (.int 4 tMOST_LETTERS)
  tMOST_POINTS : Tok
  gMOST_POINTS : mg "MOST_POINTS" = some (.int 9 tMOST_POINTS)
  tMOST_TIES : Tok
  gMOST_TIES : mg "MOST_TIES" = some (.int 20 tMOST_TIES)
  cPoint : Addr
  gPoint : mg "PointError" = some (.ref cPoint)
  cNoWeb : Addr
  gNoWeb : mg "NoWeb" = some (.ref cNoWeb)
  cNoText : Addr
  gNoText : mg "NoText" = some (.ref cNoText)
  cNoNumbers : Addr
  gNoNumbers : mg "NoNumbers" = some (.ref cNoNumbers)
  cNoLot : Addr
  gNoLot : mg "NoLot" = some (.ref cNoLot)
  cNoPoint : Addr
  gNoPoint : mg "NoPoint" = some (.ref cNoPoint)
  cNoPointing : Addr
  gNoPointing : mg "NoPointing" = some (.ref cNoPointing)
  cParted : Addr
  gParted : mg "Parted" = some (.ref cParted)
  cBarred : Addr
  gBarred : mg "Barred" = some (.ref cBarred)
  cTooMuch : Addr
  gTooMuch : mg "TooMuch" = some (.ref cTooMuch)
  xNoWeb : XC K mg "NoWeb" cNoWeb
  iNoWeb : ExcC K cNoWeb
  mNoWeb : PySem.W.exmOne K (.ref cNoWeb) (.ref cPoint) = some true
  kNoWeb_NoWeb : PySem.W.kitOne K (.ref cNoWeb) (.ref cNoWeb) = some true
  kNoWeb_NoText : PySem.W.kitOne K (.ref cNoWeb) (.ref cNoText) = some false
  kNoWeb_NoNumbers : PySem.W.kitOne K (.ref cNoWeb) (.ref cNoNumbers) = some false
  kNoWeb_NoLot : PySem.W.kitOne K (.ref cNoWeb) (.ref cNoLot) = some false
  kNoWeb_NoPoint : PySem.W.kitOne K (.ref cNoWeb) (.ref cNoPoint) = some false
  kNoWeb_NoPointing : PySem.W.kitOne K (.ref cNoWeb) (.ref cNoPointing) = some false
  kNoWeb_Parted : PySem.W.kitOne K (.ref cNoWeb) (.ref cParted) = some false
  kNoWeb_Barred : PySem.W.kitOne K (.ref cNoWeb) (.ref cBarred) = some false
  kNoWeb_TooMuch : PySem.W.kitOne K (.ref cNoWeb) (.ref cTooMuch) = some false
  kNoWeb_ValueError : PySem.W.kitOne K (.ref cNoWeb) (.type "ValueError") = some true
  xNoNumbers : XC K mg "NoNumbers" cNoNumbers
  iNoNumbers : ExcC K cNoNumbers
  mNoNumbers : PySem.W.exmOne K (.ref cNoNumbers) (.ref cPoint) = some true
  kNoNumbers_NoWeb : PySem.W.kitOne K (.ref cNoNumbers) (.ref cNoWeb) = some false
  kNoNumbers_NoText : PySem.W.kitOne K (.ref cNoNumbers) (.ref cNoText) = some false
  kNoNumbers_NoNumbers : PySem.W.kitOne K (.ref cNoNumbers) (.ref cNoNumbers) = some true
  kNoNumbers_NoLot : PySem.W.kitOne K (.ref cNoNumbers) (.ref cNoLot) = some false
  kNoNumbers_NoPoint : PySem.W.kitOne K (.ref cNoNumbers) (.ref cNoPoint) = some false
  kNoNumbers_NoPointing : PySem.W.kitOne K (.ref cNoNumbers) (.ref cNoPointing) = some false
  kNoNumbers_Parted : PySem.W.kitOne K (.ref cNoNumbers) (.ref cParted) = some false
  kNoNumbers_Barred : PySem.W.kitOne K (.ref cNoNumbers) (.ref cBarred) = some false
  kNoNumbers_TooMuch : PySem.W.kitOne K (.ref cNoNumbers) (.ref cTooMuch) = some false
  kNoNumbers_ValueError : PySem.W.kitOne K (.ref cNoNumbers) (.type "ValueError") = some true
end Pw

/-! the data: heaps without one address, what kind a value is, texts, ties, webs; comprehensions by a relation. -/
namespace Pw
open PySem PySem.Spec PyProof.Rows L2
/-! ### heaps -/
def rem (p : Addr) (H : Hp) : Hp := fun b => if b = p then none else H b
theorem rem_ne {p b : Addr} {H : Hp} (h : b ≠ p) : rem p H b = H b := if_neg h
theorem rem_at {p : Addr} {H : Hp} : rem p H p = none := if_pos rfl
theorem of_rem {p b : Addr} {H : Hp} {o : HO} (h : rem p H b = some o) : b ≠ p ∧ H b = some o := by
  by_cases e : b = p
  · rw [e, rem_at] at h; cases h
  · rw [rem_ne e] at h; exact ⟨e, h⟩
theorem rem_upd {p : Addr} {H : Hp} {o : HO} : rem p (upd H p o) = rem p H := by
  funext b
  by_cases e : b = p
  · rw [e, rem_at, rem_at]
  · rw [rem_ne e, rem_ne e, upd_ne e]
theorem rem_upd_ne {p q : Addr} {H : Hp} {o : HO} (h : q ≠ p) : rem p (upd H q o) = upd (rem p H) q o := by
  funext b
  by_cases e : b = q
  · rw [e, upd_same, rem_ne h, upd_same]
  · rw [upd_ne e]
    by_cases e2 : b = p
    · rw [e2, rem_at, rem_at]
    · rw [rem_ne e2, rem_ne e2, upd_ne e]
theorem rem_none {p : Addr} {H : Hp} (h : H p = none) : rem p H = H := by
  funext b
  by_cases e : b = p
  · rw [e, rem_at, h]
  · exact rem_ne e
theorem same_rem {p : Addr} {H : Hp} : Same (rem p H) H := fun _ _ h => (of_rem h).2
theorem same_remr {p : Addr} {H H' : Hp} (s : Same H H') : Same (rem p H) (rem p H') := fun b o h => by
  obtain ⟨h1, h2⟩ := of_rem h
  rw [rem_ne h1]
  exact s b o h2
theorem same_put {H0 H : Hp} {l : Addr} {o : HO} (s : Same H0 H) (h : H0 l = none) : Same H0 (upd H l o) := fun b u e => by
  rw [upd_ne (ne_of_none e h)]
  exact s b u e
theorem same_fresh {H0 H : Hp} {l : Addr} {o : HO} (s : Same H0 H) (h : H l = none) : Same H0 (upd H l o) := same_put s (s.free h)
theorem same_new {H : Hp} {l : Addr} {o : HO} (h : H l = none) : Same H (upd H l o) := same_put (Same.refl H) h
theorem same_ofRem {p : Addr} {H0 H H' : Hp} (s : Same H0 H) (h : H0 p = none) (r : Same (rem p H) (rem p H')) : Same H0 H' := fun b o e => by
  have n := ne_of_none e h
  exact (of_rem (r b o (by rw [rem_ne n]; exact s b o e))).2
theorem same_toRem {p : Addr} {H0 H : Hp} (s : Same H0 H) (h : H0 p = none) : Same H0 (rem p H) := fun b o e => by
  rw [rem_ne (ne_of_none e h)]
  exact s b o e
theorem rem_fresh {p l : Addr} {H : Hp} (h : H l = none) : rem p H l = none := by
  by_cases e : l = p
  · rw [e, rem_at]
  · rw [rem_ne e]; exact h
/-- the pot -/
def PotAt (p : Addr) (H : Hp) : Prop := ∃ i j : Int, H p = some (.lst [.int i, .int j]) ∧ 0 ≤ i ∧ 0 ≤ j ∧ j < 2 ^ 33
theorem PotAt.new {p l : Addr} {H : Hp} {o : HO} (h : PotAt p H) (n : H l = none) : PotAt p (upd H l o) := by
  obtain ⟨i, j, e, r⟩ := h
  exact ⟨i, j, by rw [upd_ne (ne_of_none e n)]; exact e, r⟩
theorem PotAt.put {p l : Addr} {H : Hp} {o : HO} (h : PotAt p H) (n : l ≠ p) : PotAt p (upd H l o) := by
  obtain ⟨i, j, e, r⟩ := h
  exact ⟨i, j, by rw [upd_ne (Ne.symm n)]; exact e, r⟩
theorem PotAt.ne {p l : Addr} {H : Hp} (h : PotAt p H) (n : H l = none) : l ≠ p := by
  obtain ⟨i, j, e, r⟩ := h
  exact (ne_of_none e n).symm
/-! ### what kind a value is -/
inductive Ty (H : Hp) : V → String → Prop
  | non : Ty H .non "NoneType"
  | bl (b : Bool) : Ty H (.bl b) "bool"
  | int (i : Int) : Ty H (.int i) "int"
  | str (x : Str) : Ty H (.str x) "str"
  | lst {a : Addr} {xs : List V} (e : H a = some (.lst xs)) : Ty H (.ref a) "list"
  | tup {a : Addr} {xs : List V} (e : H a = some (.tup xs)) : Ty H (.ref a) "tuple"
  | dK {a : Addr} {kvs : List (Key × V)} (e : H a = some (.dK kvs)) : Ty H (.ref a) "dict"
theorem Ty.same {H H' : Hp} (s : Same H H') {v : V} {t : String} (y : Ty H v t) : Ty H' v t := by
  cases y with
  | non => exact .non
  | bl b => exact .bl b
  | int i => exact .int i
  | str x => exact .str x
  | lst e => exact .lst (s _ _ e)
  | tup e => exact .tup (s _ _ e)
  | dK e => exact .dK (s _ _ e)
theorem Ty.x {K : PySem.W.Frag} {H : Hp} {v : V} {t : String} (y : Ty H v t) : TyX K H v (.type t) := by
  cases y with
  | non => exact .base .non
  | bl b => exact .base (.bl b)
  | int i => exact .base (.int i)
  | str x => exact .base (.str x)
  | lst e => exact .base (.lst e)
  | tup e => exact .base (.tup e)
  | dK e => exact .base (.dK e)
def rowT (t : String) : Bool := t == "list" || t == "tuple"
theorem kit_row {K : PySem.W.Frag} {H : Hp} {v : V} {t : String} (y : Ty H v t) : PySem.W.kitAny K (.type t) [.type "list", .type "tuple"] = some (rowT t) := by
  cases y <;> first
    | exact kitAny_cons (b := false) (kit_ty (by decide +kernel)) (fun _ => kitAny_cons (b := false) (kit_ty (by decide +kernel)) (fun _ => kitAny_nil) (fun z => nomatch z)) (fun z => nomatch z)
    | exact kitAny_cons (b := true) (kit_ty (by decide +kernel)) (fun z => nomatch z) (fun _ => rfl)
    | exact kitAny_cons (b := false) (kit_ty (by decide +kernel)) (fun _ => kitAny_cons (b := true) (kit_ty (by decide +kernel)) (fun z => nomatch z) (fun _ => rfl)) (fun z => nomatch z)
theorem kit_int {K : PySem.W.Frag} {H : Hp} {v : V} {t : String} (y : Ty H v t) : PySem.W.kitOne K (.type t) (.type "int") = some (t == "int" || t == "bool") := by
  cases y <;> exact kit_ty (by decide +kernel)
theorem kit_bool {K : PySem.W.Frag} {H : Hp} {v : V} {t : String} (y : Ty H v t) : PySem.W.kitOne K (.type t) (.type "bool") = some (t == "bool") := by
  cases y <;> exact kit_ty (by decide +kernel)
theorem kit_str {K : PySem.W.Frag} {H : Hp} {v : V} {t : String} (y : Ty H v t) : PySem.W.kitOne K (.type t) (.type "str") = some (t == "str") := by
  cases y <;> exact kit_ty (by decide +kernel)
theorem kit_dict {K : PySem.W.Frag} {H : Hp} {v : V} {t : String} (y : Ty H v t) : PySem.W.kitOne K (.type t) (.type "dict") = some (t == "dict") := by
  cases y <;> exact kit_ty (by decide +kernel)
/-! ### texts -/
def small : Str := "abcdefghijklmnopqrstuvwxyz"
/-- a name: 1 to 4 small letters -/
def isNm (x : Str) : Bool := decide (1 ≤ x.length) && decide (x.length ≤ 4) && (x.cps.toList.map fun c => decide (c ∈ small.cps.toList)).all id
def nmB : V → Bool
  | .str x => isNm x
  | _ => false
def wholeB : V → Bool
  | .int _ => true
  | _ => false
theorem isNm_len {x : Str} (h : isNm x = true) : 1 ≤ x.length ∧ x.length ≤ 4 := by
  unfold isNm at h
  simp only [Bool.and_eq_true, decide_eq_true_eq] at h
  exact h.1
/-! ### ties, webs -/
/-- v is a new or old tuple of the two texts -/
def TieV (H : Hp) (v : V) (q : Str × Str) : Prop := ∃ T, v = .ref T ∧ H T = some (.tup [.str q.1, .str q.2])
theorem TieV.same {H H' : Hp} (s : Same H H') {v : V} {q : Str × Str} (t : TieV H v q) : TieV H' v q := by
  obtain ⟨T, e, h⟩ := t
  exact ⟨T, e, s _ _ h⟩
def Ties (H : Hp) : List V → List (Str × Str) → Prop := Paired (TieV H)
theorem Ties.same {H H' : Hp} (s : Same H H') {vs : List V} {qs : List (Str × Str)} (t : Ties H vs qs) : Ties H' vs qs := Paired.mapP t fun _ _ q => q.same s
def wf (l t : Addr) : List (Str × V) := putF "own_ties" (.ref t) (putF "own_points" (.ref l) [])
theorem pt_ne : ¬ (("own_points" : Str) = "own_ties") := by decide +kernel
theorem wf_points (l t : Addr) : (wf l t).lookup ("own_points" : Str) = some (.ref l) := by
  unfold wf
  rw [lookup_putF, if_neg pt_ne, lookup_putF, if_pos rfl]
theorem wf_ties (l t : Addr) : (wf l t).lookup ("own_ties" : Str) = some (.ref t) := by
  unfold wf
  rw [lookup_putF, if_pos rfl]
theorem wf_no (l t : Addr) {m : Str} (h1 : ¬ m = "own_ties") (h2 : ¬ m = "own_points") : (wf l t).lookup m = none := by
  unfold wf
  rw [lookup_putF, if_neg h1, lookup_putF, if_neg h2]
  all_goals rfl
/-- a web at x: these points, these ties -/
def WebAt (C : Addr) (H : Hp) (x : Addr) (ns : List Str) (qs : List (Str × Str)) : Prop :=
  ∃ dx l t ts, H x = some (.ins C dx (wf l t)) ∧ H l = some (.lst (ns.map .str)) ∧ H t = some (.lst ts) ∧ Ties H ts qs
theorem WebAt.same {C : Addr} {H H' : Hp} {x : Addr} {ns : List Str} {qs : List (Str × Str)} (s : Same H H') (w : WebAt C H x ns qs) : WebAt C H' x ns qs := by
  obtain ⟨dx, l, t, ts, h1, h2, h3, h4⟩ := w
  exact ⟨dx, l, t, ts, s _ _ h1, s _ _ h2, s _ _ h3, h4.same s⟩
/-- ties that a web on these points may have -/
def TieOk (ns : List Str) (q : Str × Str) : Prop := q.1 ∈ ns ∧ q.2 ∈ ns ∧ q.1 ≠ q.2
structure Good (ns : List Str) (qs : List (Str × Str)) : Prop where
  one : 1 ≤ ns.length
  nine : ns.length ≤ 9
  nm : ∀ x ∈ ns, isNm x = true
  nd : ns.Nodup
  many : qs.length ≤ 20
  ok : ∀ q ∈ qs, TieOk ns q
/-! ### lists of what stands -/
theorem vals_str {ns : List Str} {i : Nat} {v : V} (h : (ns.map V.str)[i]? = some v) : ∃ x, ns[i]? = some x ∧ v = .str x := by
  rw [List.getElem?_map] at h
  cases e : ns[i]? with
  | none => rw [e] at h; cases h
  | some x => rw [e] at h; exact ⟨x, rfl, (Option.some.inj h).symm⟩
theorem paired_at {α β : Type} {F : α → β → Prop} : ∀ {xs : List α} {ys : List β}, Paired F xs ys → ∀ {i : Nat} {x : α}, xs[i]? = some x → ∃ y, ys[i]? = some y ∧ F x y
  | _, _, .nil, i, x, h => by simp at h
  | _, _, .cons f p, 0, x, h => by
    simp at h
    subst h
    exact ⟨_, rfl, f⟩
  | _, _, .cons f p, i + 1, x, h => paired_at p (i := i) (by simpa using h)
theorem paired_at2 {α β : Type} {F : α → β → Prop} : ∀ {xs : List α} {ys : List β}, Paired F xs ys → ∀ {i : Nat} {y : β}, ys[i]? = some y → ∃ x, xs[i]? = some x ∧ F x y
  | _, _, .nil, i, x, h => by simp at h
  | _, _, .cons f p, 0, x, h => by
    simp at h
    subst h
    exact ⟨_, rfl, f⟩
  | _, _, .cons f p, i + 1, x, h => paired_at2 p (i := i) (by simpa using h)
theorem paired_len {α β : Type} {F : α → β → Prop} : ∀ {xs : List α} {ys : List β}, Paired F xs ys → xs.length = ys.length
  | _, _, .nil => rfl
  | _, _, .cons _ p => by rw [List.length_cons, List.length_cons, paired_len p]
theorem paired_app {α β : Type} {F : α → β → Prop} : ∀ {xs : List α} {ys : List β} {us : List α} {vs : List β}, Paired F xs ys → Paired F us vs → Paired F (xs ++ us) (ys ++ vs)
  | _, _, _, _, .nil, q => q
  | _, _, _, _, .cons f p, q => .cons f (paired_app p q)
theorem paired_of {α β : Type} {F : α → β → Prop} : ∀ {xs : List α} {ys : List β}, xs.length = ys.length → (∀ (i : Nat) x y, xs[i]? = some x → ys[i]? = some y → F x y) → Paired F xs ys
  | [], [], _, _ => .nil
  | [], _ :: _, h, _ => by simp at h
  | _ :: _, [], h, _ => by simp at h
  | x :: xs, y :: ys, h, f => .cons (f 0 x y rfl rfl) (paired_of (by simpa using h) fun i a b ha hb => f (i + 1) a b (by simpa using ha) (by simpa using hb))
theorem eq_map {α β : Type} {f : α → β} : ∀ {ys : List β} {zs : List α}, ys.length = zs.length → (∀ (i : Nat) y, ys[i]? = some y → ∃ z, zs[i]? = some z ∧ y = f z) → ys = zs.map f
  | [], [], _, _ => rfl
  | [], _ :: _, h, _ => by simp at h
  | _ :: _, [], h, _ => by simp at h
  | y :: ys, z :: zs, h, q => by
    obtain ⟨z', e, e2⟩ := q 0 y rfl
    simp at e
    subst e
    rw [List.map_cons, e2, eq_map (ys := ys) (zs := zs) (by simpa using h) fun i y hy => by simpa using q (i + 1) y (by simpa using hy)]
/-! ### a comprehension by a relation: of the turns whose test p holds the value stands in R -/
def LcP (H1 : Hp) (D : Addr) (p : Nat → Bool) (R : Nat → V → Hp → Prop) (i : Nat) (H : Hp) : Prop :=
  i ≤ 1000 ∧ Same H1 H ∧ H1 D = none ∧ (∀ i y H H', Same H H' → R i y H → R i y H') ∧ ∃ ys, H D = some (.lst ys) ∧ Paired (fun i y => R i y (rem D H)) ((List.range i).filter p) ys
theorem LcP.zero {H1 : Hp} {D : Addr} {p : Nat → Bool} {R : Nat → V → Hp → Prop} (hD : H1 D = none) (mono : ∀ i y H H', Same H H' → R i y H → R i y H') : LcP H1 D p R 0 (upd H1 D (.lst [])) :=
  ⟨Nat.zero_le _, same_new hD, hD, mono, [], upd_same, .nil⟩
theorem LcP.put {H1 H H4 : Hp} {D : Addr} {p : Nat → Bool} {R : Nat → V → Hp → Prop} {i : Nat} {y : V} (l : LcP H1 D p R i H) (hi : i < 1000) (s : Same H H4) (hp : p i = true) (r : R i y (rem D H4)) :
    ∃ acc, H4 D = some (.lst acc) ∧ acc.length < sizeLine ∧ LcP H1 D p R (i + 1) (upd H4 D (.lst (acc ++ [y]))) := by
  obtain ⟨_, s1, hD, mono, ys, hy, q⟩ := l
  have lq := paired_len q
  have hl : ys.length ≤ 1000 := by
    rw [← lq]
    exact Nat.le_trans (List.length_filter_le _ _) (by simp; omega)
  refine ⟨ys, s _ _ hy, small1000 hl, hi, same_put (s1.trans s) hD, hD, mono, ys ++ [y], upd_same, ?_⟩
  rw [List.range_succ, List.filter_append, List.filter_cons, if_pos hp, rem_upd]
  exact paired_app (Paired.mapP q fun j z hz => mono _ _ _ _ (same_remr s) hz) (.cons r .nil)
theorem LcP.skip {H1 H H3 : Hp} {D : Addr} {p : Nat → Bool} {R : Nat → V → Hp → Prop} {i : Nat} (l : LcP H1 D p R i H) (hi : i < 1000) (s : Same H H3) (hp : p i = false) : LcP H1 D p R (i + 1) H3 := by
  obtain ⟨_, s1, hD, mono, ys, hy, q⟩ := l
  refine ⟨hi, s1.trans s, hD, mono, ys, s _ _ hy, ?_⟩
  rw [List.range_succ, List.filter_append, List.filter_cons, if_neg (by rw [hp]; exact Bool.false_ne_true), List.filter_nil, List.append_nil]
  exact Paired.mapP q fun j z hz => mono _ _ _ _ (same_remr s) hz
theorem LcP.all {H1 H : Hp} {D : Addr} {R : Nat → V → Hp → Prop} {n : Nat} (l : LcP H1 D (fun _ => true) R n H) : Same H1 H ∧ ∃ ys, H D = some (.lst ys) ∧ ys.length = n ∧ ∀ i y, ys[i]? = some y → R i y (rem D H) := by
  obtain ⟨_, s1, hD, mono, ys, hy, q⟩ := l
  have e : (List.range n).filter (fun _ => true) = List.range n := List.filter_eq_self.mpr fun _ _ => rfl
  rw [e] at q
  refine ⟨s1, ys, hy, by rw [← paired_len q, List.length_range], fun i y h => ?_⟩
  obtain ⟨j, hj, r⟩ := paired_at2 q h
  have hlt : i < n := by
    have z := (List.getElem?_eq_some_iff.mp hj).1
    rwa [List.length_range] at z
  rw [List.getElem?_range hlt] at hj
  cases hj
  exact r
theorem lc_fil {J : It} {n : Nat} {G : Hp → Prop} {Y : Nat → Hp → V → Hp → Prop} (w : Walk J n G Y) {g : TG} {tt : TT} {te : TE} {vs : List Nat} {σ : L2.St} {H1 : Hp} {D : Addr} {Qd : Hp → Prop} (p : Nat → Bool) (R : Nat → V → Hp → Prop)
    (mono : ∀ i y H H', Same H H' → R i y H → R i y H') (hD : H1 D = none) (hG : ∀ H, Same H1 H → G H)
    (hs : ∀ i x H H', i < n → LcP H1 D p R i H → Same H1 H → Y i H x H' → g x (wipe σ vs) H' fun σ2 H2 => wipe σ2 vs = wipe σ vs ∧ tt σ2 H2 fun b H3 =>
      if b = true then te σ2 H3 fun y H4 => ∃ acc, H4 D = some (.lst acc) ∧ acc.length < sizeLine ∧ LcP H1 D p R (i + 1) (upd H4 D (.lst (acc ++ [y]))) else LcP H1 D p R (i + 1) H3)
    (hd : ∀ H, LcP H1 D p R n H → Qd H) :
    ∃ W : Nat → Nat → Hp → Prop, (∃ m, W 0 m (upd H1 D (.lst []))) ∧ ∀ i m H, W i m H →
      (J.stop i H ∧ Qd H) ∨ (J.go i H ∧ ∃ Nx : Hp → Prop, (∀ H', Nx H' → ∃ m', m' < m ∧ W (i + 1) m' H') ∧ ∀ x H', J.yld i H x H' → g x (wipe σ vs) H' fun σ2 H2 => wipe σ2 vs = wipe σ vs ∧ tt σ2 H2 fun b H3 =>
        if b = true then te σ2 H3 fun y H4 => ∃ acc, H4 D = some (.lst acc) ∧ acc.length < sizeLine ∧ Nx (upd H4 D (.lst (acc ++ [y]))) else Nx H3) :=
  lc_it w (fun i H => LcP H1 D p R i H) (LcP.zero hD mono) (fun i H _ l => hG H l.2.1) (fun i x H H' hi l y => hs i x H H' hi l l.2.1 y) hd
end Pw

/-! what can be shown: bounds on the texts. -/
namespace Pw
open PySem PySem.Spec PyProof.Rows L2
def S1 (v : V) : Prop := ∃ t, Scal v t ∧ t.length ≤ 200
def F1 (G : Hp) (v : V) : Prop := ∃ t, Flat1 G v t ∧ t.length ≤ 3000
def Sh (G : Hp) (v : V) : Prop := ∃ t, Shown G v t
theorem F1.same {H H' : Hp} (s : Same H H') {v : V} (h : F1 H v) : F1 H' v := by
  obtain ⟨t, f, l⟩ := h
  exact ⟨t, f.same s, l⟩
theorem Sh.same {H H' : Hp} (s : Same H H') {v : V} (h : Sh H v) : Sh H' v := by
  obtain ⟨t, f⟩ := h
  exact ⟨t, f.same s⟩
theorem line_ge {n : Nat} (h : n ≤ 1000000) : n ≤ sizeLine := Nat.le_trans h (by decide)
theorem s1_str {x : Str} (h : x.length ≤ 10) (hc : ∀ c ∈ x.cps.toList, c < 1114112) : S1 (.str x) := by
  have l := StrLaws.reprText_len x fun c hc' => Nat.lt_trans (hc c hc') (by decide)
  exact ⟨reprText x, .str (line_ge (by omega)), by omega⟩
theorem int_texts : ∀ k : Fin 32, (toString (((k.1 : Nat) : Int) - 1) : Str).length ≤ 200 := by decide +kernel
theorem int_logs : ∀ k : Fin 32, (((k.1 : Nat) : Int) - 1).natAbs.log2 < 1920 := by decide +kernel
theorem s1_int {i : Int} (h0 : -1 ≤ i) (h1 : i ≤ 30) : S1 (.int i) := by
  have hk : (i + 1).toNat < 32 := by omega
  have e : (((i + 1).toNat : Nat) : Int) - 1 = i := by omega
  have a := int_texts ⟨_, hk⟩
  have b := int_logs ⟨_, hk⟩
  rw [e] at a b
  exact ⟨_, .int b, a⟩
theorem s1_non : S1 .non := ⟨_, .non, by decide +kernel⟩
theorem s1_bl (b : Bool) : S1 (.bl b) := ⟨_, .bl b, by cases b <;> decide +kernel⟩
theorem F1.sc {G : Hp} {v : V} (h : S1 v) : F1 G v := by
  obtain ⟨t, f, l⟩ := h
  exact ⟨t, .sc f, by omega⟩
theorem Sh.sc {G : Hp} {v : V} (h : S1 v) : Sh G v := by
  obtain ⟨t, f, l⟩ := h
  exact ⟨t, .sc f⟩
theorem pick_all {F : V → Str → Prop} {n : Nat} : ∀ {vs : List V}, (∀ v ∈ vs, ∃ t, F v t ∧ t.length ≤ n) → ∃ ts, Paired F vs ts ∧ ts.length = vs.length ∧ (ts.map (·.length)).sum ≤ n * vs.length
  | [], _ => ⟨[], .nil, rfl, by simp⟩
  | v :: vs, h => by
    obtain ⟨t, f, l⟩ := h v List.mem_cons_self
    obtain ⟨ts, p, e, s⟩ := pick_all (vs := vs) fun u hu => h u (List.mem_cons_of_mem _ hu)
    refine ⟨t :: ts, .cons f p, by rw [List.length_cons, List.length_cons, e], ?_⟩
    rw [List.map_cons, List.sum_cons, List.length_cons, Nat.mul_add, Nat.mul_one]
    omega
theorem F1.lst {G : Hp} {a : Addr} {vs : List V} (h : G a = some (.lst vs)) (hs : ∀ v ∈ vs, S1 v) (hl : vs.length ≤ 10) : F1 G (.ref a) := by
  obtain ⟨ts, p, e, s⟩ := pick_all hs
  have l := listText_len_le ts
  have : 200 * vs.length ≤ 200 * 10 := Nat.mul_le_mul_left _ hl
  exact ⟨_, .lst h p, by omega⟩
theorem F1.tup0 {G : Hp} {a : Addr} (h : G a = some (.tup [])) : F1 G (.ref a) := ⟨_, .tup h .nil, by decide +kernel⟩
theorem Sh.lst {G : Hp} {a : Addr} {vs : List V} (h : G a = some (.lst vs)) (hs : ∀ v ∈ vs, F1 G v) (hl : vs.length ≤ 40) : Sh G (.ref a) := by
  obtain ⟨ts, p, e, s⟩ := pick_all hs
  have l := listText_len_le ts
  have : 3000 * vs.length ≤ 3000 * 40 := Nat.mul_le_mul_left _ hl
  exact ⟨_, .lst h p (line_ge (by omega))⟩
theorem piled_le : ∀ {ps : List Str} {n : Nat}, (∀ t ∈ ps, t.length ≤ n) → piled ps ≤ (n + 2) * ps.length
  | [], _, _ => by simp [piled]
  | t :: ps, n, h => by
    have ih := piled_le (ps := ps) (n := n) fun u hu => h u (List.mem_cons_of_mem _ hu)
    have := h t List.mem_cons_self
    rw [piled_cons, List.length_cons, Nat.mul_add, Nat.mul_one]
    omega
theorem dictText_le {ps : List Str} {n : Nat} (h : ∀ t ∈ ps, t.length ≤ n) : (dictText ps).length ≤ (n + 2) * ps.length + 2 := by
  have e : (dictText ps).length = 1 + (Str.join ", " ps).length + 1 := by
    unfold dictText
    rw [strLen_append, strLen_append]; rfl
  have p := piled_le h
  by_cases hp : ps = []
  · subst hp
    rw [e]
    have e0 : (Str.join ", " []).length = 0 := by decide +kernel
    rw [e0, List.length_nil]
    omega
  · have := join_length_add ps hp
    omega
theorem zip_le : ∀ {tk tv : List Str} {a b : Nat}, (∀ t ∈ tk, t.length ≤ a) → (∀ t ∈ tv, t.length ≤ b) → ∀ t ∈ List.zipWith (fun k v : Str => k ++ ": " ++ v) tk tv, t.length ≤ a + 2 + b
  | [], _, _, _, _, _, t, h => by simp at h
  | _ :: _, [], _, _, _, _, t, h => by simp at h
  | k :: tk, v :: tv, a, b, h1, h2, t, h => by
    rw [List.zipWith_cons_cons] at h
    rcases List.mem_cons.mp h with z | z
    · have := h1 k List.mem_cons_self
      have := h2 v List.mem_cons_self
      rw [z, strLen_append, strLen_append]
      have e : ((": " : String) : Str).length = 2 := by decide +kernel
      rw [e]
      omega
    · exact zip_le (fun t ht => h1 t (List.mem_cons_of_mem _ ht)) (fun t ht => h2 t (List.mem_cons_of_mem _ ht)) t z
theorem pick_kv {F : Key × V → Str → Prop} {n : Nat} : ∀ {vs : List (Key × V)}, (∀ v ∈ vs, ∃ t, F v t ∧ t.length ≤ n) → ∃ ts : List Str, Paired F vs ts ∧ ts.length = vs.length ∧ ∀ t ∈ ts, t.length ≤ n
  | [], _ => ⟨[], .nil, rfl, fun t h => absurd h (by simp)⟩
  | v :: vs, h => by
    obtain ⟨t, f, l⟩ := h v List.mem_cons_self
    obtain ⟨ts, p, e, s⟩ := pick_kv (vs := vs) fun u hu => h u (List.mem_cons_of_mem _ hu)
    refine ⟨t :: ts, .cons f p, by rw [List.length_cons, List.length_cons, e], fun u hu => ?_⟩
    rcases List.mem_cons.mp hu with z | z
    · rw [z]; exact l
    · exact s u z
theorem Sh.dct {G : Hp} {a : Addr} {kvs : List (Key × V)} (h : G a = some (.dK kvs)) (hk : ∀ kv ∈ kvs, S1 (kV kv.1)) (hv : ∀ kv ∈ kvs, F1 G kv.2) (hl : kvs.length ≤ 40) : Sh G (.ref a) := by
  obtain ⟨tk, pk, ek, bk⟩ := pick_kv (F := fun kv t => Scal (kV kv.1) t) (n := 200) hk
  obtain ⟨tv, pv, ev, bv⟩ := pick_kv (F := fun kv t => Flat1 G kv.2 t) (n := 3000) hv
  have l := dictText_le (zip_le bk bv)
  have lz : (List.zipWith (fun k v : Str => k ++ ": " ++ v) tk tv).length ≤ 40 := by
    rw [List.length_zipWith]
    omega
  have : (200 + 2 + 3000 + 2) * (List.zipWith (fun k v : Str => k ++ ": " ++ v) tk tv).length ≤ (200 + 2 + 3000 + 2) * 40 := Nat.mul_le_mul_left _ lz
  exact ⟨_, .dct h pk pv (line_ge (by omega))⟩
end Pw

/-! is_row, is_whole, is_name, are_names, is_pair. -/
namespace Pw
open PySem PySem.Spec PyProof.Rows L2
section
variable {X : Cx}
theorem tyes {σ : L2.St} {H : Hp} {F G : Hp → Prop} (h : F H) : tYes σ H fun b H3 => if b = true then F H3 else G H3 := by
  show (if true = true then F H else G H)
  rw [if_pos rfl]
  exact h
/-- a built-in type as a value -/
theorem pe_ty {x : Str} {T : String} {pos : Pos} (hg : Gl X x) (hm : X.mg x = none) (hv : bootBuiltins x = some (.type T)) (hn : x ≠ "__name__" := by decide) (hd : (x == ("__debug__" : Str)) = false := by decide) : PE X (.Name x pos) (tC (.ty T)) :=
  ⟨fun pins s σ H Q I h => ld_blt I hg hm hv ⟨.ty T, H, I, rfl, h⟩ hn hd⟩
end
section
variable {P : Program} {w : World} {K : PySem.W.Frag} {mg : Str → Option Value} {base : Heap}
def spRow : Sp := fun vs H Q _ => ∃ v t, vs = [v] ∧ Ty H v t ∧ ∀ H', Same H H' → Q (.bl (rowT t)) H'
theorem ok_row (T : W0 K mg) : FnOk P w K mg base CX0 1 T.fRow T.dRow pRow spRow := by
  refine T.eRow.fn.ok scRow (fun vs H Q E h => ?_) (fun cdv A outer s H vs Q E hr h => ?_)
  · obtain ⟨v, t, rfl, _⟩ := h
    rfl
  · obtain ⟨v, t, rfl, y, k⟩ := h
    refine ⟨_, pss_one (ps_ret (pe_callB call_isiT rfl T.z_isinstance boot_isinstance (pa_cons (pv 0) (pa_cons (pe_tup (pa_cons (pe_ty rfl T.z_list boot_list) (pa_cons (pe_ty rfl T.z_tuple boot_tuple) pa_nil))) pa_nil)))), ?_⟩
    refine ⟨_, rfl, small1000 (by decide), fun p hp => ?_⟩
    exact ⟨v, p, [.ty "list", .ty "tuple"], .type t, [.type "list", .type "tuple"], _, rfl, upd_same, .cons (.ty _) (.cons (.ty _) .nil), (y.same (same_new hp)).x, kit_row y, k _ (same_new hp)⟩
def spWhole : Sp := fun vs H Q _ => ∃ v t, vs = [v] ∧ Ty H v t ∧ Q (.bl (wholeB v)) H
theorem ok_whole (T : W0 K mg) : FnOk P w K mg base CX0 1 T.fWhole T.dWhole pWhole spWhole := by
  refine T.eWhole.fn.ok scWhole (fun vs H Q E h => ?_) (fun cdv A outer s H vs Q E hr h => ?_)
  · obtain ⟨v, t, rfl, _⟩ := h
    rfl
  · obtain ⟨v, t, rfl, y, k⟩ := h
    refine ⟨_, pss_one (ps_ret (pe_and (pe_callB call_isi rfl T.z_isinstance boot_isinstance (pa_cons (pv 0) (pa_cons (pe_ty rfl T.z_int boot_int) pa_nil)))
      (pe_one (pe_not (pe_callB call_isi rfl T.z_isinstance boot_isinstance (pa_cons (pv 0) (pa_cons (pe_ty rfl T.z_bool boot_bool) pa_nil))))))), ?_⟩
    refine ⟨_, rfl, v, .ty "int", .type t, .type "int", _, rfl, .ty _, y.x, kit_int y, _, rfl, ?_⟩
    cases y with
    | int i => exact iteT ⟨_, rfl, .int i, .ty "bool", .type "int", .type "bool", _, rfl, .ty _, .base (.int i), kit_bool (H := H) (.int i), _, rfl, k⟩
    | bl b => exact iteT ⟨_, rfl, .bl b, .ty "bool", .type "bool", .type "bool", _, rfl, .ty _, .base (.bl b), kit_bool (H := H) (.bl b), _, rfl, k⟩
    | non => exact iteF k
    | str x => exact iteF k
    | lst e => exact iteF k
    | tup e => exact iteF k
    | dK e => exact iteF k
def spName : Sp := fun vs H Q _ => ∃ v t, vs = [v] ∧ Ty H v t ∧ (∀ x, v = .str x → x.length ≤ 100) ∧ ∀ H', Same H H' → Q (.bl (nmB v)) H'
theorem ok_name (T : W0 K mg) : FnOk P w K mg base CX0 1 T.fName T.dName pName spName := by
  refine T.eName.fn.ok scName (fun vs H Q E h => ?_) (fun cdv A outer s H vs Q E hr h => ?_)
  · obtain ⟨v, t, rfl, _⟩ := h
    rfl
  · obtain ⟨v, t, rfl, y, hl, k⟩ := h
    refine ⟨_, pss_cons (ps_if (PW.pt (pw_or (pt_not (pt_val (pe_callB call_isi rfl T.z_isinstance boot_isinstance (pa_cons (pv 0) (pa_cons (pe_ty rfl T.z_str boot_str) pa_nil)))))
        (pw_or1 (pt_not (pt_chain op_le op_le pe_int (pe_callB call_len_str rfl T.z_len boot_len (pa_cons (pv 0) pa_nil)) (pe_glob (v := .int 4) rfl T.gMOST_LETTERS ⟨_, rfl⟩)))))) (pss_one (ps_ret pe_bl)) pss_nil)
      (pss_one (ps_ret (pe_callB (cr_all rfl) rfl T.z_all boot_all (pa_cons (pe_lc (own := [("sign", 1)]) rfl scName.nd (pi_str (pv 0)) (blkOk_by (N := nName) (sc := defScope sName) (by decide +kernel)) (fun _ _ _ _ _ => pg_name (i := 1) scName.nd rfl (Or.inl rfl)) (fun _ _ _ _ _ => pts_nil)
        (fun _ _ _ _ _ => pe_cmpR op_in_sign (pv 1) (pe_glob (v := .str small) rfl T.gSmall ⟨_, rfl⟩) rfl)) pa_nil)))), ?_⟩
    have no : ∀ (nb : nmB v = false), Q (.bl false) H := fun nb => by
      have z := k H (Same.refl H)
      rwa [nb] at z
    refine ⟨v, rfl, v, .ty "str", .type t, .type "str", _, rfl, .ty _, y.x, kit_str y, _, rfl, ?_⟩
    cases y with
    | non => exact iteT (iteT (no rfl))
    | bl b => exact iteT (iteT (no rfl))
    | int i => exact iteT (iteT (no rfl))
    | lst e => exact iteT (iteT (no rfl))
    | tup e => exact iteT (iteT (no rfl))
    | dK e => exact iteT (iteT (no rfl))
    | str x =>
      refine iteF ⟨.str x, rfl, x, rfl, Nat.le_of_lt (small1000 (Nat.le_trans (hl x rfl) (by decide))), _, _, rfl, rfl, _, rfl, ite2 (fun h1 => ?_) (fun h1 => ?_)⟩
      · refine ⟨_, _, rfl, rfl, _, rfl, ite2 (fun h2 => ?_) (fun h2 => ?_)⟩
        · have h3 : ¬ x.length ≤ 4 := by
            intro z
            rw [decide_eq_true (show ((x.length : Nat) : Int) ≤ 4 by omega)] at h2
            exact Bool.noConfusion h2
          refine no ?_
          show isNm x = false
          unfold isNm
          rw [decide_eq_false h3, Bool.and_false, Bool.false_and]
        · have h1' : 1 ≤ x.length := by have := of_decide_eq_true h1; omega
          have h2' : x.length ≤ 4 := by
            have z : decide (((x.length : Nat) : Int) ≤ 4) = true := by
              cases e : decide (((x.length : Nat) : Int) ≤ 4) with
              | true => rfl
              | false => exact absurd (by rw [e]; rfl) h2
            have := of_decide_eq_true z
            omega
          refine ⟨.str x, rfl, x, rfl, fun D hD => lc_fil walk_str (fun _ => true) (fun i y _ => ∃ c, x.cps[i]? = some c ∧ y = .bl (decide (c ∈ small.cps.toList))) (fun _ _ _ _ _ h => h) hD (fun _ _ => trivial) ?_ ?_⟩
          · rintro i y H1 H2 hi l s1 ⟨rfl, c, hc, rfl⟩
            have hi9 : i < 1000 := Nat.lt_of_lt_of_le hi (Nat.le_trans (show x.cps.size ≤ 4 from h2') (by decide))
            exact ⟨rfl, tyes ⟨_, rfl, c, small, rfl, rfl, l.put hi9 (Same.refl _) rfl ⟨c, hc, rfl⟩⟩⟩
          · intro H1 l
            obtain ⟨s1, ys, hy, hn, hr⟩ := l.all
            refine ⟨D, x.cps.toList.map fun c => decide (c ∈ small.cps.toList), rfl, SqL.of ?_, ?_⟩
            · rw [hy, eq_map (f := V.bl) (ys := ys) (zs := x.cps.toList.map fun c => decide (c ∈ small.cps.toList)) (by rw [hn, List.length_map, Array.length_toList]) fun i y e => by
                obtain ⟨c, hc, rfl⟩ := hr i y e
                exact ⟨_, by rw [List.getElem?_map, Array.getElem?_toList, hc]; rfl, rfl⟩]
            · have z := k H1 s1
              have e : nmB (.str x) = (x.cps.toList.map fun c => decide (c ∈ small.cps.toList)).all id := by
                show isNm x = _
                unfold isNm
                rw [decide_eq_true h1', decide_eq_true h2', Bool.true_and, Bool.true_and]
              rwa [e] at z
      · refine ⟨_, rfl, ite2 (fun h2 => ?_) (fun h2 => absurd rfl h2)⟩
        refine no ?_
        show isNm x = false
        unfold isNm
        rw [decide_eq_false (fun z => h1 (decide_eq_true (by omega))), Bool.false_and, Bool.false_and]
def spNames : Sp := fun vs H Q _ => ∃ (l : Addr) (ns : List Str), vs = [.ref l] ∧ H l = some (.lst (ns.map .str)) ∧ 1 ≤ ns.length ∧ ns.length ≤ 9 ∧ (∀ x ∈ ns, isNm x = true) ∧ ∀ (H' : Hp) (b : Bool), (b = true ↔ ns.Nodup) → Same H H' → Q (.bl b) H'
theorem ok_names (T : W0 K mg) : FnOk P w K mg base CX0 2 T.fNames T.dNames pNames spNames := by
  refine T.eNames.fn.ok scNames (fun vs H Q E h => ?_) (fun cdv A outer s H vs Q E hr h => ?_)
  · obtain ⟨l, ns, rfl, _⟩ := h
    rfl
  · obtain ⟨l, ns, rfl, hl, h1, h9, hnm, k⟩ := h
    refine ⟨_, pss_cons (ps_if (PW.pt (pw_or (pt_not (pt_val (pe_call (ok_row T) hr rfl T.eRow.g T.eRow.k T.eRow.b .nil pass0 (pa_cons (pv 0) pa_nil))))
        (pw_or (pt_not (pt_chain op_le op_le pe_int (pe_callB call_len_seq rfl T.z_len boot_len (pa_cons (pv 0) pa_nil)) (pe_glob (v := .int 9) rfl T.gMOST_POINTS ⟨_, rfl⟩)))
        (pw_or1 (pt_not (pt_val (pe_callB (cr_all rfl) rfl T.z_all boot_all (pa_cons (pe_lc (own := [("one", 1)]) rfl scNames.nd (pi_list (pv 0)) (blkOk_by (N := nNames) (sc := defScope sNames) (by decide +kernel)) (fun _ _ _ _ _ => pg_name (i := 1) scNames.nd rfl (Or.inl rfl)) (fun _ _ _ _ _ => pts_nil)
          (fun _ _ _ _ _ => pe_call (ok_name T) hr rfl T.eName.g T.eName.k T.eName.b .nil pass0 (pa_cons (pv 1) pa_nil))) pa_nil)))))))) (pss_one (ps_ret pe_bl)) pss_nil)
      (pss_one (ps_ret (pe_cmpR op_eq (pe_lenSetK rfl T.z_len rfl T.z_set (pv 0) rfl) (pe_callB call_len_seq rfl T.z_len boot_len (pa_cons (pv 0) pa_nil)) (nomark _)))), ?_⟩
    refine ⟨_, rfl, _, _, rfl, .lst hl, fun H1 s1 => ⟨_, rfl, iteF ?_⟩⟩
    have e1 : decide ((1 : Int) ≤ (((ns.map V.str).length : Nat) : Int)) = true := decide_eq_true (by rw [List.length_map]; omega)
    have e2 : decide ((((ns.map V.str).length : Nat) : Int) ≤ 9) = true := decide_eq_true (by rw [List.length_map]; omega)
    refine ⟨_, rfl, l, _, rfl, .inl (SqL.of (s1 _ _ hl)), _, _, rfl, rfl, _, rfl, ?_⟩
    rw [e1]
    refine iteT ⟨_, _, rfl, rfl, _, rfl, ?_⟩
    rw [e2]
    refine iteF ⟨_, rfl, l, rfl, ⟨_, SqL.of (s1 _ _ hl)⟩, fun D hD => lc_fil walk_list (fun _ => true) (fun i y _ => y = .bl true) (fun _ _ _ _ _ h => h) hD (fun H2 s2 => SqL.of (s2 _ _ (s1 _ _ hl))) ?_ ?_⟩
    · rintro i y H2 H3 hi lp s2 ⟨rfl, e⟩
      obtain ⟨x, hx, rfl⟩ := vals_str e
      have nx := hnm x (List.mem_of_getElem? hx)
      have hi9 : i < 1000 := by rw [List.length_map] at hi; omega
      refine ⟨rfl, tyes ⟨_, rfl, _, _, rfl, .str x, fun x' ex => ?_, fun H4 s4 => lp.put hi9 s4 rfl ?_⟩⟩
      · cases ex
        exact Nat.le_trans (isNm_len nx).2 (by decide)
      · show V.bl (isNm x) = _
        rw [nx]
    · intro H2 lp
      obtain ⟨s2, ys, hy, hn, hr2⟩ := lp.all
      have ey : ys = (List.replicate ys.length true).map V.bl := by
        refine eq_map (by simp) fun i y e => ⟨true, ?_, hr2 i y e⟩
        rw [List.getElem?_replicate, if_pos (List.getElem?_eq_some_iff.mp e).1]
      refine ⟨D, List.replicate ys.length true, rfl, SqL.of (by rw [hy, ← ey]), _, rfl, ?_⟩
      have ea : (List.replicate ys.length true).all id = true := by simp
      rw [ea]
      refine iteF ⟨_, rfl, l, ns.map Sum.inr, rfl, .inl ?_, ?_, fun n hn1 hn2 => ⟨_, rfl, l, _, rfl, .inl (SqL.of (s2 _ _ (s1 _ _ hl))), rfl, k _ _ ?_ (s1.trans s2)⟩⟩
      · rw [List.map_map]
        exact SqL.of (s2 _ _ (s1 _ _ hl))
      · rw [List.length_map]
        omega
      · rw [List.length_map] at hn2
        rw [List.length_map, decide_eq_true_eq]
        have e3 : (ns.map (Sum.inr : Str → Key)).Nodup ↔ ns.Nodup := by
          rw [List.nodup_iff_pairwise_ne, List.nodup_iff_pairwise_ne, List.pairwise_map]
          exact ⟨fun h => h.imp fun q z => q (by rw [z]), fun h => h.imp fun q z => q (Sum.inr.inj z)⟩
        rw [← e3, ← hn2]
        exact ⟨fun h => by have := V.int.inj h; omega, fun h => by rw [h]⟩
theorem flat_str (ns : List Str) : (ns.map V.str).all flatV = true := by
  rw [List.all_eq_true]
  intro v hv
  obtain ⟨x, _, rfl⟩ := List.mem_map.mp hv
  rfl
theorem in_str {a : Str} {ns : List Str} : inV (.str a) (ns.map V.str) = true ↔ a ∈ ns := by
  unfold inV
  rw [List.any_eq_true]
  constructor
  · rintro ⟨v, hv, e⟩
    obtain ⟨x, hx, rfl⟩ := List.mem_map.mp hv
    have e' : (x == a) = true := e
    rw [← eq_of_beq e']
    exact hx
  · intro h
    exact ⟨.str a, List.mem_map.mpr ⟨a, h, rfl⟩, by show (a == a) = true; exact beq_self_eq_true a⟩
def spPair : Sp := fun vs H Q _ => ∃ (l T : Addr) (ns : List Str) (a b : Str), vs = [.ref l, .ref T] ∧ H l = some (.lst (ns.map .str)) ∧ H T = some (.tup [.str a, .str b]) ∧ TieOk ns (a, b) ∧ isNm a = true ∧ isNm b = true ∧ ∀ H', Same H H' → Q (.bl true) H'
theorem ok_pair (T : W0 K mg) : FnOk P w K mg base CX0 2 T.fPair T.dPair pPair spPair := by
  refine T.ePair.fn.ok scPair (fun vs H Q E h => ?_) (fun cdv A outer s H vs Q E hr h => ?_)
  · obtain ⟨l, t, ns, a, b, rfl, _⟩ := h
    rfl
  · obtain ⟨l, t, ns, a, b, rfl, hl, ht, ok, na, nb, k⟩ := h
    refine ⟨_, pss_cons (ps_if (PW.pt (pw_or (pt_not (pt_val (pe_call (ok_row T) hr rfl T.eRow.g T.eRow.k T.eRow.b .nil pass0 (pa_cons (pv 1) pa_nil))))
        (pw_or (pt_cmpR op_ne (pe_callB call_len_seq rfl T.z_len boot_len (pa_cons (pv 1) pa_nil)) pe_int (nomark _))
        (pw_or1 (pt_not (pt_val (pe_callB (cr_all rfl) rfl T.z_all boot_all (pa_cons (pe_lc (own := [("one", 2)]) rfl scPair.nd (pi_tup (pv 1)) (blkOk_by (N := nPair) (sc := defScope sPair) (by decide +kernel)) (fun _ _ _ _ _ => pg_name (i := 2) scPair.nd rfl (Or.inl rfl)) (fun _ _ _ _ _ => pts_nil)
          (fun _ _ _ _ _ => pe_call (ok_name T) hr rfl T.eName.g T.eName.k T.eName.b .nil pass0 (pa_cons (pv 2) pa_nil))) pa_nil)))))))) (pss_one (ps_ret pe_bl)) pss_nil)
      (pss_one (ps_ret (pe_and (pe_cmpR op_in_seq (pe_ix ix_seq (pv 1) pe_int (fun _ _ => rfl)) (pv 0) rfl) (pe_and (pe_cmpR op_in_seq (pe_ix ix_seq (pv 1) pe_int (fun _ _ => rfl)) (pv 0) rfl)
        (pe_one (pe_cmpR op_ne (pe_ix ix_seq (pv 1) pe_int (fun _ _ => rfl)) (pe_ix ix_seq (pv 1) pe_int (fun _ _ => rfl)) (nomark _))))))), ?_⟩
    refine ⟨_, rfl, _, _, rfl, .tup ht, fun H1 s1 => ⟨_, rfl, iteF ?_⟩⟩
    refine ⟨_, rfl, t, _, rfl, .inr (SqT.of (s1 _ _ ht)), rfl, _, rfl, iteF ?_⟩
    refine ⟨_, rfl, t, rfl, ⟨_, SqT.of (s1 _ _ ht)⟩, fun D hD => lc_fil walk_tup (fun _ => true) (fun i y _ => y = .bl true) (fun _ _ _ _ _ h => h) hD (fun H2 s2 => SqT.of (s2 _ _ (s1 _ _ ht))) ?_ ?_⟩
    · rintro i y H2 H3 hi lp s2 ⟨rfl, e⟩
      have hi9 : i < 1000 := Nat.lt_of_lt_of_le hi (show 2 ≤ 1000 by decide)
      obtain ⟨x, rfl, nx⟩ : ∃ x, y = .str x ∧ isNm x = true := by
        match i, e with
        | 0, e => exact ⟨a, (Option.some.inj e).symm, na⟩
        | 1, e => exact ⟨b, (Option.some.inj e).symm, nb⟩
        | i + 2, e => simp at e
      refine ⟨rfl, tyes ⟨_, rfl, _, _, rfl, .str x, fun x' ex => ?_, fun H4 s4 => lp.put hi9 s4 rfl ?_⟩⟩
      · cases ex
        exact Nat.le_trans (isNm_len nx).2 (by decide)
      · show V.bl (isNm x) = _
        rw [nx]
    · intro H2 lp
      obtain ⟨s2, ys, hy, hn, hr2⟩ := lp.all
      have ey : ys = (List.replicate ys.length true).map V.bl := by
        refine eq_map (by simp) fun i y e => ⟨true, ?_, hr2 i y e⟩
        rw [List.getElem?_replicate, if_pos (List.getElem?_eq_some_iff.mp e).1]
      refine ⟨D, List.replicate ys.length true, rfl, SqL.of (by rw [hy, ← ey]), _, rfl, ?_⟩
      have ea : (List.replicate ys.length true).all id = true := by simp
      rw [ea]
      have hl2 := s2 _ _ (s1 _ _ hl)
      have ht2 := SqT.of (K := K) (s2 _ _ (s1 _ _ ht))
      refine iteF ⟨_, rfl, .inr (.inl ⟨t, _, 0, .str a, rfl, rfl, ht2, rfl, _, rfl, l, _, rfl, .inl (SqL.of hl2), rfl, flat_str ns, inV (.str a) (ns.map V.str), rfl, ?_⟩)⟩
      rw [in_str.mpr ok.1]
      refine iteT ⟨_, rfl, .inr (.inl ⟨t, _, 1, .str b, rfl, rfl, ht2, rfl, _, rfl, l, _, rfl, .inl (SqL.of hl2), rfl, flat_str ns, inV (.str b) (ns.map V.str), rfl, ?_⟩)⟩
      rw [in_str.mpr ok.2.1]
      refine iteT ⟨_, rfl, .inr (.inl ⟨t, _, 0, .str a, rfl, rfl, ht2, rfl, _, rfl, .inr (.inl ⟨t, _, 1, .str b, rfl, rfl, ht2, rfl, rfl, ?_⟩)⟩)⟩
      have e : decide (V.str a = V.str b) = false := decide_eq_false fun z => ok.2.2 (V.str.inj z)
      rw [e]
      exact k _ (s1.trans s2)
end
end Pw

/-! Web: __init__, points, ties, many. -/
namespace Pw
open PySem PySem.Spec PyProof.Rows L2
def rTupOf (K : PySem.W.Frag) : List V → Hp → VK → Prop := fun xs H Q => ∃ p ys, xs = [V.ref p] ∧ ((SqL K H p ys ∧ ∀ l, H l = none → Q (V.ref l) (upd H l (.tup ys))) ∨ (SqT K H p ys ∧ Q (V.ref p) H))
theorem passN {X : Cx} : Passes (L2N.CX X.prog X.w) X E0 := fun _ _ _ _ _ _ _ h => by
  obtain ⟨_, _, _, _, _, _, _, _, _, _, _, _, z⟩ := h
  exact z.elim
section
variable {P : Program} {w : World} {K : PySem.W.Frag} {mg : Str → Option Value} {base : Heap}
theorem okN {x qual : Str} {st : Stmt} {f : Addr} {fd : FuncData} {N ps : List Str} {k : Nat} {sp : Sp} (F : Fun K x qual st f fd) (S : FnScope N ps (defScope st)) (len : ∀ vs H Q E, sp vs H Q E → vs.length = ps.length)
    (hbody : ∀ (cdv : Value) (A : Around) (outer : List Env) (s : Shared) (H : Hp) (vs : List V) (Q : VK) (E : XK), Room k (A.deeper (envOfC qual (defScope st) s.heap.objs.size f cdv)) → sp vs H Q E →
      L2N.Takes (cxOf (L2N.CX P w) P w K mg base N qual (defScope st) f cdv A outer s H E) (fun cls d _ H => E cls d H) →
      ∃ t, PSs (cxOf (L2N.CX P w) P w K mg base N qual (defScope st) f cdv A outer s H E) (defBody st) t ∧ t { nx := fun _ H' => Q .non H', rt := Q } (L2.start N vs) H) : FnOk P w K mg base (L2N.CX P w) (k + 1) f fd ps sp := by
  obtain ⟨oc, od, kV, doc, pm, an, cdv, ct, osl, rfl, lk, hcd⟩ := F.ex
  exact fn_of lk hcd S len fun A outer s H vs Q E hr hsp => hbody cdv A outer s H vs Q E hr hsp (L2N.takes_of rfl rfl rfl rfl)
theorem ps_rse {X : Cx} {W : WX} {x m : Str} {C : Addr} {j : Nat} {p p2 pos pos2 : Pos} (hc : X.calm = true) (tk : L2N.Takes X W) (e : XC X.K X.mg x C) (hg : Gl X x) (hdb : (x == ("__debug__" : Str)) = false := by decide) :
    PS X (.Raise (some (.Call (.Name x p) [.Constant (.str m) j p2] [] pos)) none pos2) (fun _ σ H => W (.ref C) none σ H) :=
  L2N.ps_raise hc tk (L2N.pmk_own PySem.F.excBase_ValueError e.ex e.g e.k (raises_own e.sb e.ty) hg hdb)
def spGet (C : Addr) (R : Hp → Addr → List Str → List (Str × Str) → VK → Prop) : Sp := fun vs H Q _ => ∃ x ns qs, vs = [.ref x] ∧ WebAt C H x ns qs ∧ R H x ns qs Q
def spPoints (C : Addr) : Sp := spGet C fun H _ ns _ Q => ∀ l, H l = none → Q (.ref l) (upd H l (.lst (ns.map .str)))
def spTies (C : Addr) : Sp := spGet C fun H _ _ qs Q => ∀ l ts, H l = none → Ties H ts qs → Q (.ref l) (upd H l (.lst ts))
def spMany (C : Addr) : Sp := spGet C fun H _ _ qs Q => Q (.int (qs.length : Nat)) H
theorem ok_points (T : W0 K mg) : FnOk P w K mg base CX0 1 T.fPoints T.dPoints pPoints (spPoints T.cWeb) := by
  refine T.ePoints.ok scPoints (fun vs H Q E h => ?_) (fun cdv A outer s H vs Q E hr h => ?_)
  · obtain ⟨x, ns, qs, rfl, _⟩ := h
    rfl
  · obtain ⟨x, ns, qs, rfl, ⟨dx, l, t, ts, hx, hl, ht, tt⟩, k⟩ := h
    refine ⟨_, pss_one (ps_ret (pe_callTy call_list_of rfl T.z_list boot_list (pa_cons (pe_fld (pv 0) rfl) pa_nil))), ?_⟩
    exact ⟨_, rfl, x, T.cWeb, dx, _, _, rfl, hx, T.kWeb, T.aP, wf_points _ _, l, _, rfl, .inl (SqL.of hl), k⟩
theorem ok_ties (T : W0 K mg) : FnOk P w K mg base CX0 1 T.fTies T.dTies pTies (spTies T.cWeb) := by
  refine T.eTies.ok scTies (fun vs H Q E h => ?_) (fun cdv A outer s H vs Q E hr h => ?_)
  · obtain ⟨x, ns, qs, rfl, _⟩ := h
    rfl
  · obtain ⟨x, ns, qs, rfl, ⟨dx, l, t, ts, hx, hl, ht, tt⟩, k⟩ := h
    refine ⟨_, pss_one (ps_ret (pe_callTy call_list_of rfl T.z_list boot_list (pa_cons (pe_fld (pv 0) rfl) pa_nil))), ?_⟩
    exact ⟨_, rfl, x, T.cWeb, dx, _, _, rfl, hx, T.kWeb, T.aT, wf_ties _ _, t, _, rfl, .inl (SqL.of ht), fun l hl => k l ts hl tt⟩
theorem ok_many (T : W0 K mg) : FnOk P w K mg base CX0 1 T.fMany T.dMany pMany (spMany T.cWeb) := by
  refine T.eMany.ok scMany (fun vs H Q E h => ?_) (fun cdv A outer s H vs Q E hr h => ?_)
  · obtain ⟨x, ns, qs, rfl, _⟩ := h
    rfl
  · obtain ⟨x, ns, qs, rfl, ⟨dx, l, t, ts, hx, hl, ht, tt⟩, k⟩ := h
    refine ⟨_, pss_one (ps_ret (pe_callB call_len_seq rfl T.z_len boot_len (pa_cons (pe_fld (pv 0) rfl) pa_nil))), ?_⟩
    refine ⟨_, rfl, x, T.cWeb, dx, _, _, rfl, hx, T.kWeb, T.aT, wf_ties _ _, t, _, rfl, .inl (SqL.of ht), ?_⟩
    rw [paired_len tt]
    exact k
/-- a web that was made behind H0: none of the lists that stood is one of its own -/
def WebNew (C : Addr) (H0 H : Hp) (x : Addr) (ns : List Str) (qs : List (Str × Str)) : Prop := WebAt C H x ns qs ∧ ∀ o xs, H0 o = some (.lst xs) → WebAt C (rem o H) x ns qs
def spInit (C D : Addr) : Sp := fun vs H Q E => ∃ (H0 : Hp) (x dx l t : Addr) (ns : List Str) (qs : List (Str × Str)) (ts : List V), vs = [.ref x, .ref l, .ref t] ∧ Same H0 H ∧ H0 x = none ∧ H x = some (.ins C dx []) ∧ H l = some (.lst (ns.map .str)) ∧ H t = some (.lst ts) ∧ Ties H ts qs ∧
  1 ≤ ns.length ∧ ns.length ≤ 9 ∧ (∀ y ∈ ns, isNm y = true) ∧ qs.length ≤ 20 ∧ (ns.Nodup → ∀ q ∈ qs, TieOk ns q) ∧ (ns.Nodup → ∀ H', Same H0 H' → WebNew C H0 H' x ns qs → Q .non H') ∧ (¬ ns.Nodup → ∀ H', Same H0 H' → E (.ref D) none H')
theorem ok_init (T : W0 K mg) : FnOk P w K mg base (L2N.CX P w) 3 T.fInit T.dInit pInit (spInit T.cWeb T.cNoWeb) := by
  refine okN T.eInit scInit (fun vs H Q E h => ?_) (fun cdv A outer s H vs Q E hr h tk => ?_)
  · obtain ⟨H0, x, dx, l, t, ns, qs, ts, rfl, _⟩ := h
    rfl
  · obtain ⟨H0, x, dx, l, t, ns, qs, ts, rfl, s0, x0, hx, hl, ht, tt, n1, n9, hnm, hq, hok, k1, k2⟩ := h
    have hr1 := hr.mono (show 1 ≤ 2 by decide)
    refine ⟨_, pss_cons (ps_if (pt_not (pt_val (pe_call (ok_names T) hr rfl T.eNames.g T.eNames.k T.eNames.b .nil pass0 (pa_cons (pv 1) pa_nil)))) (pss_one (ps_rse rfl tk T.xNoWeb rfl)) pss_nil)
      (pss_cons (ps_if (PW.pt (pw_or (pt_not (pt_val (pe_call (ok_row T) hr1 rfl T.eRow.g T.eRow.k T.eRow.b .nil pass0 (pa_cons (pv 2) pa_nil))))
        (pw_or (pt_cmpR op_gt (pe_callB call_len_seq rfl T.z_len boot_len (pa_cons (pv 2) pa_nil)) (pe_glob (v := .int 20) rfl T.gMOST_TIES ⟨_, rfl⟩) (nomark _))
        (pw_or1 (pt_not (pt_val (pe_callB (cr_all rfl) rfl T.z_all boot_all (pa_cons (pe_lc (own := [("tie", 3)]) rfl scInit.nd (pi_list (pv 2)) (blkOk_by (N := nInit) (sc := defScope sInit) (by decide +kernel)) (fun _ _ _ _ _ => pg_name (i := 3) scInit.nd rfl (Or.inl rfl)) (fun _ _ _ _ _ => pts_nil)
          (fun _ _ _ _ _ => pe_call (ok_pair T) hr rfl T.ePair.g T.ePair.k T.ePair.b .nil pass0 (pa_cons (pv 1) (pa_cons (pv 3) pa_nil)))) pa_nil)))))))) (pss_one (ps_rse rfl tk T.xNoWeb rfl)) pss_nil)
      (pss_cons (ps_fld (pv 0) (pe_callTy call_list_of rfl T.z_list boot_list (pa_cons (pv 1) pa_nil)) rfl)
      (pss_one (ps_fld (pv 0) (pe_lc (own := [("tie", 3)]) rfl scInit.nd (pi_list (pv 2)) (blkOk_by (N := nInit) (sc := defScope sInit) (by decide +kernel)) (fun _ _ _ _ _ => pg_name (i := 3) scInit.nd rfl (Or.inl rfl)) (fun _ _ _ _ _ => pts_nil)
          (fun _ _ _ _ _ => pe_callTy (r := rTupOf K) call_tuple_of rfl T.z_tuple boot_tuple (pa_cons (pv 3) pa_nil))) rfl)))), ?_⟩
    refine ⟨_, rfl, l, ns, rfl, hl, n1, n9, hnm, fun H1 b hb s1 => ⟨_, rfl, ?_⟩⟩
    by_cases hnd : ns.Nodup
    case neg =>
      have eb : b = false := by
        cases b with
        | false => rfl
        | true => exact absurd (hb.mp rfl) hnd
      subst eb
      exact iteT (k2 hnd H1 (s0.trans s1))
    have eb : b = true := hb.mpr hnd
    subst eb
    refine iteF ?_
    have lt := paired_len tt
    refine ⟨_, rfl, _, _, rfl, .lst (s1 _ _ ht), fun H2 s2 => ⟨_, rfl, iteF ?_⟩⟩
    have s12 := s1.trans s2
    refine ⟨_, rfl, t, _, rfl, .inl (SqL.of (s12 _ _ ht)), _, _, rfl, rfl, _, rfl, ?_⟩
    have e20 : decide ((20 : Int) < ((ts.length : Nat) : Int)) = false := decide_eq_false (by omega)
    rw [e20]
    refine iteF ⟨_, rfl, t, rfl, ⟨_, SqL.of (s12 _ _ ht)⟩, fun D hD => lc_fil walk_list (fun _ => true) (fun i y _ => y = .bl true) (fun _ _ _ _ _ h => h) hD (fun H3 s3 => SqL.of (s3 _ _ (s12 _ _ ht))) ?_ ?_⟩
    · rintro i y H3 H4 hi lp s3 ⟨rfl, e⟩
      obtain ⟨q, hqi, Ti, rfl, hTi⟩ := paired_at tt e
      have ok := hok hnd q (List.mem_of_getElem? hqi)
      have s123 := s12.trans s3
      exact ⟨rfl, tyes ⟨_, rfl, _, rfl, l, Ti, ns, q.1, q.2, rfl, s123 _ _ hl, s123 _ _ hTi, ok, hnm _ ok.1, hnm _ ok.2.1, fun H4 s4 => lp.put (by omega) s4 rfl rfl⟩⟩
    · intro H3 lp
      obtain ⟨s3, ys, hy, hn, hr2⟩ := lp.all
      have ey : ys = (List.replicate ys.length true).map V.bl := by
        refine eq_map (by simp) fun i y e => ⟨true, ?_, hr2 i y e⟩
        rw [List.getElem?_replicate, if_pos (List.getElem?_eq_some_iff.mp e).1]
      refine ⟨D, List.replicate ys.length true, rfl, SqL.of (by rw [hy, ← ey]), _, rfl, ?_⟩
      have ea : (List.replicate ys.length true).all id = true := by simp
      rw [ea]
      have s123 := s12.trans s3
      -- self.own_points = list(points)
      refine iteF ⟨_, rfl, l, _, rfl, .inl (SqL.of (s123 _ _ hl)), fun l2 hl2 => ⟨_, rfl, x, T.cWeb, dx, [], rfl, ?_, T.kWeb, T.aP, (by decide), ?_⟩⟩
      · rw [upd_ne (ne_of_none (s123 _ _ hx) hl2)]
        exact s123 _ _ hx
      · have nx2 : x ≠ l2 := ne_of_none (s123 _ _ hx) hl2
        have nt : t ≠ x := ne_of ht hx (by intro z; cases z)
        have nt2 : t ≠ l2 := ne_of_none (s123 _ _ ht) hl2
        have s4 : Same H0 (upd (upd H3 l2 (.lst (ns.map .str))) x (.ins T.cWeb dx (putF "own_points" (.ref l2) []))) := same_put (same_fresh (s0.trans s123) hl2) x0
        have ht4 : (upd (upd H3 l2 (.lst (ns.map .str))) x (.ins T.cWeb dx (putF "own_points" (.ref l2) []))) t = some (.lst ts) := by
          rw [upd_ne nt, upd_ne nt2]
          exact s123 _ _ ht
        have tt4 : Ties (upd (upd H3 l2 (.lst (ns.map .str))) x (.ins T.cWeb dx (putF "own_points" (.ref l2) []))) ts qs := by
          refine Paired.mapP tt fun v q ⟨T', e, h⟩ => ⟨T', e, ?_⟩
          have h3 := s123 _ _ h
          rw [upd_ne (ne_of h3 (s123 _ _ hx) (by intro z; cases z)), upd_ne (ne_of_none h3 hl2)]
          exact h3
        -- self.own_ties = [tuple(tie) for tie in ties]
        refine ⟨_, rfl, t, rfl, ⟨_, SqL.of ht4⟩, fun D2 hD2 => lc_fil walk_list (fun _ => true) (fun i y _ => ts[i]? = some y) (fun _ _ _ _ _ h => h) hD2 (fun H5 s5 => SqL.of (s5 _ _ ht4)) ?_ ?_⟩
        · rintro i y H5 H6 hi lp5 s5 ⟨rfl, e⟩
          obtain ⟨q, hqi, Ti, rfl, hTi⟩ := paired_at tt4 e
          exact ⟨rfl, tyes ⟨_, rfl, Ti, _, rfl, .inr ⟨SqT.of (s5 _ _ hTi), lp5.put (by omega) (Same.refl _) rfl e⟩⟩⟩
        · intro H5 lp5
          obtain ⟨s5, ys5, hy5, hn5, hr5⟩ := lp5.all
          have e5 : ys5 = ts := by
            refine List.ext_getElem? fun i => ?_
            cases e : ys5[i]? with
            | none =>
              have z := List.getElem?_eq_none_iff.mp e
              rw [hn5] at z
              exact (List.getElem?_eq_none_iff.mpr z).symm
            | some y => exact (hr5 i y e).symm
          subst e5
          have hx5 : H5 x = some (.ins T.cWeb dx (putF "own_points" (.ref l2) [])) := s5 _ _ upd_same
          refine ⟨_, rfl, x, T.cWeb, dx, _, rfl, hx5, T.kWeb, T.aT, (by show 1 < 1000; decide), k1 hnd _ (same_put (s4.trans s5) x0) ?_⟩
          have g1 : (upd H5 x (.ins T.cWeb dx (wf l2 D2))) l2 = some (.lst (ns.map .str)) := by
            rw [upd_ne nx2.symm]
            refine s5 _ _ ?_
            rw [upd_ne nx2.symm, upd_same]
          have g2 : (upd H5 x (.ins T.cWeb dx (wf l2 D2))) D2 = some (.lst ys5) := by
            rw [upd_ne (ne_of hy5 hx5 (by intro z; cases z))]
            exact hy5
          have g3 : Ties (upd H5 x (.ins T.cWeb dx (wf l2 D2))) ys5 qs := by
            refine Paired.mapP tt4 fun v q ⟨T', e, h⟩ => ⟨T', e, ?_⟩
            have h5 := s5 _ _ h
            rw [upd_ne (ne_of h5 hx5 (by intro z; cases z))]
            exact h5
          refine ⟨⟨dx, l2, D2, ys5, upd_same, g1, g2, g3⟩, fun o xs ho => ?_⟩
          have hD0 : H0 D2 = none := s4.free hD2
          have hl0 : H0 l2 = none := (s0.trans s123).free hl2
          have nox : x ≠ o := (ne_of_none ho x0).symm
          have ho5 : (upd H5 x (.ins T.cWeb dx (wf l2 D2))) o = some (.lst xs) := (same_put (s4.trans s5) x0) _ _ ho
          refine ⟨dx, l2, D2, ys5, by rw [rem_ne nox]; exact upd_same, by rw [rem_ne (ne_of_none ho hl0).symm]; exact g1, by rw [rem_ne (ne_of_none ho hD0).symm]; exact g2, Paired.mapP g3 fun v q ⟨T', e, h⟩ => ⟨T', e, by rw [rem_ne (ne_of h ho5 (by intro z; cases z))]; exact h⟩⟩
end
end Pw

/-! the pot: _law_pot, _law_take, _law_mixed, _law_tie. -/
namespace Pw
open PySem PySem.Spec PyProof.Rows L2
section
variable {P : Program} {w : World} {K : PySem.W.Frag} {mg : Str → Option Value} {base : Heap}
def spTake : Sp := fun vs H Q _ => ∃ (p : Addr) (m : Int), vs = [.ref p, .int m] ∧ PotAt p H ∧ 0 < m ∧ m < 1073741824 ∧ ∀ (d : Int) H', 0 ≤ d → d < m → PotAt p H' → Same (rem p H) (rem p H') → Q (.int d) H'
theorem ok_take (T : W0 K mg) : FnOk P w K mg base CX0 1 T.fTake T.dTake pTake spTake := by
  refine T.eTake.fn.ok scTake (fun vs H Q E h => ?_) (fun cdv A outer s H vs Q E hr h => ?_)
  · obtain ⟨p, m, rfl, _⟩ := h
    rfl
  · obtain ⟨p, m, rfl, ⟨i, j, hp, hi, hj, hj2⟩, m0, m1, k⟩ := h
    refine ⟨_, pss_cons (ps_if (pt_cmpR op_gt (pe_ix ix_seq (pv 0) pe_int (fun _ _ => rfl)) pe_int (nomark _))
        (pss_cons (ps_asg (pe_callB call_divmod rfl T.z_divmod boot_divmod (pa_cons (pe_ix ix_seq (pv 0) pe_int (fun _ _ => rfl)) (pa_cons (pv 1) pa_nil))) (pg_tup rfl (pgs_cons (pg_sub (pv 0) pe_int set_list) (pgs_cons (pg_name (i := 2) scTake.nd rfl (Or.inl rfl)) pgs_nil))))
          (pss_one (ps_ret (pv 2)))) pss_nil)
      (pss_cons (ps_asg (pe_op op_mod (pe_op op_add (pe_op op_mul (pe_ix ix_seq (pv 0) pe_int (fun _ _ => rfl)) pe_int) pe_int) pe_int) (pg_sub (pv 0) pe_int set_list))
        (pss_one (ps_ret (pe_op op_mod (pe_op op_fdiv (pe_op op_mod (pe_op op_mul (pe_ix ix_seq (pv 0) pe_int (fun _ _ => rfl)) (pe_ix ix_seq (pv 0) pe_int (fun _ _ => rfl))) pe_int) pe_int) (pv 1))))), ?_⟩
    refine ⟨_, rfl, .inl ⟨p, _, 0, .int i, rfl, rfl, SqL.of hp, rfl, _, _, rfl, rfl, _, rfl, ite2 (fun h0 => ?_) (fun h0 => ?_)⟩⟩
    · refine ⟨_, rfl, .inl ⟨p, _, 0, .int i, rfl, rfl, SqL.of hp, rfl, _, rfl, i, m, rfl, ⟨m0, m1⟩, fun T1 hT1 => ?_⟩⟩
      have np : p ≠ T1 := ne_of_none hp hT1
      refine ⟨T1, _, rfl, SqT.of upd_same, rfl, _, _, rfl, ?_⟩
      refine ⟨_, rfl, p, _, 0, 0, rfl, rfl, (by rw [upd_ne np]; exact hp), rfl, _, _, rfl, rfl, _, rfl, k _ _ (Int.emod_nonneg _ (by omega)) (Int.emod_lt_of_pos _ m0) ?_ ?_⟩
      · exact ⟨i / m, j, upd_same, Int.ediv_nonneg hi (by omega), hj, hj2⟩
      · rw [rem_upd, rem_upd_ne np.symm]
        exact same_new (rem_fresh hT1)
    · refine ⟨_, rfl, .inl ⟨p, _, 1, .int j, rfl, rfl, SqL.of hp, rfl, j, _, rfl, rfl, .inr ⟨by decide, by decide⟩, _, _, rfl, rfl, _, _, rfl, rfl, (by show (0 : Int) < 2147483647; decide), ?_⟩⟩
      have b0 : 0 ≤ (j * 48271 + 12345) % 2147483647 := Int.emod_nonneg _ (by decide)
      have b1 : (j * 48271 + 12345) % 2147483647 < 2147483647 := Int.emod_lt_of_pos _ (by decide)
      refine ⟨_, rfl, p, _, 1, 1, rfl, rfl, hp, rfl, ?_⟩
      have hp' : upd H p (.lst ([V.int i, V.int j].set 1 (V.int ((j * 48271 + 12345) % 2147483647)))) p = some (.lst [.int i, .int ((j * 48271 + 12345) % 2147483647)]) := upd_same
      refine ⟨_, rfl, .inl ⟨p, _, 1, .int ((j * 48271 + 12345) % 2147483647), rfl, rfl, SqL.of hp', rfl, _, rfl, .inl ⟨p, _, 1, .int ((j * 48271 + 12345) % 2147483647), rfl, rfl, SqL.of hp', rfl, ?_⟩⟩⟩
      refine ⟨_, _, rfl, rfl, .inl ⟨by omega, by omega⟩, _, _, rfl, rfl, (by show (0 : Int) < 2147483629; decide), _, _, rfl, rfl, ⟨by decide, by decide⟩, _, rfl, _, _, rfl, rfl, m0, k _ _ (Int.emod_nonneg _ (by omega)) (Int.emod_lt_of_pos _ m0) ?_ ?_⟩
      · exact ⟨i, _, hp', hi, b0, by omega⟩
      · rw [rem_upd]
        exact Same.refl _
def spPot (K : PySem.W.Frag) : Sp := fun vs H Q _ => ∃ (a : Addr) (ns : List Int) (k : Nat), vs = [.ref a, .int (k : Int)] ∧ SqL K H a (ns.map V.int) ∧ ns.length ≤ 63 ∧ k ≤ 100 ∧ ∀ p H', H p = none → Same H H' → PotAt p H' → rem p H' = H → Q (.ref p) H'
theorem ok_pot (T : W0 K mg) : FnOk P w K mg base CX0 1 T.fPot T.dPot pPot (spPot K) := by
  refine T.ePot.fn.ok scPot (fun vs H Q E h => ?_) (fun cdv A outer s H vs Q E hr h => ?_)
  · obtain ⟨p, m, k, rfl, _⟩ := h
    rfl
  · obtain ⟨a, ns, n, rfl, ha, hl, hn, k⟩ := h
    refine ⟨_, pss_cons (ps_set (i := 2) scPot.nd rfl (Or.inl rfl) (pe_ifExp (pt_cmpR op_lt (pv 1) (pe_callB call_len_seq rfl T.z_len boot_len (pa_cons (pv 0) pa_nil)) (nomark _)) (pe_ix ix_seq (pv 0) (pv 1) (fun _ _ => rfl)) pe_int))
      (pss_one (ps_ret (pe_lst (pa_cons (pe_callB (call_max2 rfl) rfl T.z_max boot_max (pa_cons pe_int (pa_cons (pe_op op_sub (pe_callB call_abs rfl T.z_abs boot_abs (pa_cons (pv 2) pa_nil)) (pe_op op_pow pe_int pe_int)) pa_nil)))
        (pa_cons (pe_op op_add (pe_op op_add (pe_op op_mod (pe_callB call_abs rfl T.z_abs boot_abs (pa_cons (pv 2) pa_nil)) pe_int) (pe_op op_mul pe_int (pv 1))) pe_int) pa_nil))))), ?_⟩
    have fin : ∀ c : Int, (tRet (tLst (tCons (tCB (fun xs H Q => ∃ i j, xs = [.int i, .int j] ∧ Q (.int (if j > i then j else i)) H) (tCons (tC (.int 0)) (tCons (tOp (rI0 fun i j => .int (i - j)) (tCB (fun xs H Q => ∃ i, xs = [.int i] ∧ Q (.int (if i < 0 then -i else i)) H) (tCons (tVar 2) tNil)) (tOp (rI CPow fun i j => .int (i ^ j.toNat)) (tC (.int 10)) (tC (.int 18)))) tNil)))
        (tCons (tOp (rI0 fun i j => .int (i + j)) (tOp (rI0 fun i j => .int (i + j)) (tOp (rI (fun _ j => 0 < j) fun i j => .int (i % j)) (tCB (fun xs H Q => ∃ i, xs = [.int i] ∧ Q (.int (if i < 0 then -i else i)) H) (tCons (tVar 2) tNil)) (tC (.int 2147483629))) (tOp (rI CMul fun i j => .int (i * j)) (tC (.int 977)) (tVar 1))) (tC (.int 1))) tNil))))
        { nx := fun _ H' => Q .non H', rt := Q } [some (.ref a), some (.int (n : Int)), some (.int c)] H := fun c => by
      refine ⟨_, rfl, c, rfl, _, _, rfl, rfl, ⟨by decide, by decide, by decide⟩, _, _, rfl, rfl, _, _, rfl, ?_⟩
      refine ⟨_, rfl, c, rfl, _, _, rfl, rfl, (show (0 : Int) < 2147483629 by decide), _, rfl, _, _, rfl, rfl, .inl ⟨by decide, by decide⟩, _, _, rfl, rfl, _, _, rfl, rfl, Nat.le_of_lt (small1000 (show 2 ≤ 1000 by decide)), fun p hp => ?_⟩
      have hz : 0 ≤ (if c < 0 then -c else c) := by split <;> omega
      generalize (if c < 0 then -c else c) = z at hz
      have b0 : 0 ≤ z % 2147483629 := Int.emod_nonneg _ (by decide)
      have b1 : z % 2147483629 < 2147483629 := Int.emod_lt_of_pos _ (by decide)
      refine k p _ hp (same_new hp) ⟨_, _, upd_same, ?_, ?_, ?_⟩ (by rw [rem_upd, rem_none hp])
      · split <;> omega
      · omega
      · omega
    refine ⟨_, rfl, _, rfl, a, _, rfl, .inl ha, _, _, rfl, rfl, _, rfl, ite2 (fun h0 => ?_) (fun h0 => ?_)⟩
    · have hlt : n < ns.length := by
        have := of_decide_eq_true h0
        rw [List.length_map] at this
        omega
      exact ⟨_, rfl, _, rfl, .inl ⟨a, _, (n : Int), .int ns[n], rfl, rfl, ha, atI_nat (by rw [List.getElem?_map, List.getElem?_eq_getElem hlt]; rfl), fin _⟩⟩
    · exact fin 0
def spMixed : Sp := fun vs H Q _ => ∃ (p a : Addr) (xs : List V), vs = [.ref p, .ref a] ∧ PotAt p H ∧ rem p H a = some (.lst xs) ∧ xs.length ≤ 500 ∧ ∀ l ys H', H l = none → PotAt p H' → Same (rem p H) (rem p H') → rem p H' l = some (.lst ys) → ys.Perm xs → Q (.ref l) H'
theorem perm_ins {α : Type} (ys : List α) (k : Nat) (y : α) : (ys.take k ++ [y] ++ ys.drop k).Perm (ys ++ [y]) := by
  have h : (ys.take k ++ [y] ++ ys.drop k).Perm ((ys.take k ++ ys.drop k) ++ [y]) := by
    rw [List.append_assoc, List.append_assoc]
    exact List.Perm.append_left _ List.perm_append_comm
  rwa [List.take_append_drop] at h
theorem ok_mixed (T : W0 K mg) : FnOk P w K mg base CX0 2 T.fMixed T.dMixed pMixed spMixed := by
  refine T.eMixed.fn.ok scMixed (fun vs H Q E h => ?_) (fun cdv A outer s H vs Q E hr h => ?_)
  · obtain ⟨p, a, xs, rfl, _⟩ := h
    rfl
  · obtain ⟨p, a, xs, rfl, hp, ha, hl, k⟩ := h
    refine ⟨_, pss_cons (ps_set (i := 2) scMixed.nd rfl (Or.inl rfl) (pe_lst pa_nil)) (pss_cons (ps_for PassesOwn.never rfl (pi_list (pv 1)) (pg_name (i := 3) scMixed.nd rfl (Or.inl rfl))
        (pss_one (ps_expr (pe_bm PySem.F.plainAttrs_list PySem.F.slot_list_insert PySem.F.type_list_insert mt_insert (pv 2) (pa_cons (pe_call (ok_take T) hr rfl T.eTake.g T.eTake.k T.eTake.b .nil pass0
          (pa_cons (pv 0) (pa_cons (pe_op op_add (pe_callB call_len_seq rfl T.z_len boot_len (pa_cons (pv 2) pa_nil)) pe_int) pa_nil))) (pa_cons (pv 3) pa_nil))))))
      (pss_one (ps_ret (pv 2)))), ?_⟩
    refine ⟨Nat.zero_le _, fun l hl0 => ?_⟩
    have nlp : l ≠ p := hp.ne hl0
    have l0 : rem p H l = none := rem_fresh hl0
    obtain ⟨nap, ha'⟩ := of_rem ha
    refine ⟨_, rfl, a, rfl, ⟨_, SqL.of (by rw [upd_ne (ne_of_none ha' hl0)]; exact ha')⟩, for_list (K := K) (a := a) (xs := xs) (fun i σ H' => ∃ (v : Option V) (ys : List V), σ = [some (.ref p), some (.ref a), some (.ref l), v] ∧ PotAt p H' ∧ Same (rem p H) (rem p H') ∧ rem p H' l = some (.lst ys) ∧ ys.Perm (xs.take i) ∧ i ≤ xs.length)
      ⟨none, [], rfl, hp.new hl0, ?_, ?_, by simp, Nat.zero_le _⟩ (fun i σ H' _ ⟨_, _, _, _, s1, _⟩ => SqL.of (of_rem (s1 _ _ ha)).2) ?_ ?_⟩
    · rw [rem_upd_ne nlp]
      exact same_new l0
    · rw [rem_ne nlp, upd_same]
    · rintro i y σ H' hi ⟨v, ys, rfl, hp', s1, hy, pm, hle⟩
      have hlt : i < xs.length := (List.getElem?_eq_some_iff.mp hi).1
      have hyl : ys.length = i := by
        rw [pm.length_eq, List.length_take]
        omega
      have hyH := (of_rem hy).2
      refine ⟨_, rfl, .inl ⟨rfl, _, SqL.of hyH⟩, _, rfl, _, rfl, l, _, rfl, .inl (SqL.of hyH), _, _, rfl, rfl, p, _, rfl, hp', by omega, by omega, fun d H2 d0 d1 hp2 s2 => ?_⟩
      have hy2 := s2 _ _ hy
      refine ⟨_, rfl, l, ys, d, y, rfl, rfl, (of_rem hy2).2, small1000 (by omega), d0, by omega, ?_⟩
      have hrem : rem p (upd H2 l (.lst (ys.take d.toNat ++ [y] ++ ys.drop d.toNat))) = upd (rem p H2) l (.lst (ys.take d.toNat ++ [y] ++ ys.drop d.toNat)) := rem_upd_ne nlp
      refine ⟨_, ys.take d.toNat ++ [y] ++ ys.drop d.toNat, rfl, hp2.put nlp, ?_, ?_, ?_, hlt⟩
      · rw [hrem]
        exact same_put (s1.trans s2) l0
      · rw [hrem, upd_same]
      · refine (perm_ins ys d.toNat y).trans ?_
        rw [List.take_add_one, hi]
        exact List.Perm.append_right _ pm
    · rintro σ H' ⟨v, ys, rfl, hp', s1, hy, pm, hle⟩
      rw [List.take_length] at pm
      exact ⟨_, rfl, k l ys H' hl0 hp' s1 hy pm⟩
def spTie : Sp := fun vs H Q _ => ∃ (p l : Addr) (ns : List Str), vs = [.ref p, .ref l] ∧ PotAt p H ∧ rem p H l = some (.lst (ns.map .str)) ∧ 2 ≤ ns.length ∧ ns.length ≤ 9 ∧ ns.Nodup ∧ ∀ v q H', PotAt p H' → Same (rem p H) (rem p H') → TieV (rem p H') v q → TieOk ns q → Q v H'
theorem two_ix {n a c : Int} (a0 : 0 ≤ a) (a1 : a < n) (c0 : 0 ≤ c) (c1 : c < n - 1) : 0 ≤ (a + 1 + c) % n ∧ (a + 1 + c) % n < n ∧ (a + 1 + c) % n ≠ a := by
  refine ⟨Int.emod_nonneg _ (by omega), Int.emod_lt_of_pos _ (by omega), ?_⟩
  by_cases h : a + 1 + c < n
  · rw [Int.emod_eq_of_lt (by omega) h]
    omega
  · rw [show a + 1 + c = (a + 1 + c - n) + n * 1 by omega, Int.add_mul_emod_self_left, Int.emod_eq_of_lt (by omega) (by omega)]
    omega
theorem ok_tie (T : W0 K mg) : FnOk P w K mg base CX0 2 T.fTie T.dTie pTie spTie := by
  refine T.eTie.fn.ok scTie (fun vs H Q E h => ?_) (fun cdv A outer s H vs Q E hr h => ?_)
  · obtain ⟨p, a, xs, rfl, _⟩ := h
    rfl
  · obtain ⟨p, l, ns, rfl, hp, hl, n2, n9, hnd, k⟩ := h
    refine ⟨_, pss_cons (ps_set (i := 2) scTie.nd rfl (Or.inl rfl) (pe_call (ok_take T) hr rfl T.eTake.g T.eTake.k T.eTake.b .nil pass0 (pa_cons (pv 0) (pa_cons (pe_callB call_len_seq rfl T.z_len boot_len (pa_cons (pv 1) pa_nil)) pa_nil))))
      (pss_cons (ps_set (i := 3) scTie.nd rfl (Or.inl rfl) (pe_op op_mod (pe_op op_add (pe_op op_add (pv 2) pe_int) (pe_call (ok_take T) hr rfl T.eTake.g T.eTake.k T.eTake.b .nil pass0 (pa_cons (pv 0) (pa_cons (pe_op op_sub (pe_callB call_len_seq rfl T.z_len boot_len (pa_cons (pv 1) pa_nil)) pe_int) pa_nil))))
        (pe_callB call_len_seq rfl T.z_len boot_len (pa_cons (pv 1) pa_nil))))
      (pss_one (ps_ret (pe_tup (pa_cons (pe_ix ix_seq (pv 1) (pv 2) (fun _ _ => rfl)) (pa_cons (pe_ix ix_seq (pv 1) (pv 3) (fun _ _ => rfl)) pa_nil)))))), ?_⟩
    have lm : (ns.map V.str).length = ns.length := List.length_map ..
    have hlH := (of_rem hl).2
    refine ⟨_, rfl, _, rfl, l, _, rfl, .inl (SqL.of hlH), p, _, rfl, hp, by rw [lm]; omega, by rw [lm]; omega, fun a H1 a0 a1 hp1 s1 => ?_⟩
    have hl1 := s1 _ _ hl
    have hlH1 := (of_rem hl1).2
    refine ⟨_, rfl, _, _, rfl, rfl, _, rfl, _, rfl, l, _, rfl, .inl (SqL.of hlH1), _, _, rfl, rfl, p, _, rfl, hp1, by rw [lm]; omega, by rw [lm]; omega, fun c H2 c0 c1 hp2 s2 => ?_⟩
    have hl2 := s2 _ _ hl1
    have hlH2 := (of_rem hl2).2
    rw [lm] at a1 c1
    obtain ⟨b0, b1, ne⟩ := two_ix a0 a1 c0 c1
    refine ⟨_, _, rfl, rfl, _, rfl, l, _, rfl, .inl (SqL.of hlH2), _, _, rfl, rfl, by rw [lm]; omega, ?_⟩
    have el : (((ns.map V.str).length : Nat) : Int) = (ns.length : Int) := by rw [lm]
    have e2 : ∀ (z : Int), 0 ≤ z → z < (ns.length : Int) → ∃ x, ns[z.toNat]? = some x ∧ atI (ns.map V.str) z = some (.str x) := fun z z0 z1 => by
      have hz : z.toNat < ns.length := by omega
      refine ⟨ns[z.toNat], List.getElem?_eq_getElem hz, at_of (j := z.toNat) (by omega) ?_⟩
      rw [List.getElem?_map, List.getElem?_eq_getElem hz]
      rfl
    obtain ⟨xa, ha, ha2⟩ := e2 a a0 a1
    obtain ⟨xb, hb, hb2⟩ := e2 _ b0 b1
    refine ⟨_, rfl, _, rfl, .inl ⟨l, _, a, .str xa, rfl, rfl, SqL.of hlH2, ha2, _, rfl, _, rfl, .inl ⟨l, _, _, .str xb, rfl, rfl, SqL.of hlH2, by rw [el]; exact hb2, Nat.le_of_lt (small1000 (show 2 ≤ 1000 by decide)), fun t ht => ?_⟩⟩⟩
    have ntp := hp2.ne ht
    refine k _ (xa, xb) _ (hp2.new ht) ?_ ⟨t, rfl, ?_⟩ ⟨List.mem_of_getElem? ha, List.mem_of_getElem? hb, fun e => ?_⟩
    · rw [rem_upd_ne ntp]
      exact (s1.trans s2).trans (same_new (rem_fresh ht))
    · rw [rem_ne ntp, upd_same]
    · have e' : xa = xb := e
      subst e'
      have := nd_ix hnd ha hb
      omega
end
end Pw

/-! _law_names: fresh names, no two alike. -/
namespace Pw
open PySem PySem.Spec PyProof.Rows L2
/-! ### the plain part -/
def ch (n : Nat) : Str := ⟨#[97 + n]⟩
def W12 (p q : Str) : List Str := [p, p ++ p, p ++ q, p ++ p ++ q, q, q ++ p, p ++ p ++ p, p ++ q ++ p, q ++ q, p ++ p ++ p ++ q, p ++ q ++ q, q ++ p ++ p]
theorem small_at : ∀ n : Fin 26, small.cps.toList[n.1]? = some (97 + n.1) := by decide +kernel
theorem w12 : ∀ b : Fin 26, (W12 (ch b.1) (ch ((b.1 + 1) % 26))).Nodup ∧ ∀ x ∈ W12 (ch b.1) (ch ((b.1 + 1) % 26)), isNm x = true := by decide +kernel
theorem firsts : ∀ b : Fin 26, ((List.range 9).map fun k => (b.1 + 5 * k) % 26).Nodup := by decide +kernel
theorem small_len : small.cps.toList.length = 26 := by decide +kernel
theorem small_size : small.length = 26 := by decide +kernel
theorem small_c (n : Nat) (h : n < 26) : atI small.cps.toList (n : Int) = some (97 + n) := atI_nat (small_at ⟨n, h⟩)
theorem mem_small {n : Nat} (h : n < 26) : 97 + n ∈ small.cps.toList := List.mem_of_getElem? (small_at ⟨n, h⟩)
theorem ch_len (n : Nat) : (ch n).length = 1 := rfl
theorem sz1000 {n : Nat} (h : n ≤ 1000) : n ≤ sizeLine := Nat.le_of_lt (small1000 h)
theorem cps_app (x y : Str) : (x ++ y).cps.toList = x.cps.toList ++ y.cps.toList := by
  show (x.cps ++ y.cps).toList = _
  simp
/-- a word that begins with f, at most j letters behind it -/
def FW (f j : Nat) (x : Str) : Prop := ∃ r, x.cps.toList = f :: r ∧ r.length ≤ j ∧ ∀ c ∈ f :: r, c ∈ small.cps.toList
theorem FW.one {n : Nat} (h : n < 26) : FW (97 + n) 0 (ch n) := ⟨[], rfl, Nat.le_refl _, fun c hc => by rw [List.mem_singleton.mp hc]; exact mem_small h⟩
theorem FW.more {f j c : Nat} {x : Str} (h : FW f j x) (hc : c < 26) : FW f (j + 1) (x ++ ch c) := by
  obtain ⟨r, e, l, a⟩ := h
  refine ⟨r ++ [97 + c], by rw [cps_app, e]; rfl, by rw [List.length_append, List.length_singleton]; omega, fun d hd => ?_⟩
  rcases List.mem_cons.mp hd with z | z
  · exact a d (by rw [z]; exact List.mem_cons_self)
  · rcases List.mem_append.mp z with z | z
    · exact a d (List.mem_cons_of_mem _ z)
    · rw [List.mem_singleton.mp z]
      exact mem_small hc
theorem FW.len {f j : Nat} {x : Str} (h : FW f j x) : 1 ≤ x.length ∧ x.length ≤ j + 1 := by
  obtain ⟨r, e, l, a⟩ := h
  have z : x.cps.toList.length = r.length + 1 := by rw [e]; rfl
  rw [Array.length_toList] at z
  show 1 ≤ x.cps.size ∧ x.cps.size ≤ j + 1
  omega
theorem FW.nm {f j : Nat} {x : Str} (h : FW f j x) (hj : j ≤ 3) : isNm x = true := by
  obtain ⟨l1, l2⟩ := h.len
  obtain ⟨r, e, l, a⟩ := h
  unfold isNm
  rw [decide_eq_true l1, decide_eq_true (show x.length ≤ 4 by omega), e, Bool.true_and, Bool.true_and, List.all_eq_true]
  intro b hb
  obtain ⟨c, hc, rfl⟩ := List.mem_map.mp hb
  exact decide_eq_true (a c hc)
/-- words with unlike first letters -/
theorem firsts_nd {b : Nat} (hb : b < 26) : ∀ {ns : List Str}, ns.length ≤ 9 → (∀ (k : Nat) x, ns[k]? = some x → FW (97 + (b + 5 * k) % 26) 3 x) → ns.Nodup := by
  intro ns hl h
  rw [List.nodup_iff_pairwise_ne, List.pairwise_iff_getElem]
  intro i j hi hj hij e
  have h1 := h i _ (List.getElem?_eq_getElem hi)
  have h2 := h j _ (List.getElem?_eq_getElem hj)
  rw [← e] at h2
  obtain ⟨r1, e1, _⟩ := h1
  obtain ⟨r2, e2, _⟩ := h2
  rw [e1] at e2
  have ef : (b + 5 * i) % 26 = (b + 5 * j) % 26 := by
    have := (List.cons.inj e2).1
    omega
  have nd := firsts ⟨b, hb⟩
  have q1 : ((List.range 9).map fun k => (b + 5 * k) % 26)[i]? = some ((b + 5 * i) % 26) := by
    rw [List.getElem?_map, List.getElem?_range (by omega)]; rfl
  have q2 : ((List.range 9).map fun k => (b + 5 * k) % 26)[j]? = some ((b + 5 * i) % 26) := by
    rw [List.getElem?_map, List.getElem?_range (by omega), ef]; rfl
  have := nd_ix nd q1 q2
  omega
theorem perm_erase {α : Type} : ∀ {l : List α} {k : Nat} {y : α}, l[k]? = some y → (y :: l.eraseIdx k).Perm l
  | [], k, y, h => by simp at h
  | a :: l, 0, y, h => by
    simp at h
    subst h
    exact List.Perm.refl _
  | a :: l, k + 1, y, h => by
    have ih := perm_erase (l := l) (k := k) (y := y) (by simpa using h)
    rw [List.eraseIdx_cons_succ]
    exact (List.Perm.swap a y _).trans (List.Perm.cons a ih)
theorem perm_pop {α : Type} {got rest W : List α} {k : Nat} {y : α} (h : (got ++ rest).Perm W) (hk : rest[k]? = some y) : ((got ++ [y]) ++ rest.eraseIdx k).Perm W := by
  refine List.Perm.trans ?_ h
  rw [List.append_assoc]
  exact List.Perm.append_left _ (perm_erase hk)
theorem map_eraseIdx {α β : Type} (f : α → β) : ∀ (l : List α) (k : Nat), (l.map f).eraseIdx k = (l.eraseIdx k).map f
  | [], k => by simp
  | a :: l, 0 => by simp
  | a :: l, k + 1 => by simp [map_eraseIdx f l k]
theorem seq_nat {n k : Nat} (h : k < n) : seqIndex? (k : Int) n = some k := (ixN_seq (i := (k : Int)) (by
  unfold ixN
  rw [if_pos (by omega), if_pos (by omega)]; simp)).1
section
variable {P : Program} {w : World} {K : PySem.W.Frag} {mg : Str → Option Value} {base : Heap}
def rLen (K : PySem.W.Frag) : List V → Hp → VK → Prop := fun xs H Q => ∃ p ys, xs = [V.ref p] ∧ (SqL K H p ys ∨ SqT K H p ys) ∧ Q (V.int ys.length) H
def spLNames : Sp := fun vs H Q _ => ∃ (p : Addr) (n : Nat), vs = [.ref p, .int (n : Int)] ∧ PotAt p H ∧ 1 ≤ n ∧ n ≤ 9 ∧ ∀ (l : Addr) (ns : List Str) (H' : Hp), H l = none → PotAt p H' → Same (rem p H) (rem p H') → rem p H' l = some (.lst (ns.map .str)) → ns.length = n → ns.Nodup → (∀ x ∈ ns, isNm x = true) → Q (.ref l) H'
theorem ok_lnames (T : W0 K mg) : FnOk P w K mg base CX0 2 T.fLNames T.dLNames pLNames spLNames := by
  refine T.eLNames.fn.ok scLNames (fun vs H Q E h => ?_) (fun cdv A outer s H vs Q E hr h => ?_)
  · obtain ⟨p, a, rfl, _⟩ := h
    rfl
  · obtain ⟨p, n, rfl, hp, n1, n9, k⟩ := h
    refine ⟨_, pss_cons (ps_set (i := 2) scLNames.nd rfl (Or.inl rfl) pe_str)
      (pss_cons (ps_set (i := 3) scLNames.nd rfl (Or.inl rfl) (pe_call (ok_take T) hr rfl T.eTake.g T.eTake.k T.eTake.b .nil pass0 (pa_cons (pv 0) (pa_cons pe_int pa_nil))))
      (pss_cons (ps_if (pt_cmpR op_eq (pe_call (ok_take T) hr rfl T.eTake.g T.eTake.k T.eTake.b .nil pass0 (pa_cons (pv 0) (pa_cons pe_int pa_nil))) pe_int (nomark _))
        (pss_cons (ps_par (i := 4) (j := 5) rfl scLNames.nd rfl rfl (by decide) rfl rfl (pa_cons (pe_ix ix_str (pv 2) (pv 3) (fun _ _ => rfl)) (pa_cons (pe_ix ix_str (pv 2) (pe_op op_mod (pe_op op_add (pv 3) pe_int) pe_int) (fun _ _ => rfl)) pa_nil)) (by rfl))
        (pss_cons (ps_set (i := 6) scLNames.nd rfl (Or.inr rfl) (pe_lst (pa_cons (pv 4) (pa_cons (pe_op op_add_str (pv 4) (pv 4)) (pa_cons (pe_op op_add_str (pv 4) (pv 5)) (pa_cons (pe_op op_add_str (pe_op op_add_str (pv 4) (pv 4)) (pv 5))
          (pa_cons (pv 5) (pa_cons (pe_op op_add_str (pv 5) (pv 4)) (pa_cons (pe_op op_add_str (pe_op op_add_str (pv 4) (pv 4)) (pv 4)) (pa_cons (pe_op op_add_str (pe_op op_add_str (pv 4) (pv 5)) (pv 4))
          (pa_cons (pe_op op_add_str (pv 5) (pv 5)) (pa_cons (pe_op op_add_str (pe_op op_add_str (pe_op op_add_str (pv 4) (pv 4)) (pv 4)) (pv 5)) (pa_cons (pe_op op_add_str (pe_op op_add_str (pv 4) (pv 5)) (pv 5)) (pa_cons (pe_op op_add_str (pe_op op_add_str (pv 5) (pv 4)) (pv 4)) pa_nil))))))))))))))
        (pss_one (ps_ret (pe_lc (te := tBM K "list" rPopAt (tVar 6) (tCons (tCall spTake [] E0 (tCons (tVar 0) (tCons (tCB (rLen K) (tCons (tVar 6) tNil)) tNil))) tNil)) (own := [("_law_k", 7)]) rfl scLNames.nd (pi_range1 rfl T.z_range (pa_cons (pv 1) pa_nil)) (blkOk_by (N := nLNames) (sc := defScope sLNames) (by decide +kernel)) (fun _ _ _ _ _ => pg_name (i := 7) scLNames.nd rfl (Or.inl rfl)) (fun _ _ _ _ _ => pts_nil)
          (fun _ _ _ _ _ => pe_bm PySem.F.plainAttrs_list PySem.F.slot_list_pop PySem.F.type_list_pop mt_popAt (pv 6) (pa_cons (pe_call (ok_take T) hr rfl T.eTake.g T.eTake.k T.eTake.b .nil pass0 (pa_cons (pv 0) (pa_cons (pe_callB call_len_seq rfl T.z_len boot_len (pa_cons (pv 6) pa_nil)) pa_nil))) pa_nil)))))))
        pss_nil)
      (pss_cons (ps_set (i := 8) scLNames.nd rfl (Or.inl rfl) (pe_lst pa_nil))
      (pss_cons (ps_for PassesOwn.never rfl (pi_range1 rfl T.z_range (pa_cons (pv 1) pa_nil)) (pg_name (i := 7) scLNames.nd rfl (Or.inl rfl))
        (pss_cons (ps_set (i := 9) scLNames.nd rfl (Or.inl rfl) (pe_ix ix_str (pv 2) (pe_op op_mod (pe_op op_add (pv 3) (pe_op op_mul pe_int (pv 7))) pe_int) (fun _ _ => rfl)))
        (pss_cons (ps_for PassesOwn.never rfl (pi_range1 rfl T.z_range (pa_cons (pe_call (ok_take T) hr rfl T.eTake.g T.eTake.k T.eTake.b .nil pass0 (pa_cons (pv 0) (pa_cons pe_int pa_nil))) pa_nil)) (pg_name (i := 10) scLNames.nd rfl (Or.inl rfl))
          (pss_one (ps_set (i := 9) scLNames.nd rfl (Or.inl rfl) (pe_op op_add_str (pv 9) (pe_ix ix_str (pv 2) (pe_call (ok_take T) hr rfl T.eTake.g T.eTake.k T.eTake.b .nil pass0 (pa_cons (pv 0) (pa_cons pe_int pa_nil))) (fun _ _ => rfl))))))
        (pss_one (ps_expr (pe_bm PySem.F.plainAttrs_list PySem.F.slot_list_append PySem.F.type_list_append mt_append (pv 8) (pa_cons (pv 9) pa_nil)))))))
      (pss_one (ps_ret (pv 8))))))), ?_⟩
    have ssz : small.length ≤ sizeLine := sz1000 (by rw [small_size]; decide)
    refine ⟨_, rfl, p, _, rfl, hp, by decide, by decide, fun b H1 b0 b1 hp1 s1 => ?_⟩
    obtain ⟨bn, rfl⟩ : ∃ bn : Nat, b = (bn : Int) := ⟨b.toNat, by omega⟩
    have hb : bn < 26 := by omega
    refine ⟨_, rfl, p, _, rfl, hp1, by decide, by decide, fun d H2 d0 d1 hp2 s2 => ⟨rfl, _, rfl, ite2 (fun _ => ?_) (fun _ => ?_)⟩⟩
    · -- some of twelve words
      have hq : (bn + 1) % 26 < 26 := Nat.mod_lt _ (by decide)
      have eq : ((bn : Int) + 1) % 26 = (((bn + 1) % 26 : Nat) : Int) := by omega
      refine ⟨_, rfl, _, rfl, small, _, _, rfl, rfl, ssz, small_c bn hb, ?_⟩
      refine ⟨_, rfl, _, rfl, _, _, rfl, rfl, _, _, rfl, rfl, (by show (0 : Int) < 26; decide), small, _, 97 + (bn + 1) % 26, rfl, rfl, ssz, by rw [eq]; exact small_c _ hq, ?_⟩
      refine ⟨.str (ch bn), .str (ch ((bn + 1) % 26)), rfl, ?_⟩
      refine ⟨_, rfl, ?_⟩
      refine ⟨_, rfl, _, rfl, _, _, rfl, rfl, (sz1000 (by simp only [strLen_append, ch_len]; decide)), ?_⟩
      refine ⟨_, rfl, _, rfl, _, _, rfl, rfl, (sz1000 (by simp only [strLen_append, ch_len]; decide)), ?_⟩
      refine ⟨_, rfl, _, rfl, _, _, rfl, rfl, (sz1000 (by simp only [strLen_append, ch_len]; decide)), _, rfl, _, _, rfl, rfl, (sz1000 (by simp only [strLen_append, ch_len]; decide)), ?_⟩
      refine ⟨_, rfl, ?_⟩
      refine ⟨_, rfl, _, rfl, _, _, rfl, rfl, (sz1000 (by simp only [strLen_append, ch_len]; decide)), ?_⟩
      refine ⟨_, rfl, _, rfl, _, _, rfl, rfl, (sz1000 (by simp only [strLen_append, ch_len]; decide)), _, rfl, _, _, rfl, rfl, (sz1000 (by simp only [strLen_append, ch_len]; decide)), ?_⟩
      refine ⟨_, rfl, _, rfl, _, _, rfl, rfl, (sz1000 (by simp only [strLen_append, ch_len]; decide)), _, rfl, _, _, rfl, rfl, (sz1000 (by simp only [strLen_append, ch_len]; decide)), ?_⟩
      refine ⟨_, rfl, _, rfl, _, _, rfl, rfl, (sz1000 (by simp only [strLen_append, ch_len]; decide)), ?_⟩
      refine ⟨_, rfl, _, rfl, _, _, rfl, rfl, (sz1000 (by simp only [strLen_append, ch_len]; decide)), _, rfl, _, _, rfl, rfl, (sz1000 (by simp only [strLen_append, ch_len]; decide)), _, rfl, _, _, rfl, rfl, (sz1000 (by simp only [strLen_append, ch_len]; decide)), ?_⟩
      refine ⟨_, rfl, _, rfl, _, _, rfl, rfl, (sz1000 (by simp only [strLen_append, ch_len]; decide)), _, rfl, _, _, rfl, rfl, (sz1000 (by simp only [strLen_append, ch_len]; decide)), ?_⟩
      refine ⟨_, rfl, _, rfl, _, _, rfl, rfl, (sz1000 (by simp only [strLen_append, ch_len]; decide)), _, rfl, _, _, rfl, rfl, (sz1000 (by simp only [strLen_append, ch_len]; decide)), ?_⟩
      obtain ⟨nd, nm⟩ := w12 ⟨bn, hb⟩
      refine ⟨sz1000 (show 12 ≤ 1000 by decide), fun sm hsm => ?_⟩
      have nsp : sm ≠ p := hp2.ne hsm
      have hs0 : rem p H sm = none := (s1.trans s2).free (rem_fresh hsm)
      have s3 : Same (rem p H) (rem p (upd H2 sm (.lst ((W12 (ch bn) (ch ((bn + 1) % 26))).map .str)))) := by
        rw [rem_upd_ne nsp]
        exact same_put (s1.trans s2) hs0
      generalize hH3 : upd H2 sm (.lst ((W12 (ch bn) (ch ((bn + 1) % 26))).map .str)) = H3 at s3
      have hp3 : PotAt p H3 := by
        rw [← hH3]
        exact hp2.new hsm
      have hW : rem p H3 sm = some (.lst ((W12 (ch bn) (ch ((bn + 1) % 26))).map .str)) := by
        rw [← hH3, rem_ne nsp, upd_same]
      have eW : upd H2 sm (.lst [.str (ch bn), .str (ch bn ++ ch bn), .str (ch bn ++ ch ((bn + 1) % 26)), .str (ch bn ++ ch bn ++ ch ((bn + 1) % 26)), .str (ch ((bn + 1) % 26)), .str (ch ((bn + 1) % 26) ++ ch bn), .str (ch bn ++ ch bn ++ ch bn), .str (ch bn ++ ch ((bn + 1) % 26) ++ ch bn), .str (ch ((bn + 1) % 26) ++ ch ((bn + 1) % 26)),
        .str (ch bn ++ ch bn ++ ch bn ++ ch ((bn + 1) % 26)), .str (ch bn ++ ch ((bn + 1) % 26) ++ ch ((bn + 1) % 26)), .str (ch ((bn + 1) % 26) ++ ch bn ++ ch bn)]) = H3 := hH3
      generalize hWd : W12 (ch bn) (ch ((bn + 1) % 26)) = WW at nd nm hW
      have lW : WW.length = 12 := by rw [← hWd]; rfl
      refine ⟨.int (n : Int), rfl, (n : Int), rfl, by omega, by omega, ?_⟩
      intro D hD
      have hD : H3 D = none := by rw [← eW]; exact hD
      have nDp : D ≠ p := hp3.ne hD
      have nDs : sm ≠ D := ne_of_none (of_rem hW).2 hD
      have hD0 : rem p H D = none := s3.free (rem_fresh hD)
      refine lc_it (walk_range (lo := 0) (n := n)) (fun i H' => PotAt p H' ∧ Same (rem p H) (rem p H') ∧ ∃ got rest : List Str, rem p H' sm = some (.lst (rest.map .str)) ∧ rem p H' D = some (.lst (got.map .str)) ∧ (got ++ rest).Perm WW ∧ got.length = i)
        ?_ (fun _ _ _ _ => trivial) ?_ ?_
      · show PotAt p (upd _ D _) ∧ _
        rw [eW]
        refine ⟨hp3.new hD, ?_, [], WW, ?_, ?_, List.Perm.refl _, rfl⟩
        · rw [rem_upd_ne nDp]
          exact same_put s3 hD0
        · rw [rem_upd_ne nDp, upd_ne nDs]
          exact hW
        · rw [rem_upd_ne nDp, upd_same]
          rfl
      · rintro i x H' H'' hi ⟨hp', s', got, rest, hs', hD', pm, hg⟩ ⟨rfl, rfl⟩
        have lr : got.length + rest.length = 12 := by
          have := pm.length_eq
          rw [List.length_append, lW] at this
          exact this
        have hsH := (of_rem hs').2
        refine ⟨rfl, tyes ⟨.ref sm, rfl, .inl ⟨rfl, _, SqL.of hsH⟩, .ref p, rfl, .ref sm, rfl, sm, _, rfl, .inl (SqL.of hsH), p, _, rfl, hp', by rw [List.length_map]; omega, by rw [List.length_map]; omega, fun d' H4 e0 e1 hp4 s4 => ?_⟩⟩
        rw [List.length_map] at e1
        obtain ⟨dn, rfl⟩ : ∃ dn : Nat, d' = (dn : Int) := ⟨d'.toNat, by omega⟩
        have hdn : dn < rest.length := by omega
        have hs4 := s4 _ _ hs'
        refine ⟨sm, _, (dn : Int), dn, .str rest[dn], rfl, rfl, (of_rem hs4).2, by omega, by omega, seq_nat (by rw [List.length_map]; exact hdn), by rw [List.getElem?_map, List.getElem?_eq_getElem hdn]; rfl, got.map .str, ?_, small1000 (by rw [List.length_map]; omega), ?_⟩
        · rw [upd_ne nDs.symm]
          exact (of_rem (s4 _ _ hD')).2
        · refine ⟨(hp4.put nsp).put nDp, ?_, got ++ [rest[dn]], rest.eraseIdx dn, ?_, ?_, perm_pop pm (List.getElem?_eq_getElem hdn), by rw [List.length_append, List.length_singleton, hg]⟩
          · rw [rem_upd_ne nDp, rem_upd_ne nsp]
            exact same_put (same_put (s'.trans s4) hs0) hD0
          · rw [rem_upd_ne nDp, rem_upd_ne nsp, upd_ne nDs, upd_same, map_eraseIdx]
          · rw [rem_upd_ne nDp, upd_same, List.map_append]
            rfl
      · rintro H' ⟨hp', s', got, rest, hs', hD', pm, hg⟩
        have ndg : got.Nodup := by
          have := pm.nodup_iff.mpr nd
          exact (List.nodup_append.mp this).1
        refine k D got H' ?_ hp' s' hD' hg ndg fun x hx => nm x (pm.mem_iff.mp (List.mem_append_left _ hx))
        have := hD0
        rwa [rem_ne nDp] at this
    · -- words with unlike first letters
      refine ⟨Nat.zero_le _, fun l hl => ?_⟩
      have nlp : l ≠ p := hp2.ne hl
      have s12 := s1.trans s2
      have l0 : rem p H l = none := s12.free (rem_fresh hl)
      have l00 : H l = none := by
        have := l0
        rwa [rem_ne nlp] at this
      refine ⟨.int (n : Int), rfl, (n : Int), rfl, by omega, by omega, ?_⟩
      refine for_it (walk_range (lo := 0) (n := n)) (fun i σ H' => ∃ (v7 v9 v10 : Option V) (ns : List Str), σ = [some (.ref p), some (.int (n : Int)), some (.str small), some (.int (bn : Int)), none, none, none, v7, some (.ref l), v9, v10] ∧ PotAt p H' ∧ Same (rem p H) (rem p H') ∧ rem p H' l = some (.lst (ns.map .str)) ∧ ns.length = i ∧
        ∀ (k : Nat) x, ns[k]? = some x → FW (97 + (bn + 5 * k) % 26) 3 x) ?_ (fun _ _ _ _ _ => trivial) ?_ ?_
      · refine ⟨_, _, _, [], rfl, hp2.new hl, ?_, ?_, rfl, fun k x h => by simp at h⟩
        · rw [rem_upd_ne nlp]
          exact same_put s12 l0
        · rw [rem_upd_ne nlp, upd_same]
          rfl
      · rintro i x σ H' H'' hi ⟨v7, v9, v10, ns, rfl, hp', s', hL, hn, hw⟩ ⟨rfl, rfl⟩
        have hf : (bn + 5 * i) % 26 < 26 := Nat.mod_lt _ (by decide)
        have ef : ((bn : Int) + 5 * (0 + (i : Int))) % 26 = (((bn + 5 * i) % 26 : Nat) : Int) := by omega
        refine ⟨_, rfl, _, rfl, _, rfl, _, _, rfl, rfl, .inl ⟨by decide, by decide⟩, _, _, rfl, rfl, _, _, rfl, rfl, (by show (0 : Int) < 26; decide), small, _, 97 + (bn + 5 * i) % 26, rfl, rfl, ssz, by rw [ef]; exact small_c _ hf, ?_⟩
        refine ⟨_, rfl, p, _, rfl, hp', by decide, by decide, fun d3 H3 e0 e1 hp3 s3 => ⟨d3, rfl, by omega, by omega, ?_⟩⟩
        refine for_it (walk_range (lo := 0) (n := d3.toNat)) (fun j σ H5 => ∃ (v10 : Option V) (wd : Str), σ = [some (.ref p), some (.int (n : Int)), some (.str small), some (.int (bn : Int)), none, none, none, some (.int (0 + (i : Int))), some (.ref l), some (.str wd), v10] ∧ PotAt p H5 ∧ Same (rem p H) (rem p H5) ∧ rem p H5 l = some (.lst (ns.map .str)) ∧ FW (97 + (bn + 5 * i) % 26) j wd)
          ⟨_, _, rfl, hp3, s'.trans s3, s3 _ _ hL, FW.one hf⟩ (fun _ _ _ _ _ => trivial) ?_ ?_
        · rintro j x σ H5 H6 hj ⟨v, wd, rfl, hp5, s5, hL5, fw⟩ ⟨rfl, rfl⟩
          refine ⟨_, rfl, _, rfl, _, rfl, p, _, rfl, hp5, by decide, by decide, fun c H7 c0 c1 hp7 s7 => ?_⟩
          obtain ⟨cn, rfl⟩ : ∃ cn : Nat, c = (cn : Int) := ⟨c.toNat, by omega⟩
          have hcn : cn < 26 := by omega
          refine ⟨small, _, 97 + cn, rfl, rfl, ssz, small_c cn hcn, wd, ch cn, rfl, rfl, sz1000 ?_, ?_⟩
          · have := fw.len
            have := ch_len cn
            omega
          · exact ⟨_, _, rfl, hp7, s5.trans s7, s7 _ _ hL5, fw.more hcn⟩
        · rintro σ H5 ⟨v, wd, rfl, hp5, s5, hL5, fw⟩
          have hLH := (of_rem hL5).2
          refine ⟨.ref l, rfl, .inl ⟨rfl, _, SqL.of hLH⟩, .str wd, rfl, l, _, _, rfl, rfl, hLH, small1000 (by rw [List.length_map]; omega), ?_⟩
          refine ⟨_, _, _, ns ++ [wd], rfl, hp5.put nlp, ?_, ?_, by rw [List.length_append, List.length_singleton, hn], fun k x h => ?_⟩
          · rw [rem_upd_ne nlp]
            exact same_put s5 l0
          · rw [rem_upd_ne nlp, upd_same, List.map_append]
            rfl
          · by_cases hk : k < ns.length
            · rw [List.getElem?_append_left hk] at h
              exact hw k x h
            · have hk2 : k < (ns ++ [wd]).length := (List.getElem?_eq_some_iff.mp h).1
              rw [List.length_append, List.length_singleton] at hk2
              have ek : k = ns.length := by omega
              subst ek
              rw [List.getElem?_append_right (Nat.le_refl _), Nat.sub_self] at h
              have e := Option.some.inj h
              subst e
              rw [hn]
              obtain ⟨r, e1', e2', e3'⟩ := fw
              exact ⟨r, e1', by omega, e3'⟩
      · rintro σ H' ⟨v7, v9, v10, ns, rfl, hp', s', hL, hn, hw⟩
        refine ⟨_, rfl, k l ns H' l00 hp' s' hL hn (firsts_nd hb (by omega) hw) fun x hx => ?_⟩
        obtain ⟨j, hj⟩ := List.mem_iff_getElem?.mp hx
        exact (hw j x hj).nm (Nat.le_refl _)
end
end Pw

/-! _law_web. -/
namespace Pw
open PySem PySem.Spec PyProof.Rows L2
theorem PotAt.same {p : Addr} {H H' : Hp} (h : PotAt p H) (s : Same H H') : PotAt p H' := by
  obtain ⟨i, j, e, r⟩ := h
  exact ⟨i, j, s _ _ e, r⟩
/-- each of them a tie that a web on ns may have -/
def OkTies (H : Hp) (ns : List Str) (ts : List V) : Prop := ∀ v ∈ ts, ∃ q, TieV H v q ∧ TieOk ns q
theorem OkTies.same {H H' : Hp} (s : Same H H') {ns : List Str} {ts : List V} (h : OkTies H ns ts) : OkTies H' ns ts := fun v hv => by
  obtain ⟨q, t, o⟩ := h v hv
  exact ⟨q, t.same s, o⟩
theorem OkTies.ex {H : Hp} {ns : List Str} : ∀ {ts : List V}, OkTies H ns ts → ∃ qs, Ties H ts qs ∧ ∀ q ∈ qs, TieOk ns q
  | [], _ => ⟨[], .nil, fun q hq => by simp at hq⟩
  | v :: ts, h => by
    obtain ⟨q, t, o⟩ := h v List.mem_cons_self
    obtain ⟨qs, t2, o2⟩ := OkTies.ex (ts := ts) fun u hu => h u (List.mem_cons_of_mem _ hu)
    refine ⟨q :: qs, .cons t t2, fun r hr => ?_⟩
    rcases List.mem_cons.mp hr with z | z
    · rw [z]; exact o
    · exact o2 r z
theorem atI_neg1 {xs : List V} {v : V} (h : xs[xs.length - 1]? = some v) : atI xs (-1) = some v := by
  have hl : xs.length - 1 < xs.length := (List.getElem?_eq_some_iff.mp h).1
  have e : ixN xs.length (-1) = some (xs.length - 1) := by
    unfold ixN
    rw [if_neg (by omega), if_pos (by omega)]
    congr 1
    omega
  unfold atI
  rw [e]
  exact h
theorem seq_by {t u : TS} {D : Ends} {σ : L2.St} {H : Hp} (Post : L2.St → Hp → Prop) (h : ∀ R : L2.St → Hp → Prop, (∀ σ H, Post σ H → R σ H) → t { D with nx := R } σ H) (h2 : ∀ σ H, Post σ H → u D σ H) : tSeq t u D σ H := h (u D) h2
theorem TieV.rem {p : Addr} {H : Hp} {v : V} {q : Str × Str} (hp : PotAt p H) (t : TieV H v q) : TieV (rem p H) v q := by
  obtain ⟨T, e, h⟩ := t
  obtain ⟨i, j, hp, _⟩ := hp
  exact ⟨T, e, by rw [rem_ne (ne_of h hp (by intro z; cases z))]; exact h⟩
theorem TieV.put {H : Hp} {v : V} {q : Str × Str} {l : Addr} {xs : List V} {o : HO} (hl : H l = some (.lst xs)) (t : TieV H v q) : TieV (upd H l o) v q := by
  obtain ⟨T, e, h⟩ := t
  exact ⟨T, e, by rw [upd_ne (ne_of h hl (by intro z; cases z))]; exact h⟩
theorem OkTies.put {H : Hp} {ns : List Str} {ts : List V} {l : Addr} {xs : List V} {o : HO} (hl : H l = some (.lst xs)) (h : OkTies H ns ts) : OkTies (upd H l o) ns ts := fun v hv => by
  obtain ⟨q, t, ok⟩ := h v hv
  exact ⟨q, t.put hl, ok⟩
theorem OkTies.app {H : Hp} {ns : List Str} {ts : List V} {v : V} {q : Str × Str} (h : OkTies H ns ts) (t : TieV H v q) (ok : TieOk ns q) : OkTies H ns (ts ++ [v]) := fun u hu => by
  rcases List.mem_append.mp hu with z | z
  · exact h u z
  · rw [List.mem_singleton.mp z]
    exact ⟨q, t, ok⟩
def unStr : V → Str
  | .str x => x
  | _ => small
theorem perm_str {ys : List V} {ns : List Str} (h : ys.Perm (ns.map V.str)) : ∃ ms : List Str, ys = ms.map V.str ∧ ms.Perm ns := by
  refine ⟨ys.map unStr, ?_, ?_⟩
  · rw [List.map_map]
    refine (List.map_id ys).symm.trans (List.map_congr_left fun v hv => ?_)
    obtain ⟨x, _, rfl⟩ := List.mem_map.mp (h.mem_iff.mp hv)
    rfl
  · have q := h.map unStr
    rw [List.map_map] at q
    have e : ns.map (unStr ∘ V.str) = ns := (List.map_congr_left fun x _ => rfl).trans (List.map_id ns)
    rwa [e] at q
section
variable {P : Program} {w : World} {K : PySem.W.Frag} {mg : Str → Option Value} {base : Heap}
def spLWeb : Sp := fun vs H Q _ => ∃ (p : Addr), vs = [.ref p, .int 9, .int 20] ∧ PotAt p H ∧ ∀ (W l t : Addr) (ns : List Str) (qs : List (Str × Str)) (ts : List V) (H' : Hp), PotAt p H' → Same (rem p H) (rem p H') → rem p H' W = some (.tup [.ref l, .ref t]) → rem p H' l = some (.lst (ns.map .str)) → rem p H' t = some (.lst ts) → Ties (rem p H') ts qs → Good ns qs → Q (.ref W) H'
theorem ok_lweb (T : W0 K mg) : FnOk P w K mg base CX0 3 T.fLWeb T.dLWeb pLWeb spLWeb := by
  refine T.eLWeb.fn.ok scLWeb (fun vs H Q E h => ?_) (fun cdv A outer s H vs Q E hr h => ?_)
  · obtain ⟨p, rfl, _⟩ := h
    rfl
  · obtain ⟨p, rfl, hp, k⟩ := h
    have hr1 := hr.mono (show 1 ≤ 2 by decide)
    refine ⟨_, pss_cons (ps_set (i := 3) scLWeb.nd rfl (Or.inl rfl) (pe_call (ok_lnames T) hr rfl T.eLNames.g T.eLNames.k T.eLNames.b .nil pass0 (pa_cons (pv 0) (pa_cons (pe_op op_add pe_int (pe_call (ok_take T) hr1 rfl T.eTake.g T.eTake.k T.eTake.b .nil pass0 (pa_cons (pv 0) (pa_cons (pv 1) pa_nil)))) pa_nil))))
      (pss_cons (ps_set (i := 4) scLWeb.nd rfl (Or.inl rfl) (pe_call (ok_take T) hr1 rfl T.eTake.g T.eTake.k T.eTake.b .nil pass0 (pa_cons (pv 0) (pa_cons pe_int pa_nil))))
      (pss_cons (ps_set (i := 5) scLWeb.nd rfl (Or.inl rfl) (pe_lst pa_nil))
      (pss_cons (ps_if (pt_cmpR op_gt (pe_callB call_len_seq rfl T.z_len boot_len (pa_cons (pv 3) pa_nil)) pe_int (nomark _))
        (pss_cons (ps_set (i := 6) scLWeb.nd rfl (Or.inr rfl) (pe_call (ok_mixed T) hr rfl T.eMixed.g T.eMixed.k T.eMixed.b .nil pass0 (pa_cons (pv 0) (pa_cons (pv 3) pa_nil))))
        (pss_cons (ps_if (pt_cmpR op_gt (pv 4) pe_int (nomark _))
          (pss_one (ps_setLc (i := 5) (te := tTup (tCons (tOp (rIx K) (tVar 6) (tOp (rI0 fun i j => .int (i - j)) (tVar 7) (tC (.int 1)))) (tCons (tOp (rIx K) (tVar 6) (tVar 7)) tNil))) (own := [("_law_k", 7)]) rfl scLWeb.nd rfl rfl (sw_true rfl rfl rfl rfl)
            (pi_range2 rfl T.z_range (pa_cons (pe_callTy call_int1 rfl T.z_int boot_int (pa_cons (pe_cmpR op_eq (pv 4) pe_int (nomark _)) pa_nil)) (pa_cons (pe_callB call_len_seq rfl T.z_len boot_len (pa_cons (pv 6) pa_nil)) pa_nil)))
            (blkOk_by (N := nLWeb) (sc := defScope sLWeb) (by decide +kernel)) (fun _ _ _ _ _ => pg_name (i := 7) scLWeb.nd rfl (Or.inl rfl)) (fun _ _ _ _ _ => pts_nil)
            (fun _ _ _ _ _ => pe_tup (pa_cons (pe_ix ix_seq (pv 6) (pe_op op_sub (pv 7) pe_int) (fun _ _ => rfl)) (pa_cons (pe_ix ix_seq (pv 6) (pv 7) (fun _ _ => rfl)) pa_nil))))) pss_nil)
        (pss_one (ps_for PassesOwn.never rfl (pi_range1 rfl T.z_range (pa_cons (pe_call (ok_take T) hr1 rfl T.eTake.g T.eTake.k T.eTake.b .nil pass0 (pa_cons (pv 0) (pa_cons (pe_op op_add (pe_op op_sub (pv 2) (pe_callB call_len_seq rfl T.z_len boot_len (pa_cons (pv 5) pa_nil))) pe_int) pa_nil))) pa_nil)) (pg_name (i := 7) scLWeb.nd rfl (Or.inl rfl))
          (pss_one (ps_expr (pe_bm PySem.F.plainAttrs_list PySem.F.slot_list_append PySem.F.type_list_append mt_append (pv 5) (pa_cons (pe_call (ok_tie T) hr rfl T.eTie.g T.eTie.k T.eTie.b .nil pass0 (pa_cons (pv 0) (pa_cons (pv 3) pa_nil))) pa_nil))))))))
        pss_nil)
      (pss_cons (ps_setLc (i := 8) (te := tCall spTake [] E0 (tCons (tVar 0) (tCons (tC (.int 2)) tNil))) (own := [("_law_tie_here", 9)]) rfl scLWeb.nd rfl rfl (sw_true rfl rfl rfl rfl) (pi_list (pv 5)) (blkOk_by (N := nLWeb) (sc := defScope sLWeb) (by decide +kernel))
        (fun _ _ _ _ _ => pg_name (i := 9) scLWeb.nd rfl (Or.inl rfl)) (fun _ _ _ _ _ => pts_nil) (fun _ _ _ _ _ => pe_call (ok_take T) hr1 rfl T.eTake.g T.eTake.k T.eTake.b .nil pass0 (pa_cons (pv 0) (pa_cons pe_int pa_nil))))
      (pss_cons (ps_setLc (i := 5) (g := gTup K 2 (gCons (gTup K 2 (gCons (gName 10) (gCons (gName 11) gNil))) (gCons (gName 12) gNil))) (te := tOp (rIx K) (tLst (tCons (tTup (tCons (tVar 10) (tCons (tVar 11) tNil))) (tCons (tTup (tCons (tVar 11) (tCons (tVar 10) tNil))) tNil))) (tVar 12)) (own := [("_law_a", 10), ("_law_b", 11), ("_law_turn", 12)]) rfl scLWeb.nd rfl rfl (sw_true rfl rfl rfl rfl)
        (pi_zip rfl T.z_zip (pa_cons (pv 5) (pa_cons (pv 8) pa_nil))) (blkOk_by (N := nLWeb) (sc := defScope sLWeb) (by decide +kernel))
        (fun _ _ _ _ _ => pg_tup rfl (pgs_cons (pg_tup rfl (pgs_cons (pg_name (i := 10) scLWeb.nd rfl (Or.inl rfl)) (pgs_cons (pg_name (i := 11) scLWeb.nd rfl (Or.inl rfl)) pgs_nil))) (pgs_cons (pg_name (i := 12) scLWeb.nd rfl (Or.inl rfl)) pgs_nil))) (fun _ _ _ _ _ => pts_nil)
        (fun _ _ _ _ _ => pe_ix ix_seq (pe_lst (pa_cons (pe_tup (pa_cons (pv 10) (pa_cons (pv 11) pa_nil))) (pa_cons (pe_tup (pa_cons (pv 11) (pa_cons (pv 10) pa_nil))) pa_nil))) (pv 12) (fun _ _ => rfl)))
      (pss_one (ps_ret (pe_tup (pa_cons (pv 3) (pa_cons (pe_call (ok_mixed T) hr rfl T.eMixed.g T.eMixed.k T.eMixed.b .nil pass0 (pa_cons (pv 0) (pa_cons (pv 5) pa_nil))) pa_nil)))))))))), ?_⟩
    refine ⟨_, rfl, _, rfl, _, rfl, p, _, rfl, hp, by decide, by decide, fun d H1 d0 d1 hp1 s1 => ?_⟩
    obtain ⟨dn, rfl⟩ : ∃ dn : Nat, d = (dn : Int) := ⟨d.toNat, by omega⟩
    have e1 : (1 + (dn : Int)) = ((1 + dn : Nat) : Int) := by omega
    refine ⟨_, _, rfl, rfl, p, 1 + dn, (by rw [← e1]; rfl), hp1, by omega, by omega, fun l ns H2 hl hp2 s2 hL hn hnd hnm => ?_⟩
    have n1 : 1 ≤ ns.length := by omega
    have n9 : ns.length ≤ 9 := by omega
    refine ⟨_, rfl, p, _, rfl, hp2, by decide, by decide, fun kd H3 kd0 kd1 hp3 s3 => ?_⟩
    have s123 := (s1.trans s2).trans s3
    have hL3 := s3 _ _ hL
    refine ⟨Nat.zero_le _, fun t0 ht0 => ?_⟩
    have nt0 : t0 ≠ p := hp3.ne ht0
    have ft0 : rem p H t0 = none := s123.free (rem_fresh ht0)
    dsimp only [gName]
    refine seq_by (t := tIfS _ _ _) (fun σ H5 => ∃ (v6 v7 : Option V) (t : Addr) (ts : List V), σ = [some (.ref p), some (.int 9), some (.int 20), some (.ref l), some (.int kd), some (.ref t), v6, v7, none, none, none, none, none] ∧ PotAt p H5 ∧ Same (rem p H) (rem p H5) ∧ rem p H5 l = some (.lst (ns.map .str)) ∧
      rem p H5 t = some (.lst ts) ∧ OkTies (rem p H5) ns ts ∧ ts.length ≤ 20) (fun R hR => ?_) ?_
    · have s4 : Same (rem p H) (rem p (upd H3 t0 (.lst []))) := by
        rw [rem_upd_ne nt0]
        exact same_put s123 ft0
      have hp4 : PotAt p (upd H3 t0 (.lst [])) := hp3.new ht0
      have hL4 : rem p (upd H3 t0 (.lst [])) l = some (.lst (ns.map .str)) := by
        rw [rem_upd_ne nt0]
        exact same_new (rem_fresh ht0) _ _ hL3
      have hT4 : rem p (upd H3 t0 (.lst [])) t0 = some (.lst []) := by
        rw [rem_ne nt0, upd_same]
      have ok4 : OkTies (rem p (upd H3 t0 (.lst []))) ns [] := fun v hv => absurd hv (by simp)
      have hLH4 := (of_rem hL4).2
      refine ⟨_, rfl, l, _, rfl, .inl (SqL.of hLH4), _, _, rfl, rfl, _, rfl, ite2 (fun h2 => ?_) (fun h2 => ?_)⟩
      · have n2 : 2 ≤ ns.length := by
          have := of_decide_eq_true h2
          rw [List.length_map] at this
          omega
        generalize upd H3 t0 (.lst []) = H4 at s4 hp4 hL4 hT4 ok4 hLH4 ⊢
        refine ⟨_, rfl, _, rfl, p, l, _, rfl, hp4, hL4, by rw [List.length_map]; omega, fun rw_ ys H5 hrw0 hp5 s5 hY pm => ?_⟩
        obtain ⟨ms, rfl, pms⟩ := perm_str pm
        have lms : ms.length = ns.length := pms.length_eq
        have ndm : ms.Nodup := pms.nodup_iff.mpr hnd
        dsimp only [gName]
        refine seq_by (t := tIfS _ _ _) (fun σ H6 => ∃ (v7 : Option V) (t : Addr) (ts : List V), σ = [some (.ref p), some (.int 9), some (.int 20), some (.ref l), some (.int kd), some (.ref t), some (.ref rw_), v7, none, none, none, none, none] ∧ PotAt p H6 ∧ Same (rem p H) (rem p H6) ∧ rem p H6 l = some (.lst (ns.map .str)) ∧
          rem p H6 t = some (.lst ts) ∧ OkTies (rem p H6) ns ts ∧ ts.length ≤ 9 ∧ rem p H t = none) (fun R2 hR2 => ?_) ?_
        · refine ⟨_, rfl, _, _, rfl, rfl, _, rfl, ite2 (fun h3 => ?_) (fun h3 => ?_)⟩
          · -- a chain along the row
            have hYH := (of_rem hY).2
            obtain ⟨lo, hlo, elo⟩ : ∃ lo : Nat, lo ≤ 1 ∧ (if decide (V.int kd = V.int 3) = true then (1 : Int) else 0) = (lo : Int) := by
              by_cases h : decide (V.int kd = V.int 3) = true
              · exact ⟨1, Nat.le_refl _, by rw [if_pos h]; rfl⟩
              · exact ⟨0, Nat.zero_le _, by rw [if_neg h]; rfl⟩
            refine ⟨_, rfl, rfl, .inr ⟨_, rfl, _, rfl, rw_, _, rfl, .inl (SqL.of hYH), _, _, rfl, ?_⟩⟩
            rw [elo, List.length_map]
            refine ⟨by omega, fun D hD => lc_fil (walk_range (lo := (lo : Int)) (n := ((ms.length : Int) - (lo : Int)).toNat)) (fun _ => true) (fun i y G => ∃ q, TieV G y q ∧ TieOk ns q) (fun _ _ _ _ s ⟨q, t, o⟩ => ⟨q, t.same s, o⟩) hD (fun _ _ => trivial) ?_ ?_⟩
            · rintro i x H6 H7 hi lp s6 ⟨rfl, rfl⟩
              have hj : lo + i < ms.length := by omega
              have hYH6 := s6 _ _ hYH
              obtain ⟨jn, hjn, hjv⟩ : ∃ j : Nat, j < ms.length ∧ j ≠ lo + i ∧ atI (ms.map V.str) ((lo : Int) + (i : Int) - 1) = some (.str ms[j]!) := by
                by_cases h0 : lo + i = 0
                · refine ⟨ms.length - 1, by omega, by omega, ?_⟩
                  rw [show (lo : Int) + (i : Int) - 1 = -1 by omega]
                  refine atI_neg1 ?_
                  rw [List.length_map, List.getElem?_map, List.getElem?_eq_getElem (show ms.length - 1 < ms.length by omega), getElem!_pos ms (ms.length - 1) (by omega)]
                  rfl
                · refine ⟨lo + i - 1, by omega, by omega, at_of (j := lo + i - 1) (by omega) ?_⟩
                  rw [List.getElem?_map, List.getElem?_eq_getElem (show lo + i - 1 < ms.length by omega), getElem!_pos ms (lo + i - 1) (by omega)]
                  rfl
              have ev : atI (ms.map V.str) ((lo : Int) + (i : Int)) = some (.str ms[lo + i]) := at_of (j := lo + i) (by omega) (by rw [List.getElem?_map, List.getElem?_eq_getElem hj]; rfl)
              refine ⟨rfl, tyes ⟨_, rfl, _, rfl, _, _, rfl, rfl, .inl ⟨rw_, _, _, _, rfl, rfl, SqL.of hYH6, hjv.2, _, rfl, _, rfl, .inl ⟨rw_, _, _, _, rfl, rfl, SqL.of hYH6, ev, sz1000 (show 2 ≤ 1000 by decide), fun T hT => ?_⟩⟩⟩⟩
              refine lp.put (by omega) (same_new hT) rfl ⟨(ms[jn]!, ms[lo + i]), ⟨T, rfl, ?_⟩, ?_⟩
              · obtain ⟨_, _, _, _, acc, hacc, _⟩ := lp
                rw [rem_ne (ne_of_none hacc hT).symm, upd_same]
              · rw [getElem!_pos ms jn hjn]
                refine ⟨pms.mem_iff.mp (List.getElem_mem _), pms.mem_iff.mp (List.getElem_mem _), fun e => ?_⟩
                have e' : ms[jn] = ms[lo + i] := e
                exact hjv.1 (nd_ix ndm (List.getElem?_eq_getElem hjn) (by rw [List.getElem?_eq_getElem hj, e']))
            · intro H6 lp
              obtain ⟨s6, ts, ht, hn6, hr6⟩ := lp.all
              have hp6 := hp5.same s6
              have nDp : D ≠ p := hp5.ne hD
              refine hR2 _ _ ⟨_, D, ts, rfl, hp6, (s4.trans s5).trans (same_remr s6), same_remr s6 _ _ (s5 _ _ hL4), by rw [rem_ne nDp]; exact ht, fun v hv => ?_, ?_, (s4.trans s5).free (rem_fresh hD)⟩
              · obtain ⟨i, hi⟩ := List.mem_iff_getElem?.mp hv
                obtain ⟨q, t, o⟩ := hr6 i v hi
                exact ⟨q, (t.same same_rem).rem hp6, o⟩
              · rw [hn6]
                omega
          · exact hR2 _ _ ⟨_, t0, [], rfl, hp5, s4.trans s5, s5 _ _ hL4, s5 _ _ hT4, fun v hv => absurd hv (by simp), by simp, ft0⟩
        · -- more ties
          rintro σ H6 ⟨v7, t, ts, rfl, hp6, s6, hL6, hT6, ok6, l6, ft⟩
          refine ⟨_, rfl, _, rfl, _, rfl, t, _, rfl, .inl (SqL.of (of_rem hT6).2), _, _, rfl, rfl, _, _, rfl, rfl, p, _, rfl, hp6, by omega, by omega, fun d2 H7 e0 e1 hp7 s7 => ⟨d2, rfl, by omega, by omega, ?_⟩⟩
          have ntp := (of_rem hT6).1
          refine for_it (walk_range (lo := 0) (n := d2.toNat)) (fun i σ H8 => ∃ (v7 : Option V) (us : List V), σ = [some (.ref p), some (.int 9), some (.int 20), some (.ref l), some (.int kd), some (.ref t), some (.ref rw_), v7, none, none, none, none, none] ∧ PotAt p H8 ∧ Same (rem p H) (rem p H8) ∧ rem p H8 l = some (.lst (ns.map .str)) ∧
            rem p H8 t = some (.lst us) ∧ OkTies (rem p H8) ns us ∧ us.length = ts.length + i) ⟨_, ts, rfl, hp7, s6.trans s7, s7 _ _ hL6, s7 _ _ hT6, ok6.same s7, rfl⟩ (fun _ _ _ _ _ => trivial) ?_ ?_
          · rintro i x σ H8 H9 hi ⟨v7, us, rfl, hp8, s8, hL8, hT8, ok8, l8⟩ ⟨rfl, rfl⟩
            refine ⟨.ref t, rfl, .inl ⟨rfl, _, SqL.of (of_rem hT8).2⟩, _, rfl, _, rfl, p, l, ns, rfl, hp8, hL8, n2, n9, hnd, fun v q H9 hp9 s9 tv ok => ?_⟩
            have hT9 := s9 _ _ hT8
            refine ⟨t, us, v, rfl, rfl, (of_rem hT9).2, small1000 (by omega), ?_⟩
            have hL9 := s9 _ _ hL8
            refine ⟨_, us ++ [v], rfl, hp9.put ntp, ?_, ?_, ?_, ?_, by rw [List.length_append, List.length_singleton]; omega⟩
            · rw [rem_upd_ne ntp]
              exact same_put (s8.trans s9) ft
            · rw [rem_upd_ne ntp, upd_ne (fun z => ?_)]
              · exact hL9
              · subst z
                rw [hL9] at hT9
                have e := HO.lst.inj (Option.some.inj hT9)
                -- the names' list is no list of ties
                cases us with
                | nil =>
                  cases ns with
                  | nil => simp at n1
                  | cons x xs =>
                    rw [List.map_cons] at e
                    cases e
                | cons u us =>
                  obtain ⟨q', ⟨T', eT, _⟩, _⟩ := (ok8.same s9) u List.mem_cons_self
                  cases ns with
                  | nil => simp at n1
                  | cons x xs =>
                    have := (List.cons.inj e).1
                    rw [eT] at this
                    cases this
            · rw [rem_upd_ne ntp, upd_same]
            · rw [rem_upd_ne ntp]
              exact ((ok8.same s9).app tv ok).put hT9
          · rintro σ H8 ⟨v7, us, rfl, hp8, s8, hL8, hT8, ok8, l8⟩
            exact hR _ _ ⟨_, _, t, us, rfl, hp8, s8, hL8, hT8, ok8, by omega⟩
      · exact hR _ _ ⟨_, _, t0, [], rfl, hp4, s4, hL4, hT4, ok4, by simp⟩
    · rintro σ H5 ⟨v6, v7, t, ts, rfl, hp5, s5, hL5, hT5, ok5, l5⟩
      have hTH5 := (of_rem hT5).2
      -- the turns
      refine seq_by (t := tAsg _ (gName 8)) (fun σ H6 => ∃ (v6 v7 : Option V) (u : Addr) (ds : List Int), σ = [some (.ref p), some (.int 9), some (.int 20), some (.ref l), some (.int kd), some (.ref t), v6, v7, some (.ref u), none, none, none, none] ∧ PotAt p H6 ∧ Same (rem p H) (rem p H6) ∧ Same (rem p H5) (rem p H6) ∧
        rem p H6 u = some (.lst (ds.map .int)) ∧ ds.length = ts.length ∧ ∀ d ∈ ds, 0 ≤ d ∧ d < 2) (fun R hR => ?_) ?_
      · refine ⟨_, rfl, t, rfl, ⟨_, SqL.of hTH5⟩, fun D hD => ?_⟩
        have nDp : D ≠ p := hp5.ne hD
        have hD5 : rem p H5 D = none := rem_fresh hD
        refine lc_it (walk_list (K := K) (a := t) (xs := ts)) (fun i H6 => PotAt p H6 ∧ Same (rem p H5) (rem p H6) ∧ ∃ ds : List Int, rem p H6 D = some (.lst (ds.map .int)) ∧ ds.length = i ∧ ∀ d ∈ ds, 0 ≤ d ∧ d < 2) ?_ (fun i H6 _ h => SqL.of (of_rem (h.2.1 _ _ hT5)).2) ?_ ?_
        · refine ⟨hp5.new hD, ?_, [], ?_, rfl, fun d hd => absurd hd (by simp)⟩
          · rw [rem_upd_ne nDp]
            exact same_new hD5
          · rw [rem_upd_ne nDp, upd_same]
            rfl
        · rintro i x H6 H7 hi ⟨hp6, s6, ds, hds, lds, hd2⟩ ⟨rfl, ex⟩
          refine ⟨rfl, tyes ⟨_, rfl, p, _, rfl, hp6, by decide, by decide, fun d H8 d0 d1 hp8 s8 => ?_⟩⟩
          have hds8 := s8 _ _ hds
          refine ⟨_, (of_rem hds8).2, small1000 (by rw [List.length_map]; omega), hp8.put nDp, ?_, ds ++ [d], ?_, by rw [List.length_append, List.length_singleton, lds], fun e he => ?_⟩
          · rw [rem_upd_ne nDp]
            exact same_put (s6.trans s8) hD5
          · rw [rem_upd_ne nDp, upd_same, List.map_append]
            rfl
          · rcases List.mem_append.mp he with z | z
            · exact hd2 e z
            · rw [List.mem_singleton.mp z]
              exact ⟨d0, d1⟩
        · rintro H6 ⟨hp6, s6, ds, hds, lds, hd2⟩
          exact hR _ _ ⟨v6, v7, D, ds, rfl, hp6, s5.trans s6, s6, hds, lds, hd2⟩
      rintro σ H6 ⟨v6, v7, u, ds, rfl, hp6, s6, s56, hU6, lds, hd2⟩
      have hT6 := s56 _ _ hT5
      have hL6 := s56 _ _ hL5
      have ok6 := ok5.same s56
      have hTH6 := (of_rem hT6).2
      have hUH6 := (of_rem hU6).2
      -- the ties, some of them turned
      refine seq_by (t := tAsg _ (gName 5)) (fun σ H7 => ∃ (v6 v7 : Option V) (t' : Addr) (us : List V), σ = [some (.ref p), some (.int 9), some (.int 20), some (.ref l), some (.int kd), some (.ref t'), v6, v7, some (.ref u), none, none, none, none] ∧ PotAt p H7 ∧ Same (rem p H6) (rem p H7) ∧
        rem p H7 t' = some (.lst us) ∧ us.length = ts.length ∧ OkTies (rem p H7) ns us) (fun R hR => ?_) ?_
      · refine ⟨_, rfl, _, rfl, t, u, _, _, rfl, SqL.of hTH6, SqL.of hUH6, fun D hD => lc_fil (walk_zip (K := K) (a := t) (b := u) (xs := ts) (ys := ds.map .int) (n := ts.length) (by rw [List.length_map, lds]; omega)) (fun _ => true) (fun i y G => ∃ q, TieV G y q ∧ TieOk ns q) (fun _ _ _ _ s ⟨q, t, o⟩ => ⟨q, t.same s, o⟩) hD (fun H7 s7 => ⟨SqL.of (s7 _ _ hTH6), SqL.of (s7 _ _ hUH6)⟩) ?_ ?_⟩
        · rintro i x H7 H8 hi lp s7 ⟨Z, v, d, rfl, hZ, rfl, hv, hd⟩
          obtain ⟨q, ⟨Tq, rfl, hTq⟩, okq⟩ := ok6 v (List.mem_of_getElem? hv)
          have hTq7 := s7 _ _ (of_rem hTq).2
          obtain ⟨dz, hdz, rfl⟩ : ∃ z, ds[i]? = some z ∧ d = .int z := by
            have hd : (ds.map V.int)[i]? = some d := hd
            rw [List.getElem?_map] at hd
            cases e : ds[i]? with
            | none => rw [e] at hd; cases hd
            | some z => rw [e] at hd; exact ⟨z, rfl, (Option.some.inj hd).symm⟩
          obtain ⟨dz0, dz1⟩ := hd2 dz (List.mem_of_getElem? hdz)
          have sZ := same_new (o := .tup [V.ref Tq, V.int dz]) hZ
          obtain ⟨_, _, _, _, acc, hacc, _⟩ := id lp
          refine ⟨Z, _, rfl, SqT.of upd_same, rfl, _, _, rfl, Tq, _, rfl, SqT.of (sZ _ _ hTq7), rfl, _, _, rfl, _, _, rfl, rfl, _, _, rfl, rfl, rfl, tyes ?_⟩
          refine ⟨_, rfl, _, rfl, sz1000 (show 2 ≤ 1000 by decide), fun T1 h1 => ⟨_, rfl, _, rfl, sz1000 (show 2 ≤ 1000 by decide), fun T2 h2 => ⟨sz1000 (show 2 ≤ 1000 by decide), fun L hL => ⟨.int dz, rfl, .inl ⟨L, _, dz, if dz = 0 then .ref T1 else .ref T2, rfl, rfl, SqL.of upd_same, ?_, ?_⟩⟩⟩⟩⟩
          · by_cases h0 : dz = 0
            · subst h0
              rfl
            · have : dz = 1 := by omega
              subst this
              rfl
          · have sA := ((sZ.trans (same_new (o := .tup [.str q.1, .str q.2]) h1)).trans (same_new (o := .tup [.str q.2, .str q.1]) h2)).trans (same_new (o := .lst [.ref T1, .ref T2]) hL)
            refine lp.put (by omega) sA rfl ?_
            have hacc1 := (sZ.trans (same_new (o := .tup [.str q.1, .str q.2]) h1)) _ _ hacc
            have f1 : rem D (upd (upd (upd (upd H7 Z (.tup [V.ref Tq, V.int dz])) T1 (.tup [.str q.1, .str q.2])) T2 (.tup [.str q.2, .str q.1])) L (.lst [.ref T1, .ref T2])) T1 = some (.tup [.str q.1, .str q.2]) := by
              rw [rem_ne (ne_of_none (sZ _ _ hacc) h1).symm]
              exact ((same_new h2).trans (same_new hL)) _ _ upd_same
            have f2 : rem D (upd (upd (upd (upd H7 Z (.tup [V.ref Tq, V.int dz])) T1 (.tup [.str q.1, .str q.2])) T2 (.tup [.str q.2, .str q.1])) L (.lst [.ref T1, .ref T2])) T2 = some (.tup [.str q.2, .str q.1]) := by
              rw [rem_ne (ne_of_none hacc1 h2).symm]
              exact (same_new hL) _ _ upd_same
            by_cases h0 : dz = 0
            · rw [if_pos h0]
              exact ⟨q, ⟨T1, rfl, f1⟩, okq⟩
            · rw [if_neg h0]
              exact ⟨(q.2, q.1), ⟨T2, rfl, f2⟩, okq.2.1, okq.1, Ne.symm okq.2.2⟩
        · intro H7 lp
          obtain ⟨s7, us, hus, hn7, hr7⟩ := lp.all
          have hp7 := hp6.same s7
          refine hR _ _ ⟨v6, v7, D, us, rfl, hp7, same_remr s7, by rw [rem_ne (hp6.ne hD)]; exact hus, hn7, fun v hv => ?_⟩
          obtain ⟨i, hi⟩ := List.mem_iff_getElem?.mp hv
          obtain ⟨q, t, o⟩ := hr7 i v hi
          exact ⟨q, (t.same same_rem).rem hp7, o⟩
      rintro σ H7 ⟨v6, v7, t', us, rfl, hp7, s7, hT7, lus, ok7⟩
      refine ⟨_, rfl, _, rfl, _, rfl, p, t', us, rfl, hp7, hT7, by omega, fun t2 ys H8 ht2 hp8 s8 hY pm => ⟨sz1000 (show 2 ≤ 1000 by decide), fun W hW => ?_⟩⟩
      have nWp : W ≠ p := hp8.ne hW
      have sW : Same (rem p H8) (rem p (upd H8 W (.tup [.ref l, .ref t2]))) := by
        rw [rem_upd_ne nWp]
        exact same_new (rem_fresh hW)
      have ok8 : OkTies (rem p (upd H8 W (.tup [.ref l, .ref t2]))) ns ys := fun v hv => (ok7.same (s8.trans sW)) v (pm.mem_iff.mp hv)
      obtain ⟨qs, tq, okq⟩ := ok8.ex
      have lq := paired_len tq
      have lp := pm.length_eq
      refine k W l t2 ns qs ys _ (hp8.new hW) (((s6.trans s7).trans s8).trans sW) (by rw [rem_ne nWp, upd_same]) ((s7.trans (s8.trans sW)) _ _ hL6) (sW _ _ hY) tq ⟨n1, n9, hnm, hnd, by omega, okq⟩
end
end Pw

/-! renamed_ties, renamed. -/
namespace Pw
open PySem PySem.Spec PyProof.Rows L2
/-- a value that a dict of names may hold -/
def ArgV (H : Hp) (v : V) : Prop := ∃ t, Ty H v t ∧ ∀ x, v = .str x → x.length ≤ 100
theorem ArgV.same {H H' : Hp} (s : Same H H') {v : V} (h : ArgV H v) : ArgV H' v := by
  obtain ⟨t, y, l⟩ := h
  exact ⟨t, y.same s, l⟩
def mapT (g : Str → Str) (q : Str × Str) : Str × Str := (g q.1, g q.2)
theorem nm_str {v : V} (h : nmB v = true) : v = .str (unStr v) ∧ isNm (unStr v) = true := by
  cases v with
  | str x => exact ⟨rfl, h⟩
  | _ => exact Bool.noConfusion h
/-- what is due of a dict of new names -/
def GoodG (kvs : List (Key × V)) (ns : List Str) (g : Str → Str) : Prop := kvs.length = ns.length ∧ (∀ n ∈ ns, valV kvs (.inr n) = some (.str (g n)) ∧ isNm (g n) = true) ∧ (ns.map g).Nodup
theorem valV_mem {kvs : List (Key × V)} {k : Key} {v : V} (h : valV kvs k = some v) : ∃ kv ∈ kvs, kv.1 = k ∧ kv.2 = v := by
  unfold valV at h
  cases e : kvs.find? (fun kv => decide (kv.1 = k)) with
  | none => rw [e] at h; cases h
  | some kv =>
    rw [e] at h
    exact ⟨kv, List.mem_of_find?_eq_some e, of_decide_eq_true (List.find?_some (p := fun kv : Key × V => decide (kv.1 = k)) e), Option.some.inj h⟩
theorem web_at {C : Addr} {H : Hp} {x : Addr} {ns : List Str} {qs : List (Str × Str)} (h : WebAt C H x ns qs) : ∃ dx l t, H x = some (.ins C dx (wf l t)) := by
  obtain ⟨dx, l, t, ts, h1, _⟩ := h
  exact ⟨dx, l, t, h1⟩
theorem all_rep {ys : List V} {n : Nat} (f : Nat → Bool) (hn : ys.length = n) (h : ∀ (i : Nat) (y : V), ys[i]? = some y → y = V.bl (f i)) : ys = ((List.range n).map f).map V.bl := by
  refine eq_map (by rw [List.length_map, List.length_range, hn]) fun i y e => ?_
  have hi : i < n := by
    rw [← hn]
    exact (List.getElem?_eq_some_iff.mp e).1
  exact ⟨f i, by rw [List.getElem?_map, List.getElem?_range hi]; rfl, h i y e⟩
theorem range_all {ns : List Str} (f : Str → Bool) : ((List.range ns.length).map fun i => f (ns[i]?.getD small)).all id = ns.all f := by
  rw [List.all_map]
  rw [Bool.eq_iff_iff, List.all_eq_true, List.all_eq_true]
  constructor
  · intro h x hx
    obtain ⟨i, hi⟩ := List.mem_iff_getElem?.mp hx
    have := h i (List.mem_range.mpr (List.getElem?_eq_some_iff.mp hi).1)
    simpa [hi] using this
  · intro h i hi
    have hlt := List.mem_range.mp hi
    have := h ns[i] (List.getElem_mem hlt)
    simpa [List.getElem?_eq_getElem hlt] using this
section
variable {P : Program} {w : World} {K : PySem.W.Frag} {mg : Str → Option Value} {base : Heap}
def spRenT (C D : Addr) : Sp := fun vs H Q E => ∃ (x d : Addr) (ns : List Str) (qs : List (Str × Str)) (kvs : List (Key × V)) (val : Str → V), vs = [.ref x, .ref d] ∧ WebAt C H x ns qs ∧ Good ns qs ∧ H d = some (.dK kvs) ∧ (∀ n ∈ ns, valV kvs (.inr n) = some (val n) ∧ ArgV H (val n)) ∧
  (ns.all (fun n => nmB (val n)) = true → ∀ l ts H', Same H H' → H' l = some (.lst ts) → Ties H' ts (qs.map (mapT fun n => unStr (val n))) → Q (.ref l) H') ∧ (ns.all (fun n => nmB (val n)) = false → ∀ H', Same H H' → E (.ref D) none H')
theorem ok_rent (T : W0 K mg) : FnOk P w K mg base (L2N.CX P w) 3 T.fRenT T.dRenT pRenT (spRenT T.cWeb T.cNoWeb) := by
  refine okN T.eRenT.fn scRenT (fun vs H Q E h => ?_) (fun cdv A outer s H vs Q E hr h tk => ?_)
  · obtain ⟨x, d, ns, qs, kvs, val, rfl, _⟩ := h
    rfl
  · obtain ⟨x, d, ns, qs, kvs, val, rfl, hw, G, hd, hv, k1, k2⟩ := h
    have hr1 := hr.mono (show 1 ≤ 2 by decide)
    have hu := hu_of hr
    refine ⟨_, pss_cons (ps_if (pt_not (pt_val (pe_callB (cr_all rfl) rfl T.z_all boot_all (pa_cons (pe_lc (own := [("point", 2)]) rfl scRenT.nd (pi_list (pe_meth0 (pv 0) T.kWeb T.mPoints (ok_points T) hr1 T.bPoints .nil pass0)) (blkOk_by (N := nRenT) (sc := defScope sRenT) (by decide +kernel))
        (fun _ _ _ _ _ => pg_name (i := 2) scRenT.nd rfl (Or.inl rfl)) (fun _ _ _ _ _ => pts_nil) (fun _ _ _ _ _ => pe_call (ok_name T) hr1 rfl T.eName.g T.eName.k T.eName.b .nil pass0 (pa_cons (pe_dget hu (pv 1) (pv 2) (fun _ _ => rfl)) pa_nil))) pa_nil)))) (pss_one (ps_rse rfl tk T.xNoWeb rfl)) pss_nil)
      (pss_one (ps_ret (pe_lc (g := gTup K 2 (gCons (gName 3) (gCons (gName 4) gNil))) (own := [("a", 3), ("b", 4)]) rfl scRenT.nd (pi_list (pe_meth0 (pv 0) T.kWeb T.mTies (ok_ties T) hr1 T.bTies .nil pass0)) (blkOk_by (N := nRenT) (sc := defScope sRenT) (by decide +kernel))
        (fun _ _ _ _ _ => pg_tup rfl (pgs_cons (pg_name (i := 3) scRenT.nd rfl (Or.inl rfl)) (pgs_cons (pg_name (i := 4) scRenT.nd rfl (Or.inl rfl)) pgs_nil))) (fun _ _ _ _ _ => pts_nil)
        (fun _ _ _ _ _ => pe_tup (pa_cons (pe_dget hu (pv 1) (pv 3) (fun _ _ => rfl)) (pa_cons (pe_dget hu (pv 1) (pv 4) (fun _ _ => rfl)) pa_nil)))))), ?_⟩
    obtain ⟨dx, lw, tw, hx⟩ := web_at hw
    refine ⟨.ref x, rfl, x, dx, _, rfl, hx, wf_no _ _ (by decide +kernel) (by decide +kernel), x, ns, qs, rfl, hw, fun l0 hl0 => ?_⟩
    have sl0 := same_new (o := .lst (ns.map V.str)) hl0
    refine ⟨l0, rfl, ⟨_, SqL.of upd_same⟩, fun D hD => lc_fil (walk_list (K := K) (a := l0) (xs := ns.map V.str)) (fun _ => true) (fun i y _ => y = .bl (nmB (val (ns[i]?.getD small)))) (fun _ _ _ _ _ h => h) hD (fun H3 s3 => SqL.of (s3 _ _ upd_same)) ?_ ?_⟩
    · rintro i y H3 H4 hi lp s3 ⟨rfl, e⟩
      obtain ⟨n, hn, rfl⟩ := vals_str e
      obtain ⟨hvn, t, ty, hl⟩ := hv n (List.mem_of_getElem? hn)
      have hi9 : i < 1000 := by have := G.nine; rw [List.length_map] at hi; omega
      have hd3 := s3 _ _ (sl0 _ _ hd)
      refine ⟨rfl, tyes ⟨_, rfl, _, rfl, d, val n, rfl, ?_, _, t, rfl, ty.same (sl0.trans s3), hl, fun H5 s5 => lp.put hi9 s5 rfl ?_⟩⟩
      · rw [← hvn]
        exact DGet.k (k := .inr n) hd3
      · rw [hn]
        rfl
    · intro H3 lp
      obtain ⟨s3, ys, hy, hn, hr2⟩ := lp.all
      have ey := all_rep (fun i => nmB (val (ns[i]?.getD small))) hn hr2
      have sH3 := sl0.trans s3
      refine ⟨D, _, rfl, SqL.of (by rw [hy, ey]), _, rfl, ?_⟩
      have ea : ((List.range (ns.map V.str).length).map fun i => nmB (val (ns[i]?.getD small))).all id = ns.all fun n => nmB (val n) := by
        rw [List.length_map]
        exact range_all fun n => nmB (val n)
      rw [ea]
      cases hb : ns.all (fun n => nmB (val n)) with
      | false => exact iteT (k2 hb H3 sH3)
      | true =>
        have hnm : ∀ n ∈ ns, val n = .str (unStr (val n)) := fun n hn => (nm_str (List.all_eq_true.mp hb n hn)).1
        have hw3 := hw.same sH3
        obtain ⟨dx, lw, tw, hx3⟩ := web_at hw3
        refine iteF ⟨.ref x, rfl, x, dx, _, rfl, hx3, wf_no _ _ (by decide +kernel) (by decide +kernel), x, ns, qs, rfl, hw3, fun l1 ts hl1 tt => ?_⟩
        have sl1 := same_new (o := .lst ts) hl1
        have tt1 := tt.same sl1
        have lt := paired_len tt
        have many := G.many
        refine ⟨l1, rfl, ⟨_, SqL.of upd_same⟩, fun D hD => lc_fil (walk_list (K := K) (a := l1) (xs := ts)) (fun _ => true) (fun i y G => ∃ q, qs[i]? = some q ∧ TieV G y (mapT (fun n => unStr (val n)) q)) (fun _ _ _ _ s ⟨q, e, t⟩ => ⟨q, e, t.same s⟩) hD (fun H5 s5 => SqL.of (s5 _ _ upd_same)) ?_ ?_⟩
        · rintro i y H5 H6 hi lp5 s5 ⟨rfl, e⟩
          obtain ⟨q, hq, Tq, rfl, hTq⟩ := paired_at tt1 e
          have okq := G.ok q (List.mem_of_getElem? hq)
          have sH5 := (sH3.trans sl1).trans s5
          have hd5 := sH5 _ _ hd
          refine ⟨Tq, _, rfl, SqT.of (s5 _ _ hTq), rfl, _, _, rfl, _, _, rfl, rfl, rfl, tyes ?_⟩
          refine ⟨_, rfl, _, rfl, d, val q.1, rfl, by rw [← (hv _ okq.1).1]; exact DGet.k (k := .inr q.1) hd5, _, rfl, _, rfl, d, val q.2, rfl, by rw [← (hv _ okq.2.1).1]; exact DGet.k (k := .inr q.2) hd5, sz1000 (show 2 ≤ 1000 by decide), fun Z hZ => ?_⟩
          obtain ⟨_, _, _, _, acc, hacc, _⟩ := id lp5
          refine lp5.put (by omega) (same_new hZ) rfl ⟨q, hq, Z, rfl, ?_⟩
          rw [rem_ne (ne_of_none hacc hZ).symm, upd_same, hnm _ okq.1, hnm _ okq.2.1]
          rfl
        · intro H5 lp5
          obtain ⟨s5, us, hus, hn5, hr5⟩ := lp5.all
          refine k1 hb D us H5 ((sH3.trans sl1).trans s5) hus (paired_of (by rw [List.length_map, hn5, lt]) fun i v q' hv' hq' => ?_)
          obtain ⟨q, hq, t⟩ := hr5 i v hv'
          rw [List.getElem?_map, hq] at hq'
          cases hq'
          exact t.same same_rem
/-- what may stand for the new names -/
def RenArg (H : Hp) (v : V) : Prop := ∃ t, Ty H v t ∧ ∀ d kvs, v = .ref d → H d = some (.dK kvs) → ∀ kv ∈ kvs, ArgV H kv.2
def spRen (C D : Addr) : Sp := fun vs H Q E => ∃ (x : Addr) (v : V) (ns : List Str) (qs : List (Str × Str)), vs = [.ref x, v] ∧ WebAt C H x ns qs ∧ Good ns qs ∧ RenArg H v ∧
  (∀ d kvs g, v = .ref d → H d = some (.dK kvs) → GoodG kvs ns g → ∀ y H', Same H H' → WebAt C H' y (ns.map g) (qs.map (mapT g)) → Q (.ref y) H') ∧
  ((∀ d kvs g, v = .ref d → H d = some (.dK kvs) → ¬ GoodG kvs ns g) → ∀ H', Same H H' → E (.ref D) none H')
theorem ok_ren (T : W0 K mg) : FnOk P w K mg base (L2N.CX P w) 5 T.fRen T.dRen pRen (spRen T.cWeb T.cNoWeb) := by
  refine okN T.eRen.fn scRen (fun vs H Q E h => ?_) (fun cdv A outer s H vs Q E hr h tk => ?_)
  · obtain ⟨x, v, ns, qs, rfl, _⟩ := h
    rfl
  · obtain ⟨x, v, ns, qs, rfl, hw, G, ⟨t, ty, hkv⟩, k1, k2⟩ := h
    have hr1 := hr.mono (show 1 ≤ 4 by decide)
    have hr3 := hr.mono (show 3 ≤ 4 by decide)
    have hu := hu_of hr
    refine ⟨_, pss_cons (ps_set (i := 2) scRen.nd rfl (Or.inl rfl) (pe_meth0 (pv 0) T.kWeb T.mPoints (ok_points T) hr1 T.bPoints .nil pass0))
      (pss_cons (ps_if (PW.pt (pw_or (pt_not (pt_val (pe_callB call_isi rfl T.z_isinstance boot_isinstance (pa_cons (pv 1) (pa_cons (pe_ty rfl T.z_dict boot_dict) pa_nil)))))
        (pw_or (pt_cmpR op_ne (pe_callB call_lenD rfl T.z_len boot_len (pa_cons (pv 1) pa_nil)) (pe_callB call_len_seq rfl T.z_len boot_len (pa_cons (pv 2) pa_nil)) (nomark _))
        (pw_or1 (pt_not (pt_val (pe_callB (cr_all rfl) rfl T.z_all boot_all (pa_cons (pe_lc (own := [("point", 3)]) rfl scRen.nd (pi_list (pv 2)) (blkOk_by (N := nRen) (sc := defScope sRen) (by decide +kernel))
          (fun _ _ _ _ _ => pg_name (i := 3) scRen.nd rfl (Or.inl rfl)) (fun _ _ _ _ _ => pts_nil) (fun _ _ _ _ _ => pe_cmp (pc_din hu (pv 3) (pv 1)) rfl)) pa_nil)))))))) (pss_one (ps_rse rfl tk T.xNoWeb rfl)) pss_nil)
      (pss_one (ps_ret (pe_make (E := E) T.mWeb (ok_init T) hr rfl T.gWeb T.bInit .nil (L2N.passes_call tk fun _ _ _ _ h => h)
        (pa_cons (pe_lc (own := [("point", 3)]) rfl scRen.nd (pi_list (pv 2)) (blkOk_by (N := nRen) (sc := defScope sRen) (by decide +kernel)) (fun _ _ _ _ _ => pg_name (i := 3) scRen.nd rfl (Or.inl rfl)) (fun _ _ _ _ _ => pts_nil) (fun _ _ _ _ _ => pe_dget hu (pv 1) (pv 3) (fun _ _ => rfl)))
        (pa_cons (pe_call (E := E) (ok_rent T) hr3 rfl T.eRenT.g T.eRenT.k T.eRenT.b .nil (L2N.passes_call tk fun _ _ _ _ h => h) (pa_cons (pv 0) (pa_cons (pv 1) pa_nil))) pa_nil)))))), ?_⟩
    obtain ⟨dx, lw, tw, hx⟩ := web_at hw
    refine ⟨.ref x, rfl, x, dx, _, rfl, hx, wf_no _ _ (by decide +kernel) (by decide +kernel), x, ns, qs, rfl, hw, fun l0 hl0 => ?_⟩
    have sl0 := same_new (o := .lst (ns.map V.str)) hl0
    refine ⟨v, rfl, v, .ty "dict", .type t, .type "dict", _, rfl, .ty _, (ty.same sl0).x, kit_dict ty, _, rfl, ?_⟩
    by_cases ht : ∃ d kvs, v = .ref d ∧ H d = some (.dK kvs)
    case neg =>
      have et : (t == "dict") = false := by
        cases ty with
        | dK e => exact absurd ⟨_, _, rfl, e⟩ ht
        | _ => rfl
      rw [et]
      exact iteT (iteT (k2 (fun d kvs g e1 e2 => absurd ⟨d, kvs, e1, e2⟩ ht) _ sl0))
    obtain ⟨d, kvs, rfl, hd⟩ := ht
    have et : (t == "dict") = true := by
      cases ty with
      | lst e => rw [hd] at e; cases e
      | tup e => rw [hd] at e; cases e
      | dK e => rfl
    rw [et]
    have only : ∀ {d' : Addr} {kvs' : List (Key × V)}, V.ref d = .ref d' → H d' = some (.dK kvs') → kvs' = kvs := fun {d' kvs'} e1 e2 => by
      cases e1
      rw [hd] at e2
      cases e2
      rfl
    have hl0' : (upd H l0 (.lst (ns.map V.str))) l0 = some (.lst (ns.map V.str)) := upd_same
    generalize upd H l0 (.lst (ns.map V.str)) = H1 at sl0 hl0' ⊢
    refine iteF ⟨.ref d, rfl, d, kvs, rfl, sl0 _ _ hd, _, rfl, l0, _, rfl, .inl (SqL.of hl0'), rfl, _, rfl, ?_⟩
    rw [List.length_map]
    by_cases hlen : kvs.length = ns.length
    case neg =>
      have e : decide (V.int ((kvs.length : Nat) : Int) = V.int ((ns.length : Nat) : Int)) = false := decide_eq_false fun z => hlen (by have := V.int.inj z; omega)
      rw [e]
      exact iteT (iteT (k2 (fun d' kvs' g e1 e2 gg => hlen (by rw [only e1 e2] at gg; exact gg.1)) _ sl0))
    have e : decide (V.int ((kvs.length : Nat) : Int) = V.int ((ns.length : Nat) : Int)) = true := decide_eq_true (by rw [hlen])
    rw [e]
    refine iteF ⟨_, rfl, l0, rfl, ⟨_, SqL.of hl0'⟩, fun D hD => lc_fil (walk_list (K := K) (a := l0) (xs := ns.map V.str)) (fun _ => true) (fun i y _ => y = .bl (valV kvs (.inr (ns[i]?.getD small))).isSome) (fun _ _ _ _ _ h => h) hD (fun H3 s3 => SqL.of (s3 _ _ hl0')) ?_ ?_⟩
    · rintro i y H3 H4 hi lp s3 ⟨rfl, e⟩
      obtain ⟨n, hn, rfl⟩ := vals_str e
      have hi9 : i < 1000 := by have := G.nine; rw [List.length_map] at hi; omega
      refine ⟨rfl, tyes ⟨_, rfl, _, rfl, d, _, rfl, DGet.k (k := .inr n) (s3 _ _ (sl0 _ _ hd)), lp.put hi9 (Same.refl _) rfl ?_⟩⟩
      rw [hn]
      rfl
    intro H3 lp
    obtain ⟨s3, ys, hy, hn, hr2⟩ := lp.all
    have ey := all_rep (fun i => (valV kvs (.inr (ns[i]?.getD small))).isSome) hn hr2
    have sH3 := sl0.trans s3
    refine ⟨D, _, rfl, SqL.of (by rw [hy, ey]), _, rfl, ?_⟩
    have ea : ((List.range (ns.map V.str).length).map fun i => (valV kvs (.inr (ns[i]?.getD small))).isSome).all id = ns.all fun n => (valV kvs (.inr n)).isSome := by
      rw [List.length_map]
      exact range_all fun n => (valV kvs (.inr n)).isSome
    rw [ea]
    cases hb : ns.all (fun n => (valV kvs (.inr n)).isSome) with
    | false =>
      refine iteT (k2 (fun d' kvs' g e1 e2 gg => ?_) H3 sH3)
      rw [only e1 e2] at gg
      have : ns.all (fun n => (valV kvs (.inr n)).isSome) = true := List.all_eq_true.mpr fun n hn => by rw [(gg.2.1 n hn).1]; rfl
      rw [hb] at this
      exact Bool.noConfusion this
    | true =>
      let val : Str → V := fun n => (valV kvs (.inr n)).getD .non
      have hval : ∀ n ∈ ns, valV kvs (.inr n) = some (val n) := fun n hn => by
        have := List.all_eq_true.mp hb n hn
        cases e : valV kvs (.inr n) with
        | none => rw [e] at this; exact Bool.noConfusion this
        | some u => show some u = some ((valV kvs (.inr n)).getD .non); rw [e]; rfl
      have harg : ∀ n ∈ ns, ArgV H (val n) := fun n hn => by
        obtain ⟨kv, hm, _, e2⟩ := valV_mem (hval n hn)
        rw [← e2]
        exact hkv d kvs rfl hd kv hm
      have hl3 := s3 _ _ hl0'
      refine iteF ⟨_, rfl, l0, rfl, ⟨_, SqL.of hl3⟩, fun D2 hD2 => lc_fil (walk_list (K := K) (a := l0) (xs := ns.map V.str)) (fun _ => true) (fun i y _ => y = val (ns[i]?.getD small)) (fun _ _ _ _ _ h => h) hD2 (fun H4 s4 => SqL.of (s4 _ _ hl3)) ?_ ?_⟩
      · rintro i y H4 H5 hi lp4 s4 ⟨rfl, e⟩
        obtain ⟨n, hn, rfl⟩ := vals_str e
        have hi9 : i < 1000 := by have := G.nine; rw [List.length_map] at hi; omega
        refine ⟨rfl, tyes ⟨_, rfl, _, rfl, d, val n, rfl, by rw [← hval n (List.mem_of_getElem? hn)]; exact DGet.k (k := .inr n) (s4 _ _ (sH3 _ _ hd)), lp4.put hi9 (Same.refl _) rfl ?_⟩⟩
        rw [hn]
        rfl
      intro H4 lp4
      obtain ⟨s4, us, hus, hn4, hr4⟩ := lp4.all
      have sH4 := sH3.trans s4
      have eus : us = ns.map val := by
        refine eq_map (by rw [hn4, List.length_map]) fun i y e => ?_
        have hi : i < ns.length := by
          have := (List.getElem?_eq_some_iff.mp e).1
          rw [hn4, List.length_map] at this
          exact this
        exact ⟨ns[i], List.getElem?_eq_getElem hi, by rw [hr4 i y e, List.getElem?_eq_getElem hi]; rfl⟩
      refine ⟨_, rfl, _, rfl, x, d, ns, qs, kvs, val, rfl, hw.same sH4, G, sH4 _ _ hd, fun n hn => ⟨hval n hn, (harg n hn).same sH4⟩, fun hall l2 ts H5 s5 hl2 tt => ?_, fun hall H5 s5 => ?_⟩
      · have hnm : ∀ n ∈ ns, val n = .str (unStr (val n)) ∧ isNm (unStr (val n)) = true := fun n hn => nm_str (List.all_eq_true.mp hall n hn)
        have eus2 : us = (ns.map fun n => unStr (val n)).map V.str := by
          rw [eus, List.map_map]
          exact List.map_congr_left fun n hn => (hnm n hn).1
        intro y dy hy0 hdy hne
        have s6 : Same H5 (upd (upd H5 dy (.own y)) y (.ins T.cWeb dy [])) := same_put (same_new hdy) hy0
        have hus5 := s6 _ _ (s5 _ _ hus)
        rw [eus2] at hus5
        refine ⟨H5, y, dy, D2, l2, ns.map (fun n => unStr (val n)), qs.map (mapT fun n => unStr (val n)), ts, rfl, s6, hy0, upd_same, hus5, s6 _ _ hl2, tt.same s6, by rw [List.length_map]; exact G.one, by rw [List.length_map]; exact G.nine, fun z hz => ?_, by rw [List.length_map]; exact G.many, fun hnd q hq => ?_, fun hnd H6 s7 hw6 => ⟨rfl, ?_⟩, fun hnd H6 s7 => ?_⟩
        · obtain ⟨n, hn, rfl⟩ := List.mem_map.mp hz
          exact (hnm n hn).2
        · obtain ⟨q0, hq0, rfl⟩ := List.mem_map.mp hq
          have ok := G.ok q0 hq0
          refine ⟨List.mem_map.mpr ⟨_, ok.1, rfl⟩, List.mem_map.mpr ⟨_, ok.2.1, rfl⟩, fun e => ok.2.2 ?_⟩
          obtain ⟨i, hi⟩ := List.mem_iff_getElem?.mp ok.1
          obtain ⟨j, hj⟩ := List.mem_iff_getElem?.mp ok.2.1
          have e' : unStr (val q0.1) = unStr (val q0.2) := e
          have := nd_ix hnd (i := i) (j := j) (x := unStr (val q0.1)) (by rw [List.getElem?_map, hi]; rfl) (by rw [List.getElem?_map, hj, e']; rfl)
          rw [this, hj] at hi
          exact (Option.some.inj hi).symm
        · exact k1 d kvs (fun n => unStr (val n)) rfl hd ⟨hlen, fun n hn => ⟨by rw [hval n hn, ← (hnm n hn).1], (hnm n hn).2⟩, hnd⟩ y H6 ((sH4.trans s5).trans s7) hw6.1
        · refine k2 (fun d' kvs' g e1 e2 gg => hnd ?_) H6 ((sH4.trans s5).trans s7)
          rw [only e1 e2] at gg
          have eg : ns.map (fun n => unStr (val n)) = ns.map g := List.map_congr_left fun n hn => by
            have e3 := (gg.2.1 n hn).1
            rw [hval n hn] at e3
            rw [Option.some.inj e3]
            rfl
          rw [eg]
          exact gg.2.2
      · refine k2 (fun d' kvs' g e1 e2 gg => ?_) H5 (sH4.trans s5)
        rw [only e1 e2] at gg
        have : ns.all (fun n => nmB (val n)) = true := List.all_eq_true.mpr fun n hn => by
          have e3 := (gg.2.1 n hn).1
          rw [hval n hn] at e3
          rw [Option.some.inj e3]
          exact (gg.2.1 n hn).2
        rw [hall] at this
        exact Bool.noConfusion this
end
end Pw

/-! are_numbers, reordered. -/
namespace Pw
open PySem PySem.Spec PyProof.Rows L2
theorem pi_or {X : Cx} {tg it : Expr} {w1 w2 : TI} (h1 : PI X tg it w1) (h2 : PI X tg it w2) : PI X tg it (fun σ H R => w1 σ H R ∨ w2 σ H R) :=
  ⟨fun pins s σ H R I h => h.elim (fun q => h1.run pins s σ H R I q) (fun q => h2.run pins s σ H R I q)⟩
/-- a row that stands at a -/
def RowAt (H : Hp) (a : Addr) (xs : List V) : Prop := H a = some (.lst xs) ∨ H a = some (.tup xs)
theorem RowAt.same {H H' : Hp} (s : Same H H') {a : Addr} {xs : List V} (h : RowAt H a xs) : RowAt H' a xs := h.elim (fun q => .inl (s _ _ q)) (fun q => .inr (s _ _ q))
theorem RowAt.sq {K : PySem.W.Frag} {H : Hp} {a : Addr} {xs : List V} (h : RowAt H a xs) : SqL K H a xs ∨ SqT K H a xs := h.elim (fun q => .inl (SqL.of q)) (fun q => .inr (SqT.of q))
theorem RowAt.inj {H : Hp} {a : Addr} {xs ys : List V} (h : RowAt H a xs) (h2 : RowAt H a ys) : xs = ys := by
  rcases h with h | h <;> rcases h2 with h2 | h2 <;> rw [h] at h2 <;> cases h2 <;> rfl
/-- what may stand for an order -/
def OrdArg (H : Hp) (v : V) : Prop := ∃ t, Ty H v t ∧ ∀ a xs, v = .ref a → RowAt H a xs → xs.length ≤ 100 ∧ ∀ y ∈ xs, ∃ t, Ty H y t
def numOk (m : Int) : V → Bool
  | .int i => decide (0 ≤ i) && decide (i < m)
  | _ => false
def NumsOk (H : Hp) (m : Int) (v : V) : Prop := ∃ (a : Addr) (is : List Int), v = .ref a ∧ RowAt H a (is.map .int) ∧ (∀ i ∈ is, 0 ≤ i ∧ i < m) ∧ is.Nodup
theorem numOk_all {m : Int} : ∀ {xs : List V}, (∀ v ∈ xs, numOk m v = true) → ∃ is : List Int, xs = is.map V.int ∧ ∀ i ∈ is, 0 ≤ i ∧ i < m
  | [], _ => ⟨[], rfl, fun i hi => absurd hi (by simp)⟩
  | v :: xs, h => by
    obtain ⟨is, e, r⟩ := numOk_all (xs := xs) fun u hu => h u (List.mem_cons_of_mem _ hu)
    have hv := h v List.mem_cons_self
    cases v with
    | int i =>
      have hv : (decide (0 ≤ i) && decide (i < m)) = true := hv
      rw [Bool.and_eq_true, decide_eq_true_eq, decide_eq_true_eq] at hv
      refine ⟨i :: is, by rw [e]; rfl, fun j hj => ?_⟩
      rcases List.mem_cons.mp hj with z | z
      · rw [z]; exact hv
      · exact r j z
    | _ => exact Bool.noConfusion hv
theorem all_at {xs : List V} (f : V → Bool) : ((List.range xs.length).map fun i => f (xs[i]?.getD .non)).all id = xs.all f := by
  rw [List.all_map, Bool.eq_iff_iff, List.all_eq_true, List.all_eq_true]
  constructor
  · intro h x hx
    obtain ⟨i, hi⟩ := List.mem_iff_getElem?.mp hx
    have := h i (List.mem_range.mpr (List.getElem?_eq_some_iff.mp hi).1)
    simpa [hi] using this
  · intro h i hi
    have hlt := List.mem_range.mp hi
    have := h xs[i] (List.getElem_mem hlt)
    simpa [List.getElem?_eq_getElem hlt] using this
theorem walk_row {K : PySem.W.Frag} {H : Hp} {a : Addr} {xs : List V} (h : RowAt H a xs) : (H a = some (.lst xs) ∧ Walk (Itl K a) xs.length (fun H => SqL K H a xs) (YAt xs)) ∨ (H a = some (.tup xs) ∧ Walk (Itt K a) xs.length (fun H => SqT K H a xs) (YAt xs)) :=
  h.elim (fun q => .inl ⟨q, walk_list⟩) (fun q => .inr ⟨q, walk_tup⟩)
section
variable {P : Program} {w : World} {K : PySem.W.Frag} {mg : Str → Option Value} {base : Heap}
def spNums : Sp := fun vs H Q _ => ∃ (m : Int) (v : V), vs = [.int m, v] ∧ OrdArg H v ∧ ∀ (b : Bool) H', Same H H' → (b = true ↔ NumsOk H m v) → Q (.bl b) H'
theorem ok_nums (T : W0 K mg) : FnOk P w K mg base CX0 2 T.fNums T.dNums pNums spNums := by
  refine T.eNums.fn.ok scNums (fun vs H Q E h => ?_) (fun cdv A outer s H vs Q E hr h => ?_)
  · obtain ⟨m, v, rfl, _⟩ := h
    rfl
  · obtain ⟨m, v, rfl, ⟨t, ty, hrow⟩, k⟩ := h
    refine ⟨_, pss_cons (ps_if (PW.pt (pw_or (pt_not (pt_val (pe_call (ok_row T) hr rfl T.eRow.g T.eRow.k T.eRow.b .nil pass0 (pa_cons (pv 1) pa_nil))))
        (pw_or1 (pt_not (pt_val (pe_callB (cr_all rfl) rfl T.z_all boot_all (pa_cons (pe_lc (own := [("one", 2)]) rfl scNums.nd (pi_or (pi_list (pv 1)) (pi_tup (pv 1))) (blkOk_by (N := nNums) (sc := defScope sNums) (by decide +kernel)) (fun _ _ _ _ _ => pg_name (i := 2) scNums.nd rfl (Or.inl rfl)) (fun _ _ _ _ _ => pts_nil)
          (fun _ _ _ _ _ => pe_and (pe_call (ok_whole T) hr rfl T.eWhole.g T.eWhole.k T.eWhole.b .nil pass0 (pa_cons (pv 2) pa_nil)) (pe_one (pe_chain op_le op_lt pe_int (pv 2) (pv 0))))) pa_nil))))))) (pss_one (ps_ret pe_bl)) pss_nil)
      (pss_one (ps_ret (pe_cmpR op_eq (pe_lenSetK rfl T.z_len rfl T.z_set (pv 1) rfl) (pe_callB call_len_seq rfl T.z_len boot_len (pa_cons (pv 1) pa_nil)) (nomark _)))), ?_⟩
    refine ⟨_, rfl, v, t, rfl, ty, fun H1 s1 => ⟨_, rfl, ?_⟩⟩
    have kno : ∀ H', Same H H' → ¬ NumsOk H m v → Q (.bl false) H' := fun H' s' no => k false H' s' ⟨fun z => Bool.noConfusion z, fun z => absurd z no⟩
    by_cases hR : ∃ a xs, v = .ref a ∧ RowAt H a xs
    case neg =>
      have et : rowT t = false := by
        cases ty with
        | lst e => exact absurd ⟨_, _, rfl, .inl e⟩ hR
        | tup e => exact absurd ⟨_, _, rfl, .inr e⟩ hR
        | _ => rfl
      rw [et]
      exact iteT (iteT (kno H1 s1 fun ⟨a, is, e, r, _⟩ => hR ⟨a, _, e, r⟩))
    obtain ⟨a, xs, rfl, hx⟩ := hR
    have et : rowT t = true := by
      cases ty with
      | lst e => rfl
      | tup e => rfl
      | dK e => rcases hx with h | h <;> rw [h] at e <;> cases e
    rw [et]
    obtain ⟨hl, hty⟩ := hrow a xs rfl hx
    have hx1 := hx.same s1
    -- behind the comprehension
    have fin : ∀ (D : Addr) (H3 : Hp), Same H1 H3 → H3 D = some (.lst (((List.range xs.length).map fun i => numOk m (xs[i]?.getD .non)).map V.bl)) → ∀ (Q' : Bool → Hp → Prop), (∀ H', Q (.bl false) H' → Q' false H') →
        (∀ H', (tOp rEq (tLenSetK K (tVar 1)) (tCB (rLen K) (tCons (tVar 1) tNil))) (L2.start nNums [.int m, .ref a]) H' Q → Q' true H') → rAll K [.ref D] H3 fun z H4 => ∃ c, z = .bl c ∧ Q' c H4 := by
      intro D H3 s3 hy Q' q1 q2
      refine ⟨D, _, rfl, SqL.of hy, _, rfl, ?_⟩
      rw [all_at (numOk m)]
      have s13 := s1.trans s3
      cases hb : xs.all (numOk m) with
      | false =>
        refine q1 _ (kno H3 s13 fun ⟨a', is, e, r, hin, _⟩ => ?_)
        cases e
        have := hx.inj r
        subst this
        have : (is.map V.int).all (numOk m) = true := List.all_eq_true.mpr fun v hv => by
          obtain ⟨i, hi, rfl⟩ := List.mem_map.mp hv
          obtain ⟨q1, q2⟩ := hin i hi
          show (decide (0 ≤ i) && decide (i < m)) = true
          rw [decide_eq_true q1, decide_eq_true q2]
          rfl
        rw [hb] at this
        exact Bool.noConfusion this
      | true =>
        obtain ⟨is, e, hin⟩ := numOk_all (m := m) (List.all_eq_true.mp hb)
        have hx3 := hx.same s13
        subst e
        refine q2 _ ⟨_, rfl, a, is.map Sum.inl, rfl, ?_, ?_, fun n hn1 hn2 => ⟨_, rfl, a, _, rfl, hx3.sq, rfl, k _ _ s13 ?_⟩⟩
        · have e2 : (is.map (Sum.inl : Int → Key)).map kV = is.map V.int := by
            rw [List.map_map]
            rfl
          rw [e2]
          exact hx3.sq
        · rw [List.length_map] at hl ⊢
          omega
        · rw [List.length_map] at hn2 ⊢
          have e3 : (is.map (Sum.inl : Int → Key)).Nodup ↔ is.Nodup := by
            rw [List.nodup_iff_pairwise_ne, List.nodup_iff_pairwise_ne, List.pairwise_map]
            exact ⟨fun h => h.imp fun q z => q (by rw [z]), fun h => h.imp fun q z => q (Sum.inl.inj z)⟩
          rw [decide_eq_true_eq]
          constructor
          · intro z
            have zz : n = is.length := by have := V.int.inj z; omega
            exact ⟨a, is, rfl, hx, hin, e3.mp (hn2.mp zz)⟩
          · rintro ⟨a', is', e, r, hin', nd⟩
            cases e
            have ei := hx.inj r
            have ei2 : is = is' := by
              have h2 := congrArg (List.map fun v => match v with | V.int i => i | _ => 0) ei
              rw [List.map_map, List.map_map] at h2
              simpa [Function.comp_def] using h2
            rw [hn2.mpr (e3.mpr (ei2 ▸ nd))]
    have turn : ∀ (D : Addr), H1 D = none → ∀ {J : It} {G : Hp → Prop} {Qd : Hp → Prop}, Walk J xs.length G (YAt xs) → (∀ H', Same H1 H' → G H') → (∀ H3, Same H1 H3 → H3 D = some (.lst (((List.range xs.length).map fun i => numOk m (xs[i]?.getD .non)).map V.bl)) → Qd H3) →
        ∃ W : Nat → Nat → Hp → Prop, (∃ m, W 0 m (upd H1 D (.lst []))) ∧ ∀ i m' H2, W i m' H2 → (J.stop i H2 ∧ Qd H2) ∨
          (J.go i H2 ∧ ∃ Nx : Hp → Prop, (∀ H', Nx H' → ∃ m'', m'' < m' ∧ W (i + 1) m'' H') ∧ ∀ x H', J.yld i H2 x H' → gName 2 x (wipe (L2.start nNums [.int m, .ref a]) [2]) H' fun σ2 H2 => wipe σ2 [2] = wipe (L2.start nNums [.int m, .ref a]) [2] ∧ tYes σ2 H2 fun b H3 =>
            if b = true then tAndV (tCall spWhole [] E0 (tCons (tVar 2) tNil)) (tChain (rI0 fun i j => .bl (decide (i ≤ j))) (rI0 fun i j => .bl (decide (i < j))) (tC (.int 0)) (tVar 2) (tVar 0)) σ2 H3 fun y H4 => ∃ acc, H4 D = some (.lst acc) ∧ acc.length < sizeLine ∧ Nx (upd H4 D (.lst (acc ++ [y]))) else Nx H3) := by
      intro D hD J G Qd wk hG hd
      refine lc_fil wk (fun _ => true) (fun i y _ => y = .bl (numOk m (xs[i]?.getD .non))) (fun _ _ _ _ _ h => h) hD hG ?_ fun H3 lp => ?_
      · rintro i y H3 H4 hi lp s3 ⟨rfl, e⟩
        obtain ⟨ty1, hy1⟩ := hty y (List.mem_of_getElem? e)
        have hi9 : i < 1000 := by omega
        refine ⟨rfl, tyes ⟨_, rfl, y, ty1, rfl, hy1.same (s1.trans s3), _, rfl, ?_⟩⟩
        cases y with
        | int z =>
          refine iteT ⟨_, rfl, _, _, rfl, rfl, _, rfl, ite2 (fun h0 => ⟨_, rfl, _, _, rfl, rfl, lp.put hi9 (Same.refl _) rfl ?_⟩) (fun h0 => lp.put hi9 (Same.refl _) rfl ?_)⟩
          · rw [e]
            show V.bl (decide (z < m)) = V.bl (decide (0 ≤ z) && decide (z < m))
            rw [h0, Bool.true_and]
          · rw [e]
            show V.bl false = V.bl (decide (0 ≤ z) && decide (z < m))
            have : decide (0 ≤ z) = false := by
              cases e2 : decide ((0 : Int) ≤ z) with
              | false => rfl
              | true => exact absurd e2 h0
            rw [this, Bool.false_and]
        | _ =>
          refine iteF (lp.put hi9 (Same.refl _) rfl ?_)
          rw [e]
          rfl
      · obtain ⟨s3, ys, hy, hn, hr2⟩ := lp.all
        exact hd H3 s3 (by rw [hy, all_rep (fun i => numOk m (xs[i]?.getD .non)) hn hr2])
    refine iteF ?_
    rcases walk_row (K := K) hx1 with ⟨hq, wk⟩ | ⟨hq, wk⟩
    · exact .inl ⟨_, rfl, a, rfl, ⟨_, SqL.of hq⟩, fun D hD => turn D hD wk (fun H' s' => SqL.of (s' _ _ hq)) fun H3 s3 hy => fin D H3 s3 hy _ (fun _ q => iteT q) (fun _ q => iteF q)⟩
    · exact .inr ⟨_, rfl, a, rfl, ⟨_, SqT.of hq⟩, fun D hD => turn D hD wk (fun H' s' => SqT.of (s' _ _ hq)) fun H3 s3 hy => fin D H3 s3 hy _ (fun _ q => iteT q) (fun _ q => iteF q)⟩
end
end Pw

/-! reordered. -/
namespace Pw
open PySem PySem.Spec PyProof.Rows L2
def pickQ (qs : List (Str × Str)) (is : List Int) : List (Str × Str) := is.map fun i => (qs[i.toNat]?).getD (small, small)
def GoodO (H : Hp) (n : Nat) (v : V) (is : List Int) : Prop := ∃ a, v = .ref a ∧ RowAt H a (is.map .int) ∧ is.length = n ∧ (∀ i ∈ is, 0 ≤ i ∧ i < (n : Int)) ∧ is.Nodup
theorem pick_at {qs : List (Str × Str)} {i : Int} (h0 : 0 ≤ i) (h1 : i < (qs.length : Int)) : qs[i.toNat]? = some ((qs[i.toNat]?).getD (small, small)) := by
  rw [List.getElem?_eq_getElem (show i.toNat < qs.length by omega)]
  rfl
section
variable {P : Program} {w : World} {K : PySem.W.Frag} {mg : Str → Option Value} {base : Heap}
def spReo (C D : Addr) : Sp := fun vs H Q E => ∃ (x : Addr) (v : V) (ns : List Str) (qs : List (Str × Str)), vs = [.ref x, v] ∧ WebAt C H x ns qs ∧ Good ns qs ∧ OrdArg H v ∧
  (∀ is, GoodO H qs.length v is → ∀ y H', Same H H' → WebNew C H H' y ns (pickQ qs is) → Q (.ref y) H') ∧ ((∀ is, ¬ GoodO H qs.length v is) → ∀ H', Same H H' → E (.ref D) none H')
theorem ok_reo (T : W0 K mg) : FnOk P w K mg base (L2N.CX P w) 5 T.fReo T.dReo pReo (spReo T.cWeb T.cNoNumbers) := by
  refine okN T.eReo.fn scReo (fun vs H Q E h => ?_) (fun cdv A outer s H vs Q E hr h tk => ?_)
  · obtain ⟨x, v, ns, qs, rfl, _⟩ := h
    rfl
  · obtain ⟨x, v, ns, qs, rfl, hw, G, ho, k1, k2⟩ := h
    have hr1 := hr.mono (show 1 ≤ 4 by decide)
    have hr2 := hr.mono (show 2 ≤ 4 by decide)
    refine ⟨_, pss_cons (ps_if (PW.pt (pw_or (pt_not (pt_val (pe_call (ok_nums T) hr2 rfl T.eNums.g T.eNums.k T.eNums.b .nil pass0 (pa_cons (pe_meth0 (pv 0) T.kWeb T.mMany (ok_many T) hr1 T.bMany .nil pass0) (pa_cons (pv 1) pa_nil)))))
        (pw_or1 (pt_cmpR op_ne (pe_callB call_len_seq rfl T.z_len boot_len (pa_cons (pv 1) pa_nil)) (pe_meth0 (pv 0) T.kWeb T.mMany (ok_many T) hr1 T.bMany .nil pass0) (nomark _))))) (pss_one (ps_rse rfl tk T.xNoNumbers rfl)) pss_nil)
      (pss_cons (ps_set (i := 2) scReo.nd rfl (Or.inr rfl) (pe_meth0 (pv 0) T.kWeb T.mTies (ok_ties T) hr1 T.bTies .nil pass0))
      (pss_one (ps_ret (pe_make (E := E) T.mWeb (ok_init T) hr rfl T.gWeb T.bInit .nil (L2N.passes_call tk fun _ _ _ _ h => h)
        (pa_cons (pe_meth0 (pv 0) T.kWeb T.mPoints (ok_points T) hr1 T.bPoints .nil pass0)
        (pa_cons (pe_lc (te := tOp (rIx K) (tVar 2) (tVar 3)) (own := [("k", 3)]) rfl scReo.nd (pi_or (pi_list (pv 1)) (pi_tup (pv 1))) (blkOk_by (N := nReo) (sc := defScope sReo) (by decide +kernel)) (fun _ _ _ _ _ => pg_name (i := 3) scReo.nd rfl (Or.inl rfl)) (fun _ _ _ _ _ => pts_nil)
          (fun _ _ _ _ _ => pe_ix ix_seq (pv 2) (pv 3) (fun _ _ => rfl))) pa_nil)))))), ?_⟩
    obtain ⟨dx, lw, tw, hx⟩ := web_at hw
    refine ⟨.ref x, rfl, x, dx, _, rfl, hx, wf_no _ _ (by decide +kernel) (by decide +kernel), x, ns, qs, rfl, hw, v, rfl, _, v, rfl, ho, fun b H1 s1 hb => ⟨_, rfl, ?_⟩⟩
    cases b with
    | false =>
      refine iteT (iteT (k2 (fun is ⟨a, e, r, hl, hin, nd⟩ => ?_) H1 s1))
      exact Bool.noConfusion (hb.mpr ⟨a, is, e, r, hin, nd⟩)
    | true =>
      obtain ⟨a, is, rfl, r, hin, nd⟩ := hb.mp rfl
      have r1 := r.same s1
      have hx1 := s1 _ _ hx
      refine iteF ⟨.ref a, rfl, a, _, rfl, r1.sq, .ref x, rfl, x, dx, _, rfl, hx1, wf_no _ _ (by decide +kernel) (by decide +kernel), x, ns, qs, rfl, hw.same s1, rfl, _, rfl, ?_⟩
      rw [List.length_map]
      by_cases hl : is.length = qs.length
      case neg =>
        have e : decide (V.int ((is.length : Nat) : Int) = V.int ((qs.length : Nat) : Int)) = false := decide_eq_false fun z => hl (by have := V.int.inj z; omega)
        rw [e]
        refine iteT (k2 (fun is' ⟨a', e', r', hl', _⟩ => hl ?_) H1 s1)
        cases e'
        have := congrArg List.length (r.inj r')
        rw [List.length_map, List.length_map] at this
        omega
      have e : decide (V.int ((is.length : Nat) : Int) = V.int ((qs.length : Nat) : Int)) = true := decide_eq_true (by rw [hl])
      rw [e]
      have many := G.many
      refine iteF ⟨.ref x, rfl, x, dx, _, rfl, hx1, wf_no _ _ (by decide +kernel) (by decide +kernel), x, ns, qs, rfl, hw.same s1, fun lt ts hlt tt => ?_⟩
      have s2 := same_new (o := .lst ts) hlt
      have hT2 : (upd H1 lt (.lst ts)) lt = some (.lst ts) := upd_same
      have tt2 := tt.same s2
      have ltt := paired_len tt
      generalize upd H1 lt (.lst ts) = H2 at s2 hT2 tt2 ⊢
      have s12 := s1.trans s2
      refine ⟨.ref x, rfl, x, dx, _, rfl, s12 _ _ hx, wf_no _ _ (by decide +kernel) (by decide +kernel), x, ns, qs, rfl, hw.same s12, fun lp hlp => ?_⟩
      have s3 := same_new (o := .lst (ns.map V.str)) hlp
      have hP3 : (upd H2 lp (.lst (ns.map V.str))) lp = some (.lst (ns.map V.str)) := upd_same
      generalize upd H2 lp (.lst (ns.map V.str)) = H3 at s3 hP3 ⊢
      have s123 := s12.trans s3
      have hT3 := s3 _ _ hT2
      have tt3 := tt2.same s3
      have r3 := r.same s123
      have GO : GoodO H qs.length (.ref a) is := ⟨a, rfl, r, hl, hin, nd⟩
      have fin : ∀ (D : Addr) (us : List V) (H4 : Hp), Same H3 H4 → H4 D = some (.lst us) → Ties H4 us (pickQ qs is) → ∀ y dy, H4 y = none → H4 dy = none → dy ≠ y →
          spInit T.cWeb T.cNoWeb [.ref y, .ref lp, .ref D] (upd (upd H4 dy (.own y)) y (.ins T.cWeb dy [])) (fun v H2 => v = .non ∧ Q (.ref y) H2) E := by
        intro D us H4 s4 hD tu y dy hy0 hdy hne
        have s5 : Same H4 (upd (upd H4 dy (.own y)) y (.ins T.cWeb dy [])) := same_put (same_new hdy) hy0
        refine ⟨H4, y, dy, lp, D, ns, pickQ qs is, us, rfl, s5, hy0, upd_same, s5 _ _ (s4 _ _ hP3), s5 _ _ hD, tu.same s5, G.one, G.nine, G.nm, by unfold pickQ; rw [List.length_map]; omega, fun _ q hq => ?_, fun _ H6 s6 hw6 => ⟨rfl, k1 is GO y H6 ((s123.trans s4).trans s6) ⟨hw6.1, fun o xs ho => hw6.2 o xs ((s123.trans s4) _ _ ho)⟩⟩, fun no => absurd G.nd no⟩
        obtain ⟨i, hi, rfl⟩ := List.mem_map.mp hq
        exact G.ok _ (List.mem_of_getElem? (pick_at (hin i hi).1 (hin i hi).2))
      have turn : ∀ (D : Addr), H3 D = none → ∀ {J : It} {GG : Hp → Prop} {Qd : Hp → Prop}, Walk J (is.map V.int).length GG (YAt (is.map V.int)) → (∀ H', Same H3 H' → GG H') → (∀ us H4, Same H3 H4 → H4 D = some (.lst us) → Ties H4 us (pickQ qs is) → Qd H4) →
          ∃ W : Nat → Nat → Hp → Prop, (∃ m, W 0 m (upd H3 D (.lst []))) ∧ ∀ i m' H2, W i m' H2 → (J.stop i H2 ∧ Qd H2) ∨
            (J.go i H2 ∧ ∃ Nx : Hp → Prop, (∀ H', Nx H' → ∃ m'', m'' < m' ∧ W (i + 1) m'' H') ∧ ∀ x' H', J.yld i H2 x' H' → gName 3 x' (wipe [some (.ref x), some (.ref a), some (.ref lt), none] [3]) H' fun σ2 H2 => wipe σ2 [3] = wipe [some (.ref x), some (.ref a), some (.ref lt), none] [3] ∧ tYes σ2 H2 fun b H3 =>
              if b = true then tOp (rIx K) (tVar 2) (tVar 3) σ2 H3 fun y H4 => ∃ acc, H4 D = some (.lst acc) ∧ acc.length < sizeLine ∧ Nx (upd H4 D (.lst (acc ++ [y]))) else Nx H3) := by
        intro D hD J GG Qd wk hG hd
        refine lc_fil wk (fun _ => true) (fun i y _ => ∃ j, is[i]? = some j ∧ ts[j.toNat]? = some y) (fun _ _ _ _ _ h => h) hD hG ?_ fun H4 lp4 => ?_
        · rintro i y H4 H5 hi lp4 s4 ⟨rfl, e⟩
          obtain ⟨j, hj, rfl⟩ : ∃ j, is[i]? = some j ∧ y = .int j := by
            have e : (is.map V.int)[i]? = some y := e
            rw [List.getElem?_map] at e
            cases e2 : is[i]? with
            | none => rw [e2] at e; cases e
            | some j => rw [e2] at e; exact ⟨j, rfl, (Option.some.inj e).symm⟩
          obtain ⟨j0, j1⟩ := hin j (List.mem_of_getElem? hj)
          have hjt : j.toNat < ts.length := by omega
          have hi9 : i < 1000 := by rw [List.length_map] at hi; omega
          exact ⟨rfl, tyes ⟨_, rfl, _, rfl, .inl ⟨lt, ts, j, ts[j.toNat], rfl, rfl, SqL.of (s4 _ _ hT3), at_of (j := j.toNat) (by omega) (List.getElem?_eq_getElem hjt), lp4.put hi9 (Same.refl _) rfl ⟨j, hj, List.getElem?_eq_getElem hjt⟩⟩⟩⟩
        · obtain ⟨s4, us, hus, hn4, hr4⟩ := lp4.all
          refine hd us H4 s4 hus (paired_of (by unfold pickQ; rw [hn4, List.length_map, List.length_map]) fun i v q hv hq => ?_)
          obtain ⟨j, hj, hjt⟩ := hr4 i v hv
          unfold pickQ at hq
          rw [List.getElem?_map, hj] at hq
          have hq := Option.some.inj hq
          obtain ⟨q', hq', tv⟩ := paired_at (tt3.same s4) hjt
          have hq : (qs[j.toNat]?).getD (small, small) = q := hq
          rw [hq'] at hq
          have hq : q' = q := hq
          rw [← hq]
          exact tv
      rcases walk_row (K := K) r3 with ⟨hq, wk⟩ | ⟨hq, wk⟩
      · exact .inl ⟨_, rfl, a, rfl, ⟨_, SqL.of hq⟩, fun D hD => turn D hD wk (fun H' s' => SqL.of (s' _ _ hq)) fun us H4 s4 hD4 tu => fin D us H4 s4 hD4 tu⟩
      · exact .inr ⟨_, rfl, a, rfl, ⟨_, SqT.of hq⟩, fun D hD => turn D hD wk (fun H' s' => SqT.of (s' _ _ hq)) fun us H4 s4 hD4 tu => fin D us H4 s4 hD4 tu⟩
end
end Pw

/-! _law_new_names, _law_is. -/
namespace Pw
open PySem PySem.Spec PyProof.Rows L2
/-! ### dicts of names -/
theorem putK_new {kvs : List (Key × V)} {k : Key} {v : V} (h : ∀ kv ∈ kvs, kv.1 ≠ k) : putK kvs k v = kvs ++ [(k, v)] := by
  unfold putK
  rw [if_neg]
  intro z
  obtain ⟨kv, hm, e⟩ := List.any_eq_true.mp z
  exact h kv hm (of_decide_eq_true e)
theorem mergeK_app : ∀ {more kvs : List (Key × V)}, ((kvs ++ more).map (·.1)).Nodup → mergeK kvs more = kvs ++ more
  | [], kvs, _ => by rw [List.append_nil]; rfl
  | kv :: more, kvs, h => by
    have e : kvs ++ kv :: more = (kvs ++ [kv]) ++ more := by rw [List.append_assoc]; rfl
    have hn : ∀ kv' ∈ kvs, kv'.1 ≠ kv.1 := fun kv' hm z => by
      rw [List.map_append, List.map_cons, List.nodup_append] at h
      exact h.2.2 kv'.1 (List.mem_map.mpr ⟨kv', hm, rfl⟩) kv.1 List.mem_cons_self z
    show mergeK (putK kvs kv.1 kv.2) more = _
    rw [putK_new hn, mergeK_app (by rw [← e]; exact h), ← e]
theorem mergeK_nil {kvs : List (Key × V)} (h : (kvs.map (·.1)).Nodup) : mergeK [] kvs = kvs := mergeK_app (kvs := []) h
/-- the dict that gives n the name f n -/
def dictOf (ns : List Str) (f : Str → V) : List (Key × V) := ns.map fun n => (.inr n, f n)
theorem dictOf_keys {ns : List Str} {f : Str → V} (h : ns.Nodup) : ((dictOf ns f).map (·.1)).Nodup := by
  unfold dictOf
  rw [List.map_map, List.nodup_iff_pairwise_ne, List.pairwise_map]
  exact (List.nodup_iff_pairwise_ne.mp h).imp fun q z => q (Sum.inr.inj z)
theorem valV_dictOf {f : Str → V} : ∀ {ns : List Str} {n : Str}, n ∈ ns → valV (dictOf ns f) (.inr n) = some (f n)
  | [], n, h => absurd h (by simp)
  | m :: ns, n, h => by
    by_cases e : m = n
    · subst e
      unfold valV dictOf
      rw [List.map_cons, List.find?_cons_of_pos (by simp)]
      rfl
    · have ne : ¬ ((Sum.inr m : Key) = .inr n) := fun z => e (Sum.inr.inj z)
      have ih := valV_dictOf (f := f) (ns := ns) (n := n) ((List.mem_cons.mp h).resolve_left (Ne.symm e))
      unfold valV dictOf at ih ⊢
      rw [List.map_cons, List.find?_cons_of_neg (by simpa using ne)]
      exact ih
theorem ex_g : ∀ {ns ms : List Str}, ns.Nodup → ns.length = ms.length → ∃ g : Str → Str, ns.map g = ms
  | [], [], _, _ => ⟨id, rfl⟩
  | [], _ :: _, _, h => by simp at h
  | _ :: _, [], _, h => by simp at h
  | n :: ns, m :: ms, hn, h => by
    obtain ⟨g, e⟩ := ex_g (ns := ns) (ms := ms) (List.nodup_cons.mp hn).2 (by simpa using h)
    refine ⟨fun x => if x = n then m else g x, ?_⟩
    rw [List.map_cons, if_pos rfl]
    congr 1
    rw [← e]
    exact List.map_congr_left fun x hx => if_neg fun (z : x = n) => (List.nodup_cons.mp hn).1 (by rw [← z]; exact hx)
theorem zip_dictOf (ns : List Str) (g : Str → Str) : (ns.map (Sum.inr : Str → Key)).zip ((ns.map g).map V.str) = dictOf ns fun n => .str (g n) := by
  rw [List.map_map]
  exact List.zip_map' ..
theorem goodG_of {ns : List Str} {g : Str → Str} (h1 : ∀ n ∈ ns, isNm (g n) = true) (h2 : (ns.map g).Nodup) : GoodG (dictOf ns fun n => .str (g n)) ns g :=
  ⟨by unfold dictOf; rw [List.length_map], fun n hn => ⟨valV_dictOf hn, h1 n hn⟩, h2⟩
/-! ### data that is alike -/
theorem small_lt : ∀ c ∈ small.cps.toList, c < 1114112 := by decide +kernel
theorem strOk_nm {x : Str} (h : isNm x = true) : PyData.strOk x = true := by
  unfold isNm at h
  simp only [Bool.and_eq_true] at h
  have h3 := List.all_eq_true.mp h.2
  show (x.cps.all (· < 0x110000)) = true
  rw [← Array.all_toList, List.all_eq_true]
  intro c hc
  have := h3 _ (List.mem_map.mpr ⟨c, hc, rfl⟩)
  exact decide_eq_true (small_lt c (of_decide_eq_true this))
def dNm (ns : List Str) : PyData := .list (ns.map PyData.str)
def dTs (qs : List (Str × Str)) : PyData := .list (qs.map fun q => .tuple [.str q.1, .str q.2])
theorem lay_nms : ∀ {ns : List Str}, (∀ x ∈ ns, isNm x = true) → PyData.canLayAll0 (ns.map PyData.str) = true
  | [], _ => rfl
  | n :: ns, h => by
    rw [List.map_cons]
    show (PyData.canLay0 (.str n) && PyData.canLayAll0 (ns.map PyData.str)) = true
    rw [lay_nms fun x hx => h x (List.mem_cons_of_mem _ hx), Bool.and_true]
    exact strOk_nm (h n List.mem_cons_self)
theorem lay_ts : ∀ {qs : List (Str × Str)}, (∀ q ∈ qs, isNm q.1 = true ∧ isNm q.2 = true) → PyData.canLayAll0 (qs.map fun q => PyData.tuple [.str q.1, .str q.2]) = true
  | [], _ => rfl
  | q :: qs, h => by
    rw [List.map_cons]
    show (PyData.canLay0 (.tuple [.str q.1, .str q.2]) && PyData.canLayAll0 (qs.map fun q => PyData.tuple [.str q.1, .str q.2])) = true
    rw [lay_ts fun x hx => h x (List.mem_cons_of_mem _ hx), Bool.and_true]
    obtain ⟨h1, h2⟩ := h q List.mem_cons_self
    exact lay_nms (ns := [q.1, q.2]) fun x hx => by
      rcases List.mem_cons.mp hx with z | z
      · rw [z]; exact h1
      · rw [List.mem_singleton.mp z]; exact h2
theorem dep_nms : ∀ (ns : List Str), PyData.depthAll (ns.map PyData.str) ≤ 1
  | [] => by simp [PyData.depthAll]
  | n :: ns => by
    have := dep_nms ns
    simp only [List.map_cons, PyData.depthAll, PyData.depth]
    omega
theorem dep_ts : ∀ (qs : List (Str × Str)), PyData.depthAll (qs.map fun q => PyData.tuple [.str q.1, .str q.2]) ≤ 3
  | [] => by simp [PyData.depthAll]
  | q :: qs => by
    have := dep_ts qs
    simp only [List.map_cons, PyData.depthAll, PyData.depth]
    omega
theorem shaped_nms {ns : List Str} (h : ∀ x ∈ ns, isNm x = true) : SeqAt.shaped (dNm ns) = true := by
  have := dep_nms ns
  unfold SeqAt.shaped dNm
  rw [Bool.and_eq_true, decide_eq_true_eq]
  refine ⟨lay_nms h, ?_⟩
  simp only [PyData.depth]
  omega
theorem shaped_ts {qs : List (Str × Str)} (h : ∀ q ∈ qs, isNm q.1 = true ∧ isNm q.2 = true) : SeqAt.shaped (dTs qs) = true := by
  have := dep_ts qs
  unfold SeqAt.shaped dTs
  rw [Bool.and_eq_true, decide_eq_true_eq]
  refine ⟨lay_ts h, ?_⟩
  simp only [PyData.depth]
  omega
theorem dp_nms {K : PySem.W.Frag} {H : Hp} : ∀ (ns : List Str), DpAll K H (ns.map V.str) (ns.map PyData.str)
  | [] => .nil
  | n :: ns => .cons (.str n) (dp_nms ns)
theorem dp_ts {K : PySem.W.Frag} {H : Hp} : ∀ {ts : List V} {qs : List (Str × Str)}, Ties H ts qs → DpAll K H ts (qs.map fun q => .tuple [.str q.1, .str q.2])
  | _, _, .nil => .nil
  | _, _, .cons ⟨_, e, h⟩ p => .cons (by rw [e]; exact .tup (SqT.of h) (.cons (.str _) (.cons (.str _) .nil))) (dp_ts p)
section
variable {P : Program} {w : World} {K : PySem.W.Frag} {mg : Str → Option Value} {base : Heap}
def spNew : Sp := fun vs H Q _ => ∃ (p l : Addr) (ns : List Str), vs = [.ref p, .ref l] ∧ PotAt p H ∧ rem p H l = some (.lst (ns.map .str)) ∧ 1 ≤ ns.length ∧ ns.length ≤ 9 ∧ ns.Nodup ∧ (∀ x ∈ ns, isNm x = true) ∧
  ∀ d g H', rem p H d = none → PotAt p H' → Same (rem p H) (rem p H') → rem p H' d = some (.dK (dictOf ns fun n => .str (g n))) → (∀ n ∈ ns, isNm (g n) = true) → (ns.map g).Nodup → Q (.ref d) H'
theorem ok_new (T : W0 K mg) : FnOk P w K mg base CX0 3 T.fNew T.dNew pNew spNew := by
  refine T.eNew.fn.ok scNew (fun vs H Q E h => ?_) (fun cdv A outer s H vs Q E hr h => ?_)
  · obtain ⟨p, l, ns, rfl, _⟩ := h
    rfl
  · obtain ⟨p, l, ns, rfl, hp, hl, n1, n9, hnd, hnm, k⟩ := h
    have hr1 := hr.mono (show 1 ≤ 2 by decide)
    refine ⟨_, pss_cons (ps_if (pt_cmpR op_eq (pe_call (ok_take T) hr1 rfl T.eTake.g T.eTake.k T.eTake.b .nil pass0 (pa_cons (pv 0) (pa_cons pe_int pa_nil))) pe_int (nomark _))
        (pss_one (ps_ret (pe_dictZip rfl rfl T.z_dict rfl T.z_zip (pa_cons (pv 1) (pa_cons (pe_call (ok_mixed T) hr rfl T.eMixed.g T.eMixed.k T.eMixed.b .nil pass0 (pa_cons (pv 0) (pa_cons (pv 1) pa_nil))) pa_nil))))) pss_nil)
      (pss_one (ps_ret (pe_dictZip rfl rfl T.z_dict rfl T.z_zip (pa_cons (pv 1) (pa_cons (pe_call (ok_lnames T) hr rfl T.eLNames.g T.eLNames.k T.eLNames.b .nil pass0 (pa_cons (pv 0) (pa_cons (pe_callB call_len_seq rfl T.z_len boot_len (pa_cons (pv 1) pa_nil)) pa_nil))) pa_nil))))), ?_⟩
    have fin : ∀ (m : Addr) (ms : List Str) (H3 : Hp), PotAt p H3 → Same (rem p H) (rem p H3) → rem p H3 m = some (.lst (ms.map .str)) → ms.length = ns.length → ms.Nodup → (∀ x ∈ ms, isNm x = true) →
        ∃ (a b : Addr) (ks : List Key) (ys : List V), [V.ref l, V.ref m] = [.ref a, .ref b] ∧ SqL K H3 a (ks.map kV) ∧ SqL K H3 b ys ∧ ks.length = ys.length ∧ ∀ d, H3 d = none → Q (.ref d) (upd H3 d (.dK (mergeK [] (ks.zip ys)))) := by
      intro m ms H3 hp3 s3 hm hlen hnd2 hnm2
      obtain ⟨g, rfl⟩ := ex_g hnd hlen.symm
      refine ⟨l, m, ns.map Sum.inr, (ns.map g).map V.str, rfl, SqL.of ?_, SqL.of (of_rem hm).2, by rw [List.length_map, List.length_map, List.length_map], fun d hd => ?_⟩
      · rw [List.map_map]
        exact (of_rem (s3 _ _ hl)).2
      · have ndp := hp3.ne hd
        rw [zip_dictOf, mergeK_nil (dictOf_keys hnd)]
        refine k d g _ (s3.free (rem_fresh hd)) (hp3.new hd) ?_ (by rw [rem_ne ndp, upd_same]) (fun n hn => hnm2 _ (List.mem_map.mpr ⟨n, hn, rfl⟩)) hnd2
        rw [rem_upd_ne ndp]
        exact s3.trans (same_new (rem_fresh hd))
    refine ⟨_, rfl, p, _, rfl, hp, by decide, by decide, fun d H1 d0 d1 hp1 s1 => ⟨rfl, _, rfl, ite2 (fun _ => ?_) (fun _ => ?_)⟩⟩
    · refine ⟨_, rfl, _, rfl, _, rfl, p, l, _, rfl, hp1, s1 _ _ hl, by rw [List.length_map]; omega, fun m ys H2 hm hp2 s2 hY pm => ?_⟩
      obtain ⟨ms, rfl, pms⟩ := perm_str pm
      exact fin m ms H2 hp2 (s1.trans s2) hY pms.length_eq (pms.nodup_iff.mpr hnd) fun x hx => hnm x (pms.mem_iff.mp hx)
    · refine ⟨_, rfl, _, rfl, _, rfl, l, _, rfl, .inl (SqL.of (of_rem (s1 _ _ hl)).2), p, ns.length, by rw [List.length_map]; rfl, hp1, n1, n9, fun m ms H2 hm hp2 s2 hM hlm hnd2 hnm2 => ?_⟩
      exact fin m ms H2 hp2 (s1.trans s2) hM hlm hnd2 hnm2
def spIs (C : Addr) : Sp := fun vs H Q _ => ∃ (x l t : Addr) (ns : List Str) (qs : List (Str × Str)) (ts : List V), vs = [.ref x, .ref l, .ref t] ∧ WebAt C H x ns qs ∧ Good ns qs ∧ H l = some (.lst (ns.map .str)) ∧ H t = some (.lst ts) ∧ Ties H ts qs ∧ ∀ H', Same H H' → Q (.bl true) H'
theorem Good.tn {ns : List Str} {qs : List (Str × Str)} (G : Good ns qs) : ∀ q ∈ qs, isNm q.1 = true ∧ isNm q.2 = true := fun q hq => ⟨G.nm _ (G.ok q hq).1, G.nm _ (G.ok q hq).2.1⟩
theorem ok_is (T : W0 K mg) : FnOk P w K mg base CX0 2 T.fIs T.dIs pIs (spIs T.cWeb) := by
  refine T.eIs.fn.ok scIs (fun vs H Q E h => ?_) (fun cdv A outer s H vs Q E hr h => ?_)
  · obtain ⟨x, l, t, ns, qs, ts, rfl, _⟩ := h
    rfl
  · obtain ⟨x, l, t, ns, qs, ts, rfl, hw, G, hl, ht, tt, k⟩ := h
    refine ⟨_, pss_one (ps_ret (pe_and (pe_cmpR (op_eqD hr.units) (pe_meth0 (pv 0) T.kWeb T.mPoints (ok_points T) hr T.bPoints .nil pass0) (pv 1) (nomark _))
      (pe_one (pe_cmpR (op_eqD hr.units) (pe_meth0 (pv 0) T.kWeb T.mTies (ok_ties T) hr T.bTies .nil pass0) (pv 2) (nomark _))))), ?_⟩
    obtain ⟨dx, lw, tw, hx⟩ := web_at hw
    have e1 : PyData.eqv (dNm ns) (dNm ns) = true := SeqAt.eqv_refl _ (SeqAt.canLay_of_shaped (shaped_nms G.nm))
    have e2 : PyData.eqv (dTs qs) (dTs qs) = true := SeqAt.eqv_refl _ (SeqAt.canLay_of_shaped (shaped_ts G.tn))
    refine ⟨.ref x, rfl, x, dx, _, rfl, hx, wf_no _ _ (by decide +kernel) (by decide +kernel), x, ns, qs, rfl, hw, fun l1 hl1 => ?_⟩
    have s1 := same_new (o := .lst (ns.map V.str)) hl1
    have hL1 : (upd H l1 (.lst (ns.map V.str))) l1 = some (.lst (ns.map V.str)) := upd_same
    generalize upd H l1 (.lst (ns.map V.str)) = H1 at s1 hL1 ⊢
    refine ⟨_, rfl, dNm ns, dNm ns, .lst (SqL.of hL1) (dp_nms ns), .lst (SqL.of (s1 _ _ hl)) (dp_nms ns), shaped_nms G.nm, shaped_nms G.nm, _, rfl, ?_⟩
    rw [e1]
    refine iteT ⟨.ref x, rfl, x, dx, _, rfl, s1 _ _ hx, wf_no _ _ (by decide +kernel) (by decide +kernel), x, ns, qs, rfl, hw.same s1, fun t1 us ht1 tu => ?_⟩
    have s2 := same_new (o := .lst us) ht1
    have hT1 : (upd H1 t1 (.lst us)) t1 = some (.lst us) := upd_same
    have tu2 := tu.same s2
    generalize upd H1 t1 (.lst us) = H2 at s2 hT1 tu2 ⊢
    have s12 := s1.trans s2
    refine ⟨_, rfl, dTs qs, dTs qs, .lst (SqL.of hT1) (dp_ts tu2), .lst (SqL.of (s12 _ _ ht)) (dp_ts (tt.same s12)), shaped_ts G.tn, shaped_ts G.tn, ?_⟩
    rw [e2]
    exact k _ s12
end
end Pw

/-! _law_renamed_right. -/
namespace Pw
open PySem PySem.Spec PyProof.Rows L2
theorem rem_of {H : Hp} {d a : Addr} {o u : HO} (hd : H d = some u) (h : H a = some o) (ne : o ≠ u) : rem d H a = some o := by
  rw [rem_ne (ne_of h hd ne)]
  exact h
theorem web_rem {C d : Addr} {H : Hp} {x : Addr} {ns : List Str} {qs : List (Str × Str)} {kvs : List (Key × V)} (hd : H d = some (.dK kvs)) (h : WebAt C H x ns qs) : WebAt C (rem d H) x ns qs := by
  obtain ⟨dx, l, t, ts, h1, h2, h3, h4⟩ := h
  exact ⟨dx, l, t, ts, rem_of hd h1 (by intro z; cases z), rem_of hd h2 (by intro z; cases z), rem_of hd h3 (by intro z; cases z), Paired.mapP h4 fun v q ⟨T, e, hT⟩ => ⟨T, e, rem_of hd hT (by intro z; cases z)⟩⟩
theorem ties_rem {d : Addr} {H : Hp} {ts : List V} {qs : List (Str × Str)} {kvs : List (Key × V)} (hd : H d = some (.dK kvs)) (h : Ties H ts qs) : Ties (rem d H) ts qs :=
  Paired.mapP h fun v q ⟨T, e, hT⟩ => ⟨T, e, rem_of hd hT (by intro z; cases z)⟩
theorem nodup_map_inj {g : Str → Str} {ns : List Str} (h : (ns.map g).Nodup) {a b : Str} (ha : a ∈ ns) (hb : b ∈ ns) (e : g a = g b) : a = b := by
  obtain ⟨i, hi⟩ := List.mem_iff_getElem?.mp ha
  obtain ⟨j, hj⟩ := List.mem_iff_getElem?.mp hb
  have := nd_ix h (i := i) (j := j) (x := g a) (by rw [List.getElem?_map, hi]; rfl) (by rw [List.getElem?_map, hj, e]; rfl)
  rw [this, hj] at hi
  exact (Option.some.inj hi).symm
theorem Good.map {ns : List Str} {qs : List (Str × Str)} {g : Str → Str} (G : Good ns qs) (hg : ∀ n ∈ ns, isNm (g n) = true) (nd : (ns.map g).Nodup) : Good (ns.map g) (qs.map (mapT g)) where
  one := by rw [List.length_map]; exact G.one
  nine := by rw [List.length_map]; exact G.nine
  nm := fun x hx => by
    obtain ⟨n, hn, rfl⟩ := List.mem_map.mp hx
    exact hg n hn
  nd := nd
  many := by rw [List.length_map]; exact G.many
  ok := fun q hq => by
    obtain ⟨r, hr, rfl⟩ := List.mem_map.mp hq
    have o := G.ok r hr
    exact ⟨List.mem_map.mpr ⟨_, o.1, rfl⟩, List.mem_map.mpr ⟨_, o.2.1, rfl⟩, fun e => o.2.2 (nodup_map_inj nd o.1 o.2.1 e)⟩
theorem ren_arg {d : Addr} {H : Hp} {ns : List Str} {g : Str → Str} (hd : H d = some (.dK (dictOf ns fun n => .str (g n)))) (hg : ∀ n ∈ ns, isNm (g n) = true) : RenArg H (.ref d) := by
  refine ⟨"dict", .dK hd, fun d' kvs' e1 e2 kv hkv => ?_⟩
  cases e1
  rw [hd] at e2
  cases e2
  obtain ⟨n, hn, rfl⟩ := List.mem_map.mp hkv
  exact ⟨"str", .str _, fun x' ex => by cases ex; exact Nat.le_trans (isNm_len (hg n hn)).2 (by decide)⟩
theorem ren_eq {d d' : Addr} {H : Hp} {ns : List Str} {qs : List (Str × Str)} {g g' : Str → Str} {kvs' : List (Key × V)} (G : Good ns qs) (hd : H d = some (.dK (dictOf ns fun n => .str (g n)))) (e1 : V.ref d = .ref d') (e2 : H d' = some (.dK kvs')) (gg : GoodG kvs' ns g') :
    ns.map g' = ns.map g ∧ qs.map (mapT g') = qs.map (mapT g) := by
  cases e1
  rw [hd] at e2
  cases e2
  have eg : ∀ n ∈ ns, g' n = g n := fun n hn => by
    have e3 := (gg.2.1 n hn).1
    rw [valV_dictOf (f := fun n => V.str (g n)) hn] at e3
    exact (V.str.inj (Option.some.inj e3)).symm
  refine ⟨List.map_congr_left eg, List.map_congr_left fun q hq => ?_⟩
  have o := G.ok q hq
  unfold mapT
  rw [eg _ o.1, eg _ o.2.1]
theorem refs_ps {H : Hp} : ∀ {us : List V} {F : V → Prop}, (∀ v ∈ us, ∃ T, v = .ref T) → ∃ ps : List Addr, us = ps.map V.ref
  | [], _, _ => ⟨[], rfl⟩
  | v :: us, F, h => by
    obtain ⟨T, e⟩ := h v List.mem_cons_self
    obtain ⟨ps, e2⟩ := refs_ps (H := H) (us := us) (F := F) fun u hu => h u (List.mem_cons_of_mem _ hu)
    exact ⟨T :: ps, by rw [e, e2]; rfl⟩
section
variable {P : Program} {w : World} {K : PySem.W.Frag} {mg : Str → Option Value} {base : Heap}
def spRR (C : Addr) : Sp := fun vs H Q _ => ∃ (x l t d : Addr) (ns : List Str) (qs : List (Str × Str)) (ts : List V) (g : Str → Str), vs = [.ref x, .ref l, .ref t, .ref d] ∧ WebAt C H x ns qs ∧ Good ns qs ∧ H l = some (.lst (ns.map .str)) ∧ H t = some (.lst ts) ∧ Ties H ts qs ∧
  H d = some (.dK (dictOf ns fun n => .str (g n))) ∧ (∀ n ∈ ns, isNm (g n) = true) ∧ (ns.map g).Nodup ∧ ∀ H', Same (rem d H) (rem d H') → Q (.bl true) H'
theorem ok_rr (T : W0 K mg) : FnOk P w K mg base CX0 6 T.fRR T.dRR pRR (spRR T.cWeb) := by
  refine T.eRR.fn.ok scRR (fun vs H Q E h => ?_) (fun cdv A outer s H vs Q E hr h => ?_)
  · obtain ⟨x, l, t, d, ns, qs, ts, g, rfl, _⟩ := h
    rfl
  · obtain ⟨x, l, t, d, ns, qs, ts, g, rfl, hw, G, hl, ht, tt, hd, hg, nd, k⟩ := h
    have hr2 := hr.mono (show 2 ≤ 5 by decide)
    have hu := hu_of hr
    have ltt := paired_len tt
    have many := G.many
    have nine := G.nine
    refine ⟨_, pss_cons (ps_set (i := 4) scRR.nd rfl (Or.inl rfl) (pe_call (E := E0) (ok_ren T) hr rfl T.eRen.g T.eRen.k T.eRen.b .nil passN (pa_cons (pv 0) (pa_cons (pv 3) pa_nil))))
      (pss_cons (ps_set (i := 5) scRR.nd rfl (Or.inl rfl) (pe_tup (pa_cons (pe_lc (own := [("_law_name", 7)]) rfl scRR.nd (pi_list (pv 1)) (blkOk_by (N := nRR) (sc := defScope sRR) (by decide +kernel)) (fun _ _ _ _ _ => pg_name (i := 7) scRR.nd rfl (Or.inl rfl)) (fun _ _ _ _ _ => pts_nil) (fun _ _ _ _ _ => pe_dget hu (pv 3) (pv 7) (fun _ _ => rfl)))
        (pa_cons (pe_lc (g := gTup K 2 (gCons (gName 8) (gCons (gName 9) gNil))) (own := [("_law_a", 8), ("_law_b", 9)]) rfl scRR.nd (pi_list (pv 2)) (blkOk_by (N := nRR) (sc := defScope sRR) (by decide +kernel)) (fun _ _ _ _ _ => pg_tup rfl (pgs_cons (pg_name (i := 8) scRR.nd rfl (Or.inl rfl)) (pgs_cons (pg_name (i := 9) scRR.nd rfl (Or.inl rfl)) pgs_nil))) (fun _ _ _ _ _ => pts_nil)
          (fun _ _ _ _ _ => pe_tup (pa_cons (pe_dget hu (pv 3) (pv 8) (fun _ _ => rfl)) (pa_cons (pe_dget hu (pv 3) (pv 9) (fun _ _ => rfl)) pa_nil)))) pa_nil))))
      (pss_cons (ps_if (PW.pt (pw_or (pt_not (pt_val (pe_call (ok_is T) hr2 rfl T.eIs.g T.eIs.k T.eIs.b .nil pass0 (pa_cons (pv 4) (pa_cons (pe_ix ix_seq (pv 5) pe_int (fun _ _ => rfl)) (pa_cons (pe_ix ix_seq (pv 5) pe_int (fun _ _ => rfl)) pa_nil))))))
        (pw_or1 (pt_not (pt_val (pe_call (ok_is T) hr2 rfl T.eIs.g T.eIs.k T.eIs.b .nil pass0 (pa_cons (pv 0) (pa_cons (pv 1) (pa_cons (pv 2) pa_nil))))))))) (pss_one (ps_ret pe_bl)) pss_nil)
      (pss_cons (ps_set (i := 6) scRR.nd rfl (Or.inl rfl) (pe_callTy (call_dictP rfl) rfl T.z_dict boot_dict (pa_cons (pe_lc (own := [("_law_name", 7)]) rfl scRR.nd (pi_list (pv 1)) (blkOk_by (N := nRR) (sc := defScope sRR) (by decide +kernel)) (fun _ _ _ _ _ => pg_name (i := 7) scRR.nd rfl (Or.inl rfl)) (fun _ _ _ _ _ => pts_nil)
        (fun _ _ _ _ _ => pe_tup (pa_cons (pe_dget hu (pv 3) (pv 7) (fun _ _ => rfl)) (pa_cons (pv 7) pa_nil)))) pa_nil)))
      (pss_cons (ps_expr (pe_dclear (pv 3)))
      (pss_cons (ps_if (pt_not (pt_val (pe_call (ok_is T) hr2 rfl T.eIs.g T.eIs.k T.eIs.b .nil pass0 (pa_cons (pv 4) (pa_cons (pe_ix ix_seq (pv 5) pe_int (fun _ _ => rfl)) (pa_cons (pe_ix ix_seq (pv 5) pe_int (fun _ _ => rfl)) pa_nil)))))) (pss_one (ps_ret pe_bl)) pss_nil)
      (pss_one (ps_ret (pe_call (ok_is T) hr2 rfl T.eIs.g T.eIs.k T.eIs.b .nil pass0 (pa_cons (pe_call (E := E0) (ok_ren T) hr rfl T.eRen.g T.eRen.k T.eRen.b .nil passN (pa_cons (pv 4) (pa_cons (pv 6) pa_nil))) (pa_cons (pv 1) (pa_cons (pv 2) pa_nil))))))))))), ?_⟩
    refine ⟨_, rfl, _, rfl, x, .ref d, ns, qs, rfl, hw, G, ren_arg hd hg, fun d' kvs' g' e1 e2 gg y H1 s1 hy => ?_, fun no => absurd (goodG_of hg nd) (no d _ g rfl hd)⟩
    obtain ⟨en, eq_⟩ := ren_eq G hd e1 e2 gg
    rw [en, eq_] at hy
    clear e1 e2 gg en eq_
    have G' := G.map hg nd
    have hl1 := s1 _ _ hl
    have ht1 := s1 _ _ ht
    have tt1 := tt.same s1
    -- what is due
    refine ⟨_, rfl, l, rfl, ⟨_, SqL.of hl1⟩, fun D1 hD1 => lc_fil (walk_list (K := K) (a := l) (xs := ns.map V.str)) (fun _ => true) (fun i v _ => v = .str (g (ns[i]?.getD small))) (fun _ _ _ _ _ h => h) hD1 (fun H2 s2 => SqL.of (s2 _ _ hl1)) ?_ ?_⟩
    · rintro i v H2 H3 hi lp s2 ⟨rfl, e⟩
      obtain ⟨n, hn, rfl⟩ := vals_str e
      have hi9 : i < 1000 := by rw [List.length_map] at hi; omega
      refine ⟨rfl, tyes ⟨_, rfl, _, rfl, d, .str (g n), rfl, by rw [← valV_dictOf (f := fun n => V.str (g n)) (List.mem_of_getElem? hn)]; exact DGet.k (k := .inr n) (s2 _ _ (s1 _ _ hd)), lp.put hi9 (Same.refl _) rfl ?_⟩⟩
      rw [hn]
      rfl
    intro H2 lp
    obtain ⟨s2, us1, hus1, hn1, hr1⟩ := lp.all
    have eus1 : us1 = (ns.map g).map V.str := by
      rw [List.map_map]
      refine eq_map (by rw [hn1, List.length_map]) fun i v e => ?_
      have hi : i < ns.length := by
        have := (List.getElem?_eq_some_iff.mp e).1
        rw [hn1, List.length_map] at this
        exact this
      exact ⟨ns[i], List.getElem?_eq_getElem hi, by rw [hr1 i v e, List.getElem?_eq_getElem hi]; rfl⟩
    subst eus1
    have s12 := s1.trans s2
    have ht2 := s2 _ _ ht1
    have tt2 := tt1.same s2
    refine ⟨_, rfl, t, rfl, ⟨_, SqL.of ht2⟩, fun D2 hD2 => lc_fil (walk_list (K := K) (a := t) (xs := ts)) (fun _ => true) (fun i v F => ∃ q, qs[i]? = some q ∧ TieV F v (mapT g q)) (fun _ _ _ _ s ⟨q, e, t⟩ => ⟨q, e, t.same s⟩) hD2 (fun H3 s3 => SqL.of (s3 _ _ ht2)) ?_ ?_⟩
    · rintro i v H3 H4 hi lp3 s3 ⟨rfl, e⟩
      obtain ⟨q, hq, Tq, rfl, hTq⟩ := paired_at tt2 e
      have okq := G.ok q (List.mem_of_getElem? hq)
      have hd3 := s3 _ _ (s12 _ _ hd)
      refine ⟨Tq, _, rfl, SqT.of (s3 _ _ hTq), rfl, _, _, rfl, _, _, rfl, rfl, rfl, tyes ?_⟩
      refine ⟨_, rfl, _, rfl, d, .str (g q.1), rfl, by rw [← valV_dictOf (f := fun n => V.str (g n)) okq.1]; exact DGet.k (k := .inr q.1) hd3, _, rfl, _, rfl, d, .str (g q.2), rfl, by rw [← valV_dictOf (f := fun n => V.str (g n)) okq.2.1]; exact DGet.k (k := .inr q.2) hd3, sz1000 (show 2 ≤ 1000 by decide), fun Z hZ => ?_⟩
      obtain ⟨_, _, _, _, acc, hacc, _⟩ := id lp3
      refine lp3.put (by omega) (same_new hZ) rfl ⟨q, hq, Z, rfl, ?_⟩
      rw [rem_ne (ne_of_none hacc hZ).symm, upd_same]
      rfl
    intro H3 lp3
    obtain ⟨s3, us2, hus2, hn2, hr3⟩ := lp3.all
    have tu2 : Ties H3 us2 (qs.map (mapT g)) := paired_of (by rw [List.length_map, hn2, ltt]) fun i v q' hv hq' => by
      obtain ⟨q, hq, tv⟩ := hr3 i v hv
      rw [List.getElem?_map, hq] at hq'
      cases hq'
      exact tv.same same_rem
    refine ⟨sz1000 (show 2 ≤ 1000 by decide), fun U hU => ?_⟩
    have s4 := same_new (o := .tup [.ref D1, .ref D2]) hU
    have hU4 : (upd H3 U (.tup [.ref D1, .ref D2])) U = some (.tup [.ref D1, .ref D2]) := upd_same
    have tu4 := tu2.same s4
    have hD14 := s4 _ _ (s3 _ _ hus1)
    have hD24 := s4 _ _ hus2
    have s14 := (s12.trans s3).trans s4
    have sy4 := (s2.trans s3).trans s4
    generalize upd H3 U (.tup [.ref D1, .ref D2]) = H4 at s4 hU4 tu4 hD14 hD24 s14 sy4 ⊢
    refine ⟨_, rfl, _, rfl, .inr (.inl ⟨U, _, 0, .ref D1, rfl, rfl, SqT.of hU4, rfl, _, rfl, .inr (.inl ⟨U, _, 1, .ref D2, rfl, rfl, SqT.of hU4, rfl, ?_⟩)⟩)⟩
    refine ⟨y, D1, D2, ns.map g, qs.map (mapT g), us2, rfl, hy.same sy4, G', hD14, hD24, tu4, fun H5 s5 => ⟨_, rfl, iteF ?_⟩⟩
    have s15 := s14.trans s5
    refine ⟨_, rfl, _, rfl, _, rfl, x, l, t, ns, qs, ts, rfl, hw.same s15, G, s15 _ _ hl, s15 _ _ ht, tt.same s15, fun H6 s6 => ⟨_, rfl, iteF ?_⟩⟩
    have s16 := s15.trans s6
    have hl6 := s16 _ _ hl
    have hd6 := s16 _ _ hd
    -- the way back
    refine ⟨_, rfl, l, rfl, ⟨_, SqL.of hl6⟩, fun D3 hD3 => lc_fil (walk_list (K := K) (a := l) (xs := ns.map V.str)) (fun _ => true) (fun i v F => ∃ n, ns[i]? = some n ∧ TieV F v (g n, n)) (fun _ _ _ _ s ⟨q, e, t⟩ => ⟨q, e, t.same s⟩) hD3 (fun H7 s7 => SqL.of (s7 _ _ hl6)) ?_ ?_⟩
    · rintro i v H7 H8 hi lp7 s7 ⟨rfl, e⟩
      obtain ⟨n, hn, rfl⟩ := vals_str e
      have hi9 : i < 1000 := by rw [List.length_map] at hi; omega
      refine ⟨rfl, tyes ⟨_, rfl, _, rfl, d, .str (g n), rfl, by rw [← valV_dictOf (f := fun n => V.str (g n)) (List.mem_of_getElem? hn)]; exact DGet.k (k := .inr n) (s7 _ _ hd6), _, rfl, sz1000 (show 2 ≤ 1000 by decide), fun Z hZ => ?_⟩⟩
      obtain ⟨_, _, _, _, acc, hacc, _⟩ := id lp7
      refine lp7.put hi9 (same_new hZ) rfl ⟨n, hn, Z, rfl, ?_⟩
      rw [rem_ne (ne_of_none hacc hZ).symm, upd_same]
    intro H7 lp7
    obtain ⟨s7, us3, hus3, hn3, hr7⟩ := lp7.all
    obtain ⟨ps, eps⟩ := refs_ps (H := H7) (us := us3) (F := fun _ => True) fun v hv => by
      obtain ⟨i, hi⟩ := List.mem_iff_getElem?.mp hv
      obtain ⟨n, _, Z, e, _⟩ := hr7 i v hi
      exact ⟨Z, e⟩
    subst eps
    obtain ⟨g', eg'⟩ := ex_g (ns := ns.map g) (ms := ns) nd (List.length_map ..)
    have gg : ∀ n ∈ ns, g' (g n) = n := fun n hn => by
      rw [List.map_map] at eg'
      have e2 : ns.map (g' ∘ g) = ns.map id := by rw [eg', List.map_id]
      exact List.map_inj_left.mp e2 n hn
    have edict : (ns.map fun n => ((Sum.inr (g n) : Key), V.str n)) = dictOf (ns.map g) fun m => .str (g' m) := by
      unfold dictOf
      rw [List.map_map]
      exact List.map_congr_left fun n hn => by show _ = ((Sum.inr (g n) : Key), V.str (g' (g n))); rw [gg n hn]
    refine ⟨D3, ps, ns.map fun n => ((Sum.inr (g n) : Key), V.str n), rfl, SqL.of hus3, paired_of (by rw [List.length_map] at hn3; rw [hn3, List.length_map, List.length_map]) fun i p kv hp hkv => ?_, fun B hB => ?_⟩
    · rw [List.getElem?_map] at hkv
      obtain ⟨n, hn, Z, e, hZ⟩ := hr7 i (.ref p) (by rw [List.getElem?_map, hp]; rfl)
      rw [hn] at hkv
      cases hkv
      cases e
      exact SqT.of (same_rem _ _ hZ)
    rw [edict, mergeK_nil (dictOf_keys nd)]
    have s8 := same_new (o := .dK (dictOf (ns.map g) fun m => .str (g' m))) hB
    have hB8 : (upd H7 B (.dK (dictOf (ns.map g) fun m => .str (g' m)))) B = some (.dK (dictOf (ns.map g) fun m => .str (g' m))) := upd_same
    have s18 := (s16.trans s7).trans s8
    have nBd : B ≠ d := (ne_of_none (s7 _ _ hd6) hB).symm
    have s48 := ((s5.trans s6).trans s7).trans s8
    generalize upd H7 B (.dK (dictOf (ns.map g) fun m => .str (g' m))) = H8 at s8 hB8 s18 s48 ⊢
    have hd8 := s18 _ _ hd
    refine ⟨.ref d, rfl, .inr (.inr (.inl ⟨rfl, .inl ⟨_, hd8⟩⟩)), d, _, rfl, rfl, hd8, ?_⟩
    -- the dict is empty now
    have s9 : Same (rem d H8) (upd H8 d (.dK [])) := by
      rw [← rem_upd (p := d) (H := H8) (o := .dK [])]
      exact same_rem
    have f9 : rem d (upd H8 d (.dK [])) = rem d H8 := rem_upd
    generalize upd H8 d (.dK []) = H9 at s9 f9 ⊢
    have hw9 : WebAt T.cWeb H9 x ns qs := (web_rem hd8 (hw.same s18)).same s9
    have hy9 : WebAt T.cWeb H9 y (ns.map g) (qs.map (mapT g)) := (web_rem hd8 (hy.same (sy4.trans s48))).same s9
    have hU9 := s9 _ _ (rem_of hd8 (s48 _ _ hU4) (by intro z; cases z))
    have hD19 := s9 _ _ (rem_of hd8 (s48 _ _ hD14) (by intro z; cases z))
    have hD29 := s9 _ _ (rem_of hd8 (s48 _ _ hD24) (by intro z; cases z))
    have tu9 := (ties_rem hd8 (tu4.same s48)).same s9
    have hl9 := s9 _ _ (rem_of hd8 (s18 _ _ hl) (by intro z; cases z))
    have ht9 := s9 _ _ (rem_of hd8 (s18 _ _ ht) (by intro z; cases z))
    have tt9 := (ties_rem hd8 (tt.same s18)).same s9
    have hB9 : H9 B = some (.dK (dictOf (ns.map g) fun m => .str (g' m))) := s9 _ _ (by rw [rem_ne nBd]; exact hB8)
    have r9 : Same (rem d H) (rem d H9) := by
      rw [f9]
      exact same_remr s18
    refine ⟨_, rfl, _, rfl, .inr (.inl ⟨U, _, 0, .ref D1, rfl, rfl, SqT.of hU9, rfl, _, rfl, .inr (.inl ⟨U, _, 1, .ref D2, rfl, rfl, SqT.of hU9, rfl, ?_⟩)⟩)⟩
    refine ⟨y, D1, D2, ns.map g, qs.map (mapT g), us2, rfl, hy9, G', hD19, hD29, tu9, fun H10 s10 => ⟨_, rfl, iteF ?_⟩⟩
    have eqs : (qs.map (mapT g)).map (mapT g') = qs := by
      rw [List.map_map]
      refine (List.map_congr_left fun q hq => ?_).trans (List.map_id qs)
      have o := G.ok q hq
      show (g' (g q.1), g' (g q.2)) = q
      rw [gg _ o.1, gg _ o.2.1]
    have hg' : ∀ m ∈ ns.map g, isNm (g' m) = true := fun m hm => by
      obtain ⟨n, hn, rfl⟩ := List.mem_map.mp hm
      rw [gg n hn]
      exact G.nm n hn
    have hB10 := s10 _ _ hB9
    refine ⟨_, rfl, _, rfl, y, .ref B, ns.map g, qs.map (mapT g), rfl, hy9.same s10, G', ren_arg hB10 hg', fun d' kvs' g2 e1 e2 gg2 z H11 s11 hz => ?_, fun no => absurd (goodG_of hg' (by rw [eg']; exact G.nd)) (no B _ g' rfl hB10)⟩
    obtain ⟨en, eq_⟩ := ren_eq G' hB10 e1 e2 gg2
    rw [en, eq_] at hz
    rw [eg', eqs] at hz
    have s9_11 := s10.trans s11
    refine ⟨_, rfl, _, rfl, z, l, t, ns, qs, ts, rfl, hz, G, s9_11 _ _ hl9, s9_11 _ _ ht9, tt9.same s9_11, fun H12 s12 => k H12 (r9.trans (same_remr (s9_11.trans s12)))⟩
end
end Pw

/-! _law_reordered_right. -/
namespace Pw
open PySem PySem.Spec PyProof.Rows L2
/-- an order of n things -/
def IsOrd (n : Nat) (is : List Int) : Prop := is.Perm ((List.range n).map fun (i : Nat) => (i : Int))
theorem IsOrd.len {n : Nat} {is : List Int} (h : IsOrd n is) : is.length = n := by
  have := h.length_eq
  rwa [List.length_map, List.length_range] at this
theorem IsOrd.inr {n : Nat} {is : List Int} (h : IsOrd n is) : ∀ i ∈ is, 0 ≤ i ∧ i < (n : Int) := fun i hi => by
  obtain ⟨k, hk, rfl⟩ := List.mem_map.mp (h.mem_iff.mp hi)
  have := List.mem_range.mp hk
  omega
theorem IsOrd.nd {n : Nat} {is : List Int} (h : IsOrd n is) : is.Nodup := by
  refine h.nodup_iff.mpr ?_
  rw [List.nodup_iff_pairwise_ne, List.pairwise_map]
  exact (List.nodup_iff_pairwise_ne.mp List.nodup_range).imp fun q z => q (by omega)
theorem IsOrd.has {n k : Nat} {is : List Int} (h : IsOrd n is) (hk : k < n) : ∃ j : Nat, is[j]? = some (k : Int) :=
  List.mem_iff_getElem?.mp (h.mem_iff.mpr (List.mem_map.mpr ⟨k, List.mem_range.mpr hk, rfl⟩))
/-- bs leads back from is -/
theorem back_ord {n : Nat} {is bs : List Int} (h : IsOrd n is) (hl : bs.length = n) (hb : ∀ (i : Nat) (b : Int), bs[i]? = some b → ∃ j : Nat, b = (j : Int) ∧ is[j]? = some (i : Int)) : (∀ b ∈ bs, 0 ≤ b ∧ b < (n : Int)) ∧ bs.Nodup := by
  refine ⟨fun b hb' => ?_, ?_⟩
  · obtain ⟨i, hi⟩ := List.mem_iff_getElem?.mp hb'
    obtain ⟨j, rfl, hj⟩ := hb i b hi
    have := (List.getElem?_eq_some_iff.mp hj).1
    have := h.len
    omega
  · rw [List.nodup_iff_pairwise_ne, List.pairwise_iff_getElem]
    intro i j hi hj hij e
    obtain ⟨a, e1, h1⟩ := hb i _ (List.getElem?_eq_getElem hi)
    obtain ⟨b, e2, h2⟩ := hb j _ (List.getElem?_eq_getElem hj)
    have : a = b := by rw [e1, e2] at e; omega
    rw [this, h2] at h1
    have := Option.some.inj h1
    omega
theorem pick_back {qs : List (Str × Str)} {is bs : List Int} (h : IsOrd qs.length is) (hl : bs.length = qs.length) (hb : ∀ (i : Nat) (b : Int), bs[i]? = some b → ∃ j : Nat, b = (j : Int) ∧ is[j]? = some (i : Int)) : pickQ (pickQ qs is) bs = qs := by
  refine List.ext_getElem? fun i => ?_
  unfold pickQ
  rw [List.getElem?_map]
  by_cases hi : i < qs.length
  · have hib : i < bs.length := by omega
    obtain ⟨j, e1, h1⟩ := hb i _ (List.getElem?_eq_getElem hib)
    rw [List.getElem?_eq_getElem hib, e1, List.getElem?_eq_getElem hi]
    show some ((((is.map fun i => (qs[i.toNat]?).getD (small, small))[(j : Int).toNat]?).getD (small, small))) = _
    rw [Int.toNat_natCast, List.getElem?_map, h1]
    show some (((qs[((i : Nat) : Int).toNat]?).getD (small, small))) = _
    rw [Int.toNat_natCast, List.getElem?_eq_getElem hi]
    rfl
  · rw [List.getElem?_eq_none (by omega), List.getElem?_eq_none (by omega)]
    rfl
theorem good_pick {ns : List Str} {qs : List (Str × Str)} {is : List Int} (G : Good ns qs) (h : IsOrd qs.length is) : Good ns (pickQ qs is) where
  one := G.one
  nine := G.nine
  nm := G.nm
  nd := G.nd
  many := by
    have := h.len
    have := G.many
    unfold pickQ
    rw [List.length_map]
    omega
  ok := fun q hq => by
    obtain ⟨i, hi, rfl⟩ := List.mem_map.mp hq
    exact G.ok _ (List.mem_of_getElem? (pick_at (h.inr i hi).1 (h.inr i hi).2))
theorem is_inj {H : Hp} {v : V} {n : Nat} {is is' : List Int} {o : Addr} (ho : RowAt H o (is.map V.int)) (g : GoodO H n (.ref o) is') : is' = is := by
  obtain ⟨a, e, r, _⟩ := g
  cases e
  have ei := ho.inj r
  have h2 := congrArg (List.map fun v => match v with | V.int i => i | _ => 0) ei
  rw [List.map_map, List.map_map] at h2
  simpa [Function.comp_def] using h2.symm
theorem ord_arg {H : Hp} {o : Addr} {is : List Int} (ho : RowAt H o (is.map V.int)) (hl : is.length ≤ 100) : OrdArg H (.ref o) := by
  have aux : ∀ a xs, V.ref o = .ref a → RowAt H a xs → xs.length ≤ 100 ∧ ∀ y ∈ xs, ∃ t, Ty H y t := fun a xs e r => by
    cases e
    rw [← ho.inj r, List.length_map]
    refine ⟨hl, fun y hy => ?_⟩
    obtain ⟨i, _, rfl⟩ := List.mem_map.mp hy
    exact ⟨_, .int i⟩
  rcases ho with h | h
  · exact ⟨_, .lst h, aux⟩
  · exact ⟨_, .tup h, aux⟩
theorem flat_int (is : List Int) : (is.map V.int).all flatV = true := by
  rw [List.all_eq_true]
  intro v hv
  obtain ⟨x, _, rfl⟩ := List.mem_map.mp hv
  rfl
section
variable {P : Program} {w : World} {K : PySem.W.Frag} {mg : Str → Option Value} {base : Heap}
def spRO (C : Addr) : Sp := fun vs H Q _ => ∃ (x l t o : Addr) (ns : List Str) (qs : List (Str × Str)) (ts : List V) (is : List Int), vs = [.ref x, .ref l, .ref t, .ref o] ∧ WebAt C (rem o H) x ns qs ∧ Good ns qs ∧ rem o H l = some (.lst (ns.map .str)) ∧ rem o H t = some (.lst ts) ∧ Ties (rem o H) ts qs ∧
  H o = some (.lst (is.map .int)) ∧ IsOrd qs.length is ∧ ∀ H', Same (rem o H) (rem o H') → Q (.bl true) H'
theorem ok_ro (T : W0 K mg) : FnOk P w K mg base CX0 6 T.fRO T.dRO pRO (spRO T.cWeb) := by
  refine T.eRO.fn.ok scRO (fun vs H Q E h => ?_) (fun cdv A outer s H vs Q E hr h => ?_)
  · obtain ⟨x, l, t, o, ns, qs, ts, is, rfl, _⟩ := h
    rfl
  · obtain ⟨x, l, t, o, ns, qs, ts, is, rfl, hwR, G, hlR, htR, ttR, ho, io, k⟩ := h
    have hr2 := hr.mono (show 2 ≤ 5 by decide)
    have hw := hwR.same same_rem
    have hl := same_rem _ _ hlR
    have ht := same_rem _ _ htR
    have tt := ttR.same same_rem
    have ltt := paired_len tt
    have many := G.many
    have lis := io.len
    refine ⟨_, pss_cons (ps_set (i := 4) scRO.nd rfl (Or.inl rfl) (pe_call (E := E0) (ok_reo T) hr rfl T.eReo.g T.eReo.k T.eReo.b .nil passN (pa_cons (pv 0) (pa_cons (pv 3) pa_nil))))
      (pss_cons (ps_setLc (i := 5) (te := tOp (rIx K) (tVar 2) (tVar 7)) (own := [("_law_k", 7)]) rfl scRO.nd rfl rfl (sw_true rfl rfl rfl rfl) (pi_list (pv 3)) (blkOk_by (N := nRO) (sc := defScope sRO) (by decide +kernel)) (fun _ _ _ _ _ => pg_name (i := 7) scRO.nd rfl (Or.inl rfl)) (fun _ _ _ _ _ => pts_nil)
        (fun _ _ _ _ _ => pe_ix ix_seq (pv 2) (pv 7) (fun _ _ => rfl)))
      (pss_cons (ps_setLc (i := 6) (te := tBM K "list" (rIndex K) (tVar 3) (tCons (tVar 7) tNil)) (own := [("_law_k", 7)]) rfl scRO.nd rfl rfl (sw_true rfl rfl rfl rfl) (pi_range1 rfl T.z_range (pa_cons (pe_callB call_len_seq rfl T.z_len boot_len (pa_cons (pv 3) pa_nil)) pa_nil)) (blkOk_by (N := nRO) (sc := defScope sRO) (by decide +kernel))
        (fun _ _ _ _ _ => pg_name (i := 7) scRO.nd rfl (Or.inl rfl)) (fun _ _ _ _ _ => pts_nil) (fun _ _ _ _ _ => pe_bm PySem.F.plainAttrs_list PySem.F.slot_list_index PySem.F.type_list_index mt_index (pv 3) (pa_cons (pv 7) pa_nil)))
      (pss_cons (ps_expr (pe_bm0 PySem.F.plainAttrs_list PySem.F.slot_list_clear PySem.F.type_list_clear mt_clear (pv 3)))
      (pss_cons (ps_if (PW.pt (pw_or (pt_not (pt_val (pe_call (ok_is T) hr2 rfl T.eIs.g T.eIs.k T.eIs.b .nil pass0 (pa_cons (pv 4) (pa_cons (pv 1) (pa_cons (pv 5) pa_nil))))))
        (pw_or1 (pt_not (pt_val (pe_call (ok_is T) hr2 rfl T.eIs.g T.eIs.k T.eIs.b .nil pass0 (pa_cons (pv 0) (pa_cons (pv 1) (pa_cons (pv 2) pa_nil))))))))) (pss_one (ps_ret pe_bl)) pss_nil)
      (pss_one (ps_ret (pe_call (ok_is T) hr2 rfl T.eIs.g T.eIs.k T.eIs.b .nil pass0 (pa_cons (pe_call (E := E0) (ok_reo T) hr rfl T.eReo.g T.eReo.k T.eReo.b .nil passN (pa_cons (pv 4) (pa_cons (pe_callTy (r := rTupOf K) call_tuple_of rfl T.z_tuple boot_tuple (pa_cons (pv 6) pa_nil)) pa_nil)))
        (pa_cons (pv 1) (pa_cons (pv 2) pa_nil)))))))))), ?_⟩
    have roO : RowAt H o (is.map V.int) := .inl ho
    refine ⟨_, rfl, _, rfl, x, .ref o, ns, qs, rfl, hw, G, ord_arg roO (by omega), fun is' gi y H1 s1 hy => ?_, fun no => absurd ⟨o, rfl, roO, lis, io.inr, io.nd⟩ (no is)⟩
    rw [is_inj (v := .ref o) roO gi] at hy
    clear gi is'
    have hyR := hy.2 o _ ho
    have ho1 := s1 _ _ ho
    have ht1 := s1 _ _ ht
    have tt1 := tt.same s1
    have G' := good_pick G io
    -- what is due
    refine ⟨_, rfl, o, rfl, ⟨_, SqL.of ho1⟩, fun D1 hD1 => lc_fil (walk_list (K := K) (a := o) (xs := is.map V.int)) (fun _ => true) (fun i v _ => ∃ j, is[i]? = some j ∧ ts[j.toNat]? = some v) (fun _ _ _ _ _ h => h) hD1 (fun H2 s2 => SqL.of (s2 _ _ ho1)) ?_ ?_⟩
    · rintro i v H2 H3 hi lp s2 ⟨rfl, e⟩
      obtain ⟨j, hj, rfl⟩ : ∃ j, is[i]? = some j ∧ v = .int j := by
        have e : (is.map V.int)[i]? = some v := e
        rw [List.getElem?_map] at e
        cases e2 : is[i]? with
        | none => rw [e2] at e; cases e
        | some j => rw [e2] at e; exact ⟨j, rfl, (Option.some.inj e).symm⟩
      obtain ⟨j0, j1⟩ := io.inr j (List.mem_of_getElem? hj)
      have hjt : j.toNat < ts.length := by omega
      have hi9 : i < 1000 := by rw [List.length_map] at hi; omega
      exact ⟨rfl, tyes ⟨_, rfl, _, rfl, .inl ⟨t, ts, j, ts[j.toNat], rfl, rfl, SqL.of (s2 _ _ ht1), at_of (j := j.toNat) (by omega) (List.getElem?_eq_getElem hjt), lp.put hi9 (Same.refl _) rfl ⟨j, hj, List.getElem?_eq_getElem hjt⟩⟩⟩⟩
    intro H2 lp
    obtain ⟨s2, us, hus, hn2, hr2'⟩ := lp.all
    have tu : Ties H2 us (pickQ qs is) := paired_of (by unfold pickQ; rw [hn2, List.length_map, List.length_map]) fun i v q hv hq => by
      obtain ⟨j, hj, hjt⟩ := hr2' i v hv
      unfold pickQ at hq
      rw [List.getElem?_map, hj] at hq
      have hq := Option.some.inj hq
      obtain ⟨q', hq', tv⟩ := paired_at (tt1.same s2) hjt
      have hq : (qs[j.toNat]?).getD (small, small) = q := hq
      rw [hq'] at hq
      have hq : q' = q := hq
      rw [← hq]
      exact tv
    have nD1 : D1 ≠ o := (ne_of_none ho1 hD1).symm
    have s12 := s1.trans s2
    have ho2 := s12 _ _ ho
    -- the way back
    refine ⟨_, rfl, o, _, rfl, .inl (SqL.of ho2), _, rfl, by rw [List.length_map]; omega, by rw [List.length_map]; omega, fun D2 hD2 => lc_fil (walk_range (lo := 0) (n := (((is.map V.int).length : Nat) : Int).toNat)) (fun _ => true) (fun i v _ => ∃ j : Nat, v = .int (j : Int) ∧ is[j]? = some (i : Int)) (fun _ _ _ _ _ h => h) hD2 (fun _ _ => trivial) ?_ ?_⟩
    · rintro i v H3 H4 hi lp3 s3 ⟨rfl, rfl⟩
      have hi2 : i < qs.length := by rw [List.length_map] at hi; omega
      obtain ⟨j, hj⟩ := io.has hi2
      have ho3 := s3 _ _ ho2
      refine ⟨rfl, tyes ⟨.ref o, rfl, .inl ⟨rfl, _, SqL.of ho3⟩, _, rfl, o, is.map V.int, .int (0 + (i : Int)), j, .int (i : Int), rfl, rfl, SqL.of ho3, rfl, flat_int is, by rw [List.getElem?_map, hj]; rfl, ?_, fun m z' hm hz => ?_, lp3.put (by omega) (Same.refl _) rfl ⟨j, rfl, hj⟩⟩⟩
      · show ((i : Int) == 0 + (i : Int)) = true
        rw [Int.zero_add]
        exact beq_self_eq_true _
      · rw [List.getElem?_map] at hz
        cases e : is[m]? with
        | none => rw [e] at hz; cases hz
        | some z =>
          rw [e] at hz
          cases hz
          show (z == 0 + (i : Int)) = false
          refine beq_eq_false_iff_ne.mpr fun ez => ?_
          rw [Int.zero_add] at ez
          rw [ez] at e
          have := nd_ix io.nd e hj
          omega
    intro H3 lp3
    obtain ⟨s3, ws, hws, hn3, hr3⟩ := lp3.all
    rw [List.length_map, Int.toNat_natCast] at hn3
    obtain ⟨bs, ebs, hbs⟩ : ∃ bs : List Int, ws = bs.map V.int ∧ ∀ (i : Nat) (b : Int), bs[i]? = some b → ∃ j : Nat, b = (j : Int) ∧ is[j]? = some (i : Int) := by
      let un : V → Int := fun v => match v with | .int i => i | _ => 0
      refine ⟨ws.map un, ?_, fun i b hb => ?_⟩
      · rw [List.map_map]
        refine (List.map_id ws).symm.trans (List.map_congr_left fun v hv => ?_)
        obtain ⟨i, hi⟩ := List.mem_iff_getElem?.mp hv
        obtain ⟨j, rfl, _⟩ := hr3 i v hi
        rfl
      · rw [List.getElem?_map] at hb
        cases e : ws[i]? with
        | none => rw [e] at hb; cases hb
        | some v =>
          rw [e] at hb
          obtain ⟨j, rfl, hj⟩ := hr3 i v e
          exact ⟨j, (Option.some.inj hb).symm, hj⟩
    subst ebs
    rw [List.length_map] at hn3
    have nD2 : D2 ≠ o := (ne_of_none ho2 hD2).symm
    have s123 := s12.trans s3
    have ho3 := s123 _ _ ho
    refine ⟨.ref o, rfl, .inl ⟨rfl, _, SqL.of ho3⟩, o, _, rfl, rfl, ho3, ?_⟩
    -- the order is empty now
    have s4 : Same (rem o H3) (upd H3 o (.lst [])) := by
      rw [← rem_upd (p := o) (H := H3) (o := .lst [])]
      exact same_rem
    have f4 : rem o (upd H3 o (.lst [])) = rem o H3 := rem_upd
    generalize upd H3 o (.lst []) = H4 at s4 f4 ⊢
    have sR : Same (rem o H) H4 := (same_remr s123).trans s4
    have sR1 : Same (rem o H1) H4 := (same_remr (s2.trans s3)).trans s4
    have hw4 := hwR.same sR
    have hy4 := hyR.same sR1
    have hl4 := sR _ _ hlR
    have ht4 := sR _ _ htR
    have tt4 := ttR.same sR
    have hus4 : H4 D1 = some (.lst us) := s4 _ _ (by rw [rem_ne nD1]; exact s3 _ _ hus)
    have tu4 : Ties H4 us (pickQ qs is) := Paired.mapP tu fun v q ⟨Z, e, hZ⟩ => ⟨Z, e, s4 _ _ (by rw [rem_ne (ne_of hZ ho2 (by intro z; cases z))]; exact s3 _ _ hZ)⟩
    have hws4 : H4 D2 = some (.lst (bs.map V.int)) := s4 _ _ (by rw [rem_ne nD2]; exact hws)
    have r4 : Same (rem o H) (rem o H4) := by
      rw [f4]
      exact same_remr s123
    refine ⟨_, rfl, _, rfl, _, rfl, y, l, D1, ns, pickQ qs is, us, rfl, hy4, G', hl4, hus4, tu4, fun H5 s5 => ⟨_, rfl, iteF ?_⟩⟩
    refine ⟨_, rfl, _, rfl, _, rfl, x, l, t, ns, qs, ts, rfl, hw4.same s5, G, s5 _ _ hl4, s5 _ _ ht4, tt4.same s5, fun H6 s6 => ⟨_, rfl, iteF ?_⟩⟩
    have s56 := s5.trans s6
    refine ⟨_, rfl, _, rfl, D2, _, rfl, .inl ⟨SqL.of (s56 _ _ hws4), fun B hB => ?_⟩⟩
    have s7 := same_new (o := .tup (bs.map V.int)) hB
    have hB7 : (upd H6 B (.tup (bs.map V.int))) B = some (.tup (bs.map V.int)) := upd_same
    generalize upd H6 B (.tup (bs.map V.int)) = H7 at s7 hB7 ⊢
    have s57 := s56.trans s7
    have roB : RowAt H7 B (bs.map V.int) := .inr hB7
    obtain ⟨binr, bnd⟩ := back_ord io (by omega) hbs
    have lq' : (pickQ qs is).length = qs.length := by unfold pickQ; rw [List.length_map]; omega
    refine ⟨y, .ref B, ns, pickQ qs is, rfl, hy4.same s57, G', ord_arg roB (by omega), fun is' gi z H8 s8 hz => ?_, fun no => absurd ⟨B, rfl, roB, by omega, by rw [lq']; exact binr, bnd⟩ (no bs)⟩
    rw [is_inj (v := .ref B) roB gi, pick_back io (by omega) hbs] at hz
    have s58 := s57.trans s8
    refine ⟨_, rfl, _, rfl, z, l, t, ns, qs, ts, rfl, hz.1, G, s58 _ _ hl4, s58 _ _ ht4, tt4.same s58, fun H9 s9 => k H9 (r4.trans (same_remr (s58.trans s9)))⟩
end
end Pw

/-! _law_bad_names. -/
namespace Pw
open PySem PySem.Spec PyProof.Rows L2
/-! ### the plain part -/
def BadN (G : Hp) (ns : List Str) (v : V) : Prop := (RenArg G v ∧ ∀ d kvs g, v = .ref d → G d = some (.dK kvs) → ¬ GoodG kvs ns g) ∧ Sh G v
theorem ty_there {H : Hp} {a : Addr} {t : String} (y : Ty H (.ref a) t) : ∃ o, H a = some o := by
  cases y with
  | lst e => exact ⟨_, e⟩
  | tup e => exact ⟨_, e⟩
  | dK e => exact ⟨_, e⟩
theorem BadN.same {H H' : Hp} (s : Same H H') {ns : List Str} {v : V} (h : BadN H ns v) : BadN H' ns v := by
  obtain ⟨⟨⟨t, ty, h1⟩, h2⟩, h3⟩ := h
  have back : ∀ d kvs, v = .ref d → H' d = some (.dK kvs) → H d = some (.dK kvs) := fun d kvs e1 e2 => by
    subst e1
    obtain ⟨o, ho⟩ := ty_there ty
    rw [s _ _ ho] at e2
    rw [ho, e2]
  exact ⟨⟨⟨t, ty.same s, fun d kvs e1 e2 kv hkv => (h1 d kvs e1 (back d kvs e1 e2) kv hkv).same s⟩, fun d kvs g e1 e2 => h2 d kvs g e1 (back d kvs e1 e2)⟩, h3.same s⟩
/-- what isn't a name and may yet stand in a dict -/
def OddV (G : Hp) (v : V) : Prop := nmB v = false ∧ ArgV G v ∧ F1 G v
theorem OddV.same {H H' : Hp} (s : Same H H') {v : V} (h : OddV H v) : OddV H' v := ⟨h.1, h.2.1.same s, h.2.2.same s⟩
theorem nm_s1 {x : Str} (h : isNm x = true) : S1 (.str x) := by
  refine s1_str (Nat.le_trans (isNm_len h).2 (by decide)) fun c hc => ?_
  unfold isNm at h
  simp only [Bool.and_eq_true] at h
  exact small_lt c (of_decide_eq_true (List.all_eq_true.mp h.2 _ (List.mem_map.mpr ⟨c, hc, rfl⟩)))
theorem arg_nm {G : Hp} {x : Str} (h : isNm x = true) : ArgV G (.str x) := ⟨_, .str x, fun y e => by cases e; exact Nat.le_trans (isNm_len h).2 (by decide)⟩
/-- a dict that gives one of the names nothing, or no name, is no good -/
theorem bad_dict {G : Hp} {ns : List Str} {d : Addr} {kvs : List (Key × V)} (h : G d = some (.dK kvs)) (hk : ∀ kv ∈ kvs, S1 (kV kv.1)) (hv : ∀ kv ∈ kvs, F1 G kv.2 ∧ ArgV G kv.2) (hl : kvs.length ≤ 40) (no : ∀ g, ¬ GoodG kvs ns g) : BadN G ns (.ref d) := by
  refine ⟨⟨⟨_, .dK h, fun d' kvs' e1 e2 kv hkv => ?_⟩, fun d' kvs' g e1 e2 => ?_⟩, Sh.dct h hk (fun kv hkv => (hv kv hkv).1) hl⟩
  · cases e1
    rw [h] at e2
    cases e2
    exact (hv kv hkv).2
  · cases e1
    rw [h] at e2
    cases e2
    exact no g
theorem filter_ix (ns : List Str) (P : Str → Bool) : ((List.range ns.length).filter fun i => P (ns[i]?.getD small)).map (fun i => ns[i]?.getD small) = ns.filter P := by
  have e : ns = (List.range ns.length).map fun i => ns[i]?.getD small := by
    refine eq_map (by rw [List.length_range]) fun i y hy => ⟨i, List.getElem?_range (List.getElem?_eq_some_iff.mp hy).1, by rw [hy]; rfl⟩
  conv => rhs; rw [e]
  rw [List.filter_map]
  rfl
theorem paired_map1 {α β γ : Type} {F : γ → β → Prop} (f : α → γ) : ∀ {xs : List α} {ys : List β}, Paired (fun x y => F (f x) y) xs ys → Paired F (xs.map f) ys
  | _, _, .nil => .nil
  | _, _, .cons h p => .cons h (paired_map1 f p)
theorem valV_app {f : Str → V} {ns : List Str} {k n : Str} {v : V} (hn : n ∉ ns) : valV (dictOf ns f ++ [(.inr k, v)]) (.inr n) = if k = n then some v else none := by
  unfold valV dictOf
  rw [List.find?_append]
  have e : (ns.map fun n => ((Sum.inr n : Key), f n)).find? (fun kv => decide (kv.1 = Sum.inr n)) = none := by
    rw [List.find?_eq_none]
    intro kv hkv z
    obtain ⟨m, hm, rfl⟩ := List.mem_map.mp hkv
    have := Sum.inr.inj (of_decide_eq_true z)
    exact hn (this ▸ hm)
  rw [e]
  by_cases hk : k = n
  · subst hk
    rw [if_pos rfl, List.find?_cons_of_pos (by simp)]
    rfl
  · have ne : ¬ ((Sum.inr k : Key) = .inr n) := fun z => hk (Sum.inr.inj z)
    rw [if_neg hk, List.find?_cons_of_neg (by simpa using ne)]
    rfl
theorem valV_no {f : Str → V} {ns : List Str} {n : Str} (hn : n ∉ ns) : valV (dictOf ns f) (.inr n) = none := by
  unfold valV dictOf
  have e : (ns.map fun n => ((Sum.inr n : Key), f n)).find? (fun kv => decide (kv.1 = Sum.inr n)) = none := by
    rw [List.find?_eq_none]
    intro kv hkv z
    obtain ⟨m, hm, rfl⟩ := List.mem_map.mp hkv
    have := Sum.inr.inj (of_decide_eq_true z)
    exact hn (this ▸ hm)
  rw [e]
  rfl
theorem app_keys {f : Str → V} {ns : List Str} {k : Str} {v : V} (hn : ns.Nodup) (hk : k ∉ ns) : ((dictOf ns f ++ [((Sum.inr k : Key), v)]).map (·.1)).Nodup := by
  rw [List.map_append, List.nodup_append]
  refine ⟨dictOf_keys hn, by simp, fun a ha b hb e => ?_⟩
  obtain ⟨kv, hkv, rfl⟩ := List.mem_map.mp ha
  obtain ⟨m, hm, rfl⟩ := List.mem_map.mp hkv
  have hb := List.mem_singleton.mp hb
  rw [hb] at e
  exact hk (Sum.inr.inj e ▸ hm)
/-- more letters than names -/
theorem pigeon : ∀ {l ns : List Str}, l.Nodup → (∀ x ∈ l, x ∈ ns) → l.length ≤ ns.length
  | [], _, _, _ => Nat.zero_le _
  | x :: l, ns, h, hs => by
    have hx := hs x List.mem_cons_self
    have ih := pigeon (l := l) (ns := ns.erase x) (List.nodup_cons.mp h).2 fun y hy => (List.mem_erase_of_ne fun e => (List.nodup_cons.mp h).1 (by rw [← e]; exact hy)).mpr (hs y (List.mem_cons_of_mem _ hy))
    rw [List.length_erase_of_mem hx] at ih
    have := List.length_pos_of_mem hx
    rw [List.length_cons]
    omega
theorem chs_nd : ((List.range 26).map ch).Nodup := by decide +kernel
theorem strange_ex {ns : List Str} (h : ns.length ≤ 9) : ∃ i, i < 26 ∧ ch i ∉ ns := by
  refine Classical.byContradiction fun no => ?_
  have := pigeon chs_nd (ns := ns) fun x hx => by
    obtain ⟨i, hi, rfl⟩ := List.mem_map.mp hx
    exact Classical.byContradiction fun z => no ⟨i, List.mem_range.mp hi, z⟩
  rw [List.length_map, List.length_range] at this
  omega
theorem ch_nm : ∀ i : Fin 26, isNm (ch i.1) = true := by decide +kernel
section
variable {K : PySem.W.Frag} {σ : L2.St} {H : Hp} {Q : VK}
def rDictP (K : PySem.W.Frag) : List V → Hp → VK → Prop := fun xs H Q => ∃ (a : Addr) (ps : List Addr) (kvs : List (Key × V)), xs = [.ref a] ∧ SqL K H a (ps.map V.ref) ∧ Paired (fun p kv => SqT K H p [kV kv.1, kv.2]) ps kvs ∧ ∀ p, H p = none → Q (.ref p) (upd H p (.dK (mergeK [] kvs)))
theorem dict_pairs {D : Addr} {ys : List V} {lf : List Str} {f : Str → V} (hD : H D = some (.lst ys)) (pr : Paired (fun n y => ∃ Z, y = .ref Z ∧ H Z = some (.tup [.str n, f n])) lf ys) :
    ∃ ps : List Addr, SqL K H D (ps.map V.ref) ∧ Paired (fun p kv => SqT K H p [kV kv.1, kv.2]) ps (dictOf lf f) := by
  obtain ⟨ps, e⟩ := refs_ps (H := H) (us := ys) (F := fun _ => True) fun v hv => by
    obtain ⟨i, hi⟩ := List.mem_iff_getElem?.mp hv
    obtain ⟨n, _, Z, e, _⟩ := paired_at2 pr hi
    exact ⟨Z, e⟩
  subst e
  have lp := paired_len pr
  rw [List.length_map] at lp
  refine ⟨ps, SqL.of hD, paired_of (by unfold dictOf; rw [List.length_map, lp]) fun i p kv hp hkv => ?_⟩
  unfold dictOf at hkv
  rw [List.getElem?_map] at hkv
  obtain ⟨n, hn, Z, e, hZ⟩ := paired_at2 pr (i := i) (y := .ref p) (by rw [List.getElem?_map, hp]; rfl)
  rw [hn] at hkv
  cases hkv
  cases e
  exact SqT.of hZ
theorem dict_more {td te1 te2 : TE} {B : Addr} {kvs : List (Key × V)} {k : Key} {v : V} (hB : H B = some (.dK kvs)) (ht : ∀ R : VK, R (.ref B) H → td σ H R) (h1 : ∀ H1 (R : VK), Same H H1 → R (kV k) H1 → te1 σ H1 R) (h2 : ∀ H1 (R : VK), Same H H1 → R v H1 → te2 σ H1 R)
    (nd : ((kvs ++ [(k, v)]).map (·.1)).Nodup) (hl : kvs.length ≤ 100) (q : ∀ Bn Hn, Same H Hn → Hn Bn = some (.dK (kvs ++ [(k, v)])) → Q (.ref Bn) Hn) :
    tCB (rDictP K) (tCons (tOp rCat (LiI.tListItems td) (tLst (tCons (tTup (tCons te1 (tCons te2 tNil))) tNil))) tNil) σ H Q := by
  refine ht _ ⟨B, kvs, rfl, hB, fun H1 p ts s1 hp0 hts hpt hp1 pr => h1 H1 _ s1 (h2 H1 _ s1 ⟨sz1000 (show 2 ≤ 1000 by decide), fun Z hZ => ⟨sz1000 (show 1 ≤ 1000 by decide), fun L hL => ?_⟩⟩)⟩
  have lt := paired_len pr
  have s2 := same_new (o := .tup [kV k, v]) hZ
  have hZ2 : (upd H1 Z (.tup [kV k, v])) Z = some (.tup [kV k, v]) := upd_same
  have s3 := same_new (o := .lst [.ref Z]) hL
  refine ⟨p, L, _, _, rfl, rfl, s3 _ _ (s2 _ _ hp1), upd_same, sz1000 (by rw [List.length_map]; show ts.length + 1 ≤ 1000; omega), fun M hM => ?_⟩
  have s4 := same_new (o := .lst (ts.map V.ref ++ [.ref Z])) hM
  refine ⟨M, ts ++ [Z], kvs ++ [(k, v)], rfl, SqL.of (by rw [upd_same, List.map_append]; rfl), paired_app (Paired.mapP pr fun t kv h => SqT.of (s4 _ _ (s3 _ _ (s2 _ _ h)))) (.cons (SqT.of (s4 _ _ (s3 _ _ hZ2))) .nil), fun Bn hBn => ?_⟩
  rw [mergeK_nil nd]
  exact q Bn _ ((((Same.trans s1 s2).trans s3).trans s4).trans (same_new hBn)) upd_same
end
end Pw

/-! _law_bad_names: the walk. -/
namespace Pw
open PySem PySem.Spec PyProof.Rows L2
section
variable {P : Program} {w : World} {K : PySem.W.Frag} {mg : Str → Option Value} {base : Heap}
def spBN : Sp := fun vs H Q _ => ∃ (p l d : Addr) (ns : List Str) (g : Str → Str), vs = [.ref p, .ref l, .ref d] ∧ PotAt p H ∧ rem p H l = some (.lst (ns.map .str)) ∧ 1 ≤ ns.length ∧ ns.length ≤ 9 ∧ ns.Nodup ∧ (∀ x ∈ ns, isNm x = true) ∧
  rem p H d = some (.dK (dictOf ns fun n => .str (g n))) ∧ (∀ n ∈ ns, isNm (g n) = true) ∧ (ns.map g).Nodup ∧ ∀ v H', PotAt p H' → Same (rem p H) (rem p H') → BadN (rem p H') ns v → Q v H'
theorem ok_bn (T : W0 K mg) : FnOk P w K mg base CX0 2 T.fBN T.dBN pBN spBN := by
  refine T.eBN.fn.ok scBN (fun vs H Q E h => ?_) (fun cdv A outer s H vs Q E hr h => ?_)
  · obtain ⟨p, l, d, ns, g, rfl, _⟩ := h
    rfl
  · obtain ⟨p, l, d, ns, g, rfl, hp, hl, n1, n9, hnd, hnm, hd, hg, hgd, k⟩ := h
    have hu := hu_of hr
    refine ⟨_, pss_cons (ps_set (i := 3) scBN.nd rfl (Or.inl rfl) (pe_ix ix_seq (pe_lst (pa_cons pe_str (pa_cons pe_str (pa_cons pe_str (pa_cons pe_str (pa_cons pe_non (pa_cons pe_int (pa_cons pe_bl (pa_cons (pe_lst (pa_cons pe_str pa_nil)) (pa_cons (pe_tup pa_nil) pa_nil))))))))))
        (pe_call (ok_take T) hr rfl T.eTake.g T.eTake.k T.eTake.b .nil pass0 (pa_cons (pv 0) (pa_cons pe_int pa_nil))) (fun _ _ => rfl)))
      (pss_cons (ps_set (i := 4) scBN.nd rfl (Or.inr rfl) (pe_ix ix_seq (pv 1) (pe_call (ok_take T) hr rfl T.eTake.g T.eTake.k T.eTake.b .nil pass0 (pa_cons (pv 0) (pa_cons (pe_callB call_len_seq rfl T.z_len boot_len (pa_cons (pv 1) pa_nil)) pa_nil))) (fun _ _ => rfl)))
      (pss_cons (ps_set (i := 5) scBN.nd rfl (Or.inl rfl) (pe_callTy (r := rDictP K) (call_dictP rfl) rfl T.z_dict boot_dict (pa_cons (pe_lc (own := [("_law_name", 8)]) rfl scBN.nd (pi_list (pv 1)) (blkOk_by (N := nBN) (sc := defScope sBN) (by decide +kernel)) (fun _ _ _ _ _ => pg_name (i := 8) scBN.nd rfl (Or.inl rfl))
        (fun _ _ _ _ _ => pts_one (pt_cmpR op_ne (pv 8) (pv 4) (nomark _))) (fun _ _ _ _ _ => pe_tup (pa_cons (pv 8) (pa_cons (pe_dget hu (pv 2) (pv 8) (fun _ _ => rfl)) pa_nil)))) pa_nil)))
      (pss_cons (ps_set (i := 6) scBN.nd rfl (Or.inl rfl) (pe_ix ix_seq (pe_lc (tt := tTest (tOp (rIn K true) (tVar 9) (tVar 1))) (own := [("_law_letter", 9)]) rfl scBN.nd (pi_str pe_str) (blkOk_by (N := nBN) (sc := defScope sBN) (by decide +kernel)) (fun _ _ _ _ _ => pg_name (i := 9) scBN.nd rfl (Or.inl rfl))
        (fun _ _ _ _ _ => pts_one (pt_cmpR op_notIn_seq (pv 9) (pv 1) rfl)) (fun _ _ _ _ _ => pv 9)) pe_int (fun _ _ => rfl)))
      (pss_cons (ps_set (i := 7) scBN.nd rfl (Or.inl rfl) (pe_lst (pa_cons (pv 5) (pa_cons (pe_callTy (r := rDictP K) (call_dictP rfl) rfl T.z_dict boot_dict (pa_cons (pe_op op_cat (LiI.pe_listItems rfl (pv 5) rfl T.z_list boot_list) (pe_lst (pa_cons (pe_tup (pa_cons (pv 4) (pa_cons (pv 3) pa_nil))) pa_nil))) pa_nil))
        (pa_cons (pe_callTy call_list_of rfl T.z_list boot_list (pa_cons (pv 1) pa_nil)) (pa_cons pe_non (pa_cons pe_str (pa_cons pe_int pa_nil))))))))
      (pss_cons (ps_expr (pe_bm PySem.F.plainAttrs_list PySem.F.slot_list_append PySem.F.type_list_append mt_append (pv 7) (pa_cons (pe_callTy (r := rDictP K) (call_dictP rfl) rfl T.z_dict boot_dict (pa_cons (pe_op op_cat (LiI.pe_listItems rfl (pv 5) rfl T.z_list boot_list)
        (pe_lst (pa_cons (pe_tup (pa_cons (pv 6) (pa_cons (pe_dget hu (pv 2) (pv 4) (fun _ _ => rfl)) pa_nil))) pa_nil))) pa_nil)) pa_nil)))
      (pss_cons (ps_expr (pe_bm PySem.F.plainAttrs_list PySem.F.slot_list_append PySem.F.type_list_append mt_append (pv 7) (pa_cons (pe_callTy (r := rDictP K) (call_dictP rfl) rfl T.z_dict boot_dict (pa_cons (pe_op op_cat (LiI.pe_listItems rfl (pv 2) rfl T.z_list boot_list)
        (pe_lst (pa_cons (pe_tup (pa_cons (pv 6) (pa_cons pe_str pa_nil))) pa_nil))) pa_nil)) pa_nil)))
      (pss_cons (ps_if (pt_cmpR op_gt (pe_callB call_len_seq rfl T.z_len boot_len (pa_cons (pv 1) pa_nil)) pe_int (nomark _))
        (pss_one (ps_expr (pe_bm PySem.F.plainAttrs_list PySem.F.slot_list_append PySem.F.type_list_append mt_append (pv 7) (pa_cons (pe_callTy (r := rDictP K) (call_dictP rfl) rfl T.z_dict boot_dict (pa_cons (pe_lc (own := [("_law_name", 8)]) rfl scBN.nd (pi_list (pv 1)) (blkOk_by (N := nBN) (sc := defScope sBN) (by decide +kernel))
          (fun _ _ _ _ _ => pg_name (i := 8) scBN.nd rfl (Or.inl rfl)) (fun _ _ _ _ _ => pts_nil) (fun _ _ _ _ _ => pe_tup (pa_cons (pv 8) (pa_cons (pe_dget hu (pv 2) (pv 4) (fun _ _ => rfl)) pa_nil)))) pa_nil)) pa_nil)))) pss_nil)
      (pss_one (ps_ret (pe_ix ix_seq (pv 7) (pe_call (ok_take T) hr rfl T.eTake.g T.eTake.k T.eTake.b .nil pass0 (pa_cons (pv 0) (pa_cons (pe_callB call_len_seq rfl T.z_len boot_len (pa_cons (pv 7) pa_nil)) pa_nil))) (fun _ _ => rfl))))))))))), ?_⟩
    -- what isn't a name
    have hlH := (of_rem hl).2
    have hdH := (of_rem hd).2
    refine ⟨sz1000 (show 1 ≤ 1000 by decide), fun La hLa => ⟨sz1000 (show 0 ≤ 1000 by decide), fun Te hTe => ⟨sz1000 (show 9 ≤ 1000 by decide), fun L hL => ?_⟩⟩⟩
    have sa := same_new (o := .lst [V.str "a"]) hLa
    have sb := same_new (o := .tup []) hTe
    have sc := same_new (o := .lst [V.str "", V.str "A", V.str "abcde", V.str "a1", V.non, V.int 3, V.bl true, V.ref La, V.ref Te]) hL
    have hp3 := ((hp.new (o := .lst [V.str "a"]) hLa).new (o := .tup []) hTe).new (o := .lst [V.str "", V.str "A", V.str "abcde", V.str "a1", V.non, V.int 3, V.bl true, V.ref La, V.ref Te]) hL
    have gLa := sc _ _ (sb _ _ (upd_same (H := H) (a := La) (o := .lst [V.str "a"])))
    have gTe := sc _ _ (upd_same (H := upd H La (.lst [V.str "a"])) (a := Te) (o := .tup []))
    have gL := upd_same (H := upd (upd H La (.lst [V.str "a"])) Te (.tup [])) (a := L) (o := .lst [V.str "", V.str "A", V.str "abcde", V.str "a1", V.non, V.int 3, V.bl true, V.ref La, V.ref Te])
    have nLa := hp.ne hLa
    have nTe := (hp.new (o := .lst [V.str "a"]) hLa).ne hTe
    have nL := ((hp.new (o := .lst [V.str "a"]) hLa).new (o := .tup []) hTe).ne hL
    have s03 := same_remr (p := p) ((sa.trans sb).trans sc)
    generalize upd (upd (upd H La (.lst [V.str "a"])) Te (.tup [])) L (.lst [V.str "", V.str "A", V.str "abcde", V.str "a1", V.non, V.int 3, V.bl true, V.ref La, V.ref Te]) = H1 at hp3 gLa gTe gL s03 ⊢
    have rLa : rem p H1 La = some (.lst [V.str "a"]) := by rw [rem_ne nLa]; exact gLa
    have rTe : rem p H1 Te = some (.tup []) := by rw [rem_ne nTe]; exact gTe
    have rL : rem p H1 L = some (.lst [V.str "", V.str "A", V.str "abcde", V.str "a1", V.non, V.int 3, V.bl true, V.ref La, V.ref Te]) := by rw [rem_ne nL]; exact gL
    have odd : ∀ v ∈ ([V.str "", V.str "A", V.str "abcde", V.str "a1", V.non, V.int 3, V.bl true, V.ref La, V.ref Te] : List V), OddV (rem p H1) v := by
      intro v hv
      have st : ∀ x : Str, x.length ≤ 10 → (∀ c ∈ x.cps.toList, c < 1114112) → isNm x = false → OddV (rem p H1) (.str x) := fun x h1 h2 h3 => ⟨h3, ⟨_, .str x, fun y e => by cases e; omega⟩, F1.sc (s1_str h1 h2)⟩
      simp only [List.mem_cons, List.not_mem_nil, or_false] at hv
      rcases hv with rfl | rfl | rfl | rfl | rfl | rfl | rfl | rfl | rfl
      · exact st _ (by decide +kernel) (by decide +kernel) (by decide +kernel)
      · exact st _ (by decide +kernel) (by decide +kernel) (by decide +kernel)
      · exact st _ (by decide +kernel) (by decide +kernel) (by decide +kernel)
      · exact st _ (by decide +kernel) (by decide +kernel) (by decide +kernel)
      · exact ⟨rfl, ⟨_, .non, fun y e => nomatch e⟩, F1.sc s1_non⟩
      · exact ⟨rfl, ⟨_, .int 3, fun y e => nomatch e⟩, F1.sc (s1_int (by decide) (by decide))⟩
      · exact ⟨rfl, ⟨_, .bl true, fun y e => nomatch e⟩, F1.sc (s1_bl true)⟩
      · exact ⟨rfl, ⟨_, .lst rLa, fun y e => nomatch e⟩, F1.lst rLa (fun v hv => by rw [List.mem_singleton.mp hv]; exact s1_str (by decide +kernel) (by decide +kernel)) (by decide)⟩
      · exact ⟨rfl, ⟨_, .tup rTe, fun y e => nomatch e⟩, F1.tup0 rTe⟩
    refine ⟨_, rfl, p, _, rfl, hp3, by decide, by decide, fun dd H2 e0 e1 hp4 s4 => ?_⟩
    obtain ⟨dn, rfl⟩ : ∃ dn : Nat, dd = (dn : Int) := ⟨dd.toNat, by omega⟩
    have hdn : dn < ([V.str "", V.str "A", V.str "abcde", V.str "a1", V.non, V.int 3, V.bl true, V.ref La, V.ref Te] : List V).length := by show dn < 9; omega
    generalize hov : ([V.str "", V.str "A", V.str "abcde", V.str "a1", V.non, V.int 3, V.bl true, V.ref La, V.ref Te] : List V)[dn] = ov
    have hodd : OddV (rem p H2) ov := (odd ov (by rw [← hov]; exact List.getElem_mem _)).same s4
    refine .inl ⟨L, _, _, ov, rfl, rfl, SqL.of (of_rem (s4 _ _ rL)).2, atI_nat (by rw [List.getElem?_eq_getElem hdn, hov]), ?_⟩
    have sH2 := s03.trans s4
    -- one of the names
    refine ⟨_, rfl, _, rfl, _, rfl, l, _, rfl, .inl (SqL.of (of_rem (sH2 _ _ hl)).2), p, _, rfl, hp4, by rw [List.length_map]; omega, by rw [List.length_map]; omega, fun d2 H3 f0 f1 hp5 s5 => ?_⟩
    rw [List.length_map] at f1
    obtain ⟨on, rfl⟩ : ∃ on : Nat, d2 = (on : Int) := ⟨d2.toNat, by omega⟩
    have hon : on < ns.length := by omega
    have hone : ns[on] ∈ ns := List.getElem_mem _
    have sH3 := sH2.trans s5
    have hl3 := (of_rem (sH3 _ _ hl)).2
    refine .inl ⟨l, _, _, .str ns[on], rfl, rfl, SqL.of hl3, atI_nat (by rw [List.getElem?_map, List.getElem?_eq_getElem hon]; rfl), ?_⟩
    generalize ns[on] = one at hone
    have hodd3 := hodd.same s5
    have hd3 := (of_rem (sH3 _ _ hd)).2
    have hov3 := hodd3.same same_rem
    let f : Str → V := fun n => .str (g n)
    have vf : ∀ n ∈ ns, valV (dictOf ns f) (.inr n) = some (f n) := fun n hn => valV_dictOf hn
    let lf := ns.filter fun n => decide (n ≠ one)
    have lfl : lf.length ≤ 9 := Nat.le_trans (List.length_filter_le _ _) n9
    have lfn : ∀ n ∈ lf, n ∈ ns := fun n hn => (List.mem_filter.mp hn).1
    have lfo : one ∉ lf := fun h => of_decide_eq_true (List.mem_filter.mp h).2 rfl
    have lfd : lf.Nodup := hnd.filter _
    have kS : ∀ {ms : List Str} {F : Str → V}, (∀ n ∈ ms, n ∈ ns) → ∀ kv ∈ dictOf ms F, S1 (kV kv.1) := fun hm kv hkv => by
      obtain ⟨n, hn, rfl⟩ := List.mem_map.mp hkv
      exact nm_s1 (hnm n (hm n hn))
    have vS : ∀ {ms : List Str} {G : Hp}, (∀ n ∈ ms, n ∈ ns) → ∀ kv ∈ dictOf ms f, F1 G kv.2 ∧ ArgV G kv.2 := fun hm kv hkv => by
      obtain ⟨n, hn, rfl⟩ := List.mem_map.mp hkv
      exact ⟨F1.sc (nm_s1 (hg n (hm n hn))), arg_nm (hg n (hm n hn))⟩
    -- left
    refine ⟨_, rfl, l, rfl, ⟨_, SqL.of hl3⟩, fun D hD => lc_fil (walk_list (K := K) (a := l) (xs := ns.map V.str)) (fun i => decide (ns[i]?.getD small ≠ one)) (fun i y G => ∃ Z, y = .ref Z ∧ G Z = some (.tup [.str (ns[i]?.getD small), f (ns[i]?.getD small)])) (fun _ _ _ _ s ⟨Z, e, h⟩ => ⟨Z, e, s _ _ h⟩) hD (fun H4 s4 => SqL.of (s4 _ _ hl3)) ?_ ?_⟩
    · rintro i y H4 H5 hi lp s4 ⟨rfl, e⟩
      obtain ⟨n, hn, rfl⟩ := vals_str e
      have hi9 : i < 1000 := by rw [List.length_map] at hi; omega
      refine ⟨rfl, .str n, rfl, .str one, rfl, rfl, _, rfl, ?_⟩
      by_cases hno : n = one
      · have e1 : (!decide (V.str n = V.str one)) = false := by rw [decide_eq_true (by rw [hno])]; rfl
        rw [e1]
        exact iteF (lp.skip hi9 (Same.refl _) (by rw [hn]; exact decide_eq_false fun z => z hno))
      · have e1 : (!decide (V.str n = V.str one)) = true := by rw [decide_eq_false fun z => hno (V.str.inj z)]; rfl
        rw [e1]
        refine iteT ⟨_, rfl, _, rfl, _, rfl, d, f n, rfl, by rw [← vf n (List.mem_of_getElem? hn)]; exact DGet.k (k := .inr n) (s4 _ _ hd3), sz1000 (show 2 ≤ 1000 by decide), fun Z hZ => ?_⟩
        obtain ⟨_, _, _, _, acc, hacc, _⟩ := id lp
        refine lp.put hi9 (same_new hZ) (by rw [hn]; exact decide_eq_true hno) ⟨Z, rfl, ?_⟩
        rw [rem_ne (ne_of_none hacc hZ).symm, upd_same, hn]
        rfl
    intro H4 lp4
    obtain ⟨_, t4, _, _, ys4, hy4, pr4⟩ := lp4
    rw [List.length_map] at pr4
    have pr4' : Paired (fun n y => ∃ Z, y = .ref Z ∧ H4 Z = some (.tup [.str n, f n])) lf ys4 := by
      have := paired_map1 (F := fun n y => ∃ Z, y = V.ref Z ∧ H4 Z = some (.tup [.str n, f n])) (fun i => ns[i]?.getD small) (Paired.mapP pr4 fun i y ⟨Z, e, h⟩ => ⟨Z, e, same_rem _ _ h⟩)
      rwa [filter_ix ns fun n => decide (n ≠ one)] at this
    obtain ⟨ps4, qs4, qp4⟩ := dict_pairs (K := K) hy4 pr4'
    refine ⟨D, ps4, dictOf lf f, rfl, qs4, qp4, fun B hB => ?_⟩
    rw [mergeK_nil (dictOf_keys lfd)]
    have t5 := t4.trans (same_new (o := .dK (dictOf lf f)) hB)
    have hB5 : (upd H4 B (.dK (dictOf lf f))) B = some (.dK (dictOf lf f)) := upd_same
    generalize upd H4 B (.dK (dictOf lf f)) = H5 at t5 hB5 ⊢
    -- a letter that is no name
    have ss : small.cps.size = 26 := by decide +kernel
    have hl5 := t5 _ _ hl3
    refine ⟨small, rfl, fun D hD => lc_fil (walk_str (z := small)) (fun i => decide (ch i ∉ ns)) (fun i y _ => y = .str (ch i)) (fun _ _ _ _ _ h => h) hD (fun _ _ => trivial) ?_ ?_⟩
    · rintro i y H6 H7 hi lp s6 ⟨rfl, c, hc, rfl⟩
      rw [ss] at hi
      have ec : (⟨#[c]⟩ : Str) = ch i := by
        have := small_at ⟨i, hi⟩
        rw [Array.getElem?_toList, hc] at this
        rw [Option.some.inj this]
        rfl
      refine ⟨rfl, _, rfl, _, rfl, l, _, rfl, .inl (SqL.of (s6 _ _ hl5)), rfl, flat_str ns, _, rfl, ?_⟩
      rw [ec]
      by_cases hin : ch i ∈ ns
      · have e1 : (if true = true then !inV (V.str (ch i)) (ns.map V.str) else inV (V.str (ch i)) (ns.map V.str)) = false := by rw [if_pos rfl, in_str.mpr hin]; rfl
        rw [e1]
        exact iteF (lp.skip (by omega) (Same.refl _) (decide_eq_false fun z => z hin))
      · have e1 : (if true = true then !inV (V.str (ch i)) (ns.map V.str) else inV (V.str (ch i)) (ns.map V.str)) = true := by
          rw [if_pos rfl]
          cases e2 : inV (V.str (ch i)) (ns.map V.str) with
          | false => rfl
          | true => exact absurd (in_str.mp e2) hin
        rw [e1]
        exact iteT ⟨_, rfl, lp.put (by omega) (Same.refl _) (decide_eq_true hin) rfl⟩
    intro H6 lp6
    obtain ⟨_, t6, _, _, ys6, hy6, pr6⟩ := lp6
    rw [ss] at pr6
    obtain ⟨si, hsi, hsn⟩ : ∃ si, ys6[0]? = some (.str (ch si)) ∧ si < 26 ∧ ch si ∉ ns := by
      obtain ⟨i0, h26, hno⟩ := strange_ex n9
      have hm : i0 ∈ (List.range 26).filter fun i => decide (ch i ∉ ns) := List.mem_filter.mpr ⟨List.mem_range.mpr h26, decide_eq_true hno⟩
      cases hf : (List.range 26).filter fun i => decide (ch i ∉ ns) with
      | nil => rw [hf] at hm; exact absurd hm (by simp)
      | cons j r =>
        rw [hf] at pr6
        obtain ⟨y, hy, e⟩ := paired_at pr6 (i := 0) (x := j) rfl
        have hj : j ∈ (List.range 26).filter fun i => decide (ch i ∉ ns) := by rw [hf]; exact List.mem_cons_self
        obtain ⟨h1, h2⟩ := List.mem_filter.mp hj
        exact ⟨j, by rw [hy, e], List.mem_range.mp h1, of_decide_eq_true h2⟩
    have snm : isNm (ch si) = true := ch_nm ⟨si, hsn.1⟩
    have hso := hsn.2
    generalize ch si = sx at hsi snm hso
    clear hsn
    refine .inl ⟨_, _, 0, .str sx, rfl, rfl, SqL.of hy6, atI_nat (j := 0) hsi, ?_⟩
    have t36 := t5.trans t6
    have hB6 := t6 _ _ hB5
    have hl6 := t36 _ _ hl3
    have hd6 := t36 _ _ hd3
    have one_ne : sx ≠ one := fun e => hso (e ▸ hone)
    have hsl : sx ∉ lf := fun h => hso (lfn _ h)
    have hp6 : PotAt p H6 := hp5.same t36
    have hpl : ∃ i j : Int, H6 p = some (.lst [.int i, .int j]) := by
      obtain ⟨i, j, e, _⟩ := hp6
      exact ⟨i, j, e⟩
    -- the six first
    refine ⟨_, rfl, dict_more (K := K) (B := B) (kvs := dictOf lf f) (k := .inr one) (v := ov) hB6 (fun R h => ⟨_, rfl, h⟩) (fun H1 R _ h => ⟨_, rfl, h⟩) (fun H1 R _ h => ⟨_, rfl, h⟩) (app_keys lfd lfo) (by unfold dictOf; rw [List.length_map]; omega) fun B1 H7 t7 hB1 => ?_⟩
    refine ⟨_, rfl, l, _, rfl, .inl (SqL.of (t7 _ _ hl6)), fun Ln hLn => ⟨sz1000 (show 6 ≤ 1000 by decide), fun So hSo => ?_⟩⟩
    have hp7 : PotAt p H7 := hp6.same t7
    have kd : ∀ {Hx : Hp} {a : Addr} {kv : List (Key × V)}, PotAt p Hx → Hx a = some (.dK kv) → rem p Hx a = some (.dK kv) := fun hpx h => by
      obtain ⟨i, j, e, _⟩ := hpx
      exact rem_of e h (by intro z; cases z)
    have t8 := same_new (o := .lst (ns.map V.str)) hLn
    have hp8 := hp7.new (o := .lst (ns.map V.str)) hLn
    have gLn : rem p (upd H7 Ln (.lst (ns.map V.str))) Ln = some (.lst (ns.map V.str)) := by rw [rem_ne (hp7.ne hLn), upd_same]
    generalize upd H7 Ln (.lst (ns.map V.str)) = H8 at t8 hp8 gLn hSo ⊢
    have t38 := (t36.trans t7).trans t8
    have no_one : ∀ {kv : List (Key × V)}, valV kv (.inr one) = none → ∀ g', ¬ GoodG kv ns g' := fun e g' gg => by
      have := (gg.2.1 one hone).1
      rw [e] at this
      cases this
    have all8 : ∀ v ∈ ([.ref B, .ref B1, .ref Ln, .non, .str "a", .int 3] : List V), BadN (rem p H8) ns v := by
      intro v hv
      simp only [List.mem_cons, List.not_mem_nil, or_false] at hv
      have plain : ∀ {v : V} {t : String}, Ty (rem p H8) v t → (∀ d' : Addr, ∀ kv, v = .ref d' → ¬ rem p H8 d' = some (.dK kv)) → Sh (rem p H8) v → BadN (rem p H8) ns v := fun ty h1 h2 =>
        ⟨⟨⟨_, ty, fun d' kv e1 e2 => absurd e2 (h1 d' kv e1)⟩, fun d' kv g' e1 e2 => absurd e2 (h1 d' kv e1)⟩, h2⟩
      rcases hv with rfl | rfl | rfl | rfl | rfl | rfl
      · exact bad_dict (kd hp8 (t8 _ _ (t7 _ _ hB6))) (kS lfn) (vS lfn) (by unfold dictOf; rw [List.length_map]; omega) (no_one (valV_no lfo))
      · refine bad_dict (kd hp8 (t8 _ _ hB1)) (fun kv hkv => ?_) (fun kv hkv => ?_) (by unfold dictOf; rw [List.length_append, List.length_map]; show lf.length + 1 ≤ 40; omega) fun g' gg => ?_
        · rcases List.mem_append.mp hkv with z | z
          · exact kS lfn kv z
          · rw [List.mem_singleton.mp z]; exact nm_s1 (hnm _ hone)
        · rcases List.mem_append.mp hkv with z | z
          · exact vS lfn kv z
          · rw [List.mem_singleton.mp z]
            have := hodd3.same (same_remr t38)
            exact ⟨this.2.2, this.2.1⟩
        · have h1 := (gg.2.1 one hone)
          rw [valV_app lfo, if_pos rfl] at h1
          have e := Option.some.inj h1.1
          have := hodd.1
          rw [e] at this
          have h2 : isNm (g' one) = false := this
          rw [h1.2] at h2
          exact Bool.noConfusion h2
      · refine plain (.lst gLn) (fun d' kv e1 e2 => ?_) (Sh.lst gLn (fun v hv => ?_) (by rw [List.length_map]; omega))
        · cases e1
          rw [gLn] at e2
          cases e2
        · obtain ⟨n, hn, rfl⟩ := List.mem_map.mp hv
          exact F1.sc (nm_s1 (hnm n hn))
      · exact plain .non (fun d' kv e1 => nomatch e1) (Sh.sc s1_non)
      · exact plain (.str _) (fun d' kv e1 => nomatch e1) (Sh.sc (s1_str (by decide +kernel) (by decide +kernel)))
      · exact plain (.int _) (fun d' kv e1 => nomatch e1) (Sh.sc (s1_int (by decide) (by decide)))
    have nSo := hp8.ne hSo
    have t89 := same_new (o := .lst [.ref B, .ref B1, .ref Ln, .non, .str "a", .int 3]) hSo
    have t9 := t38.trans t89
    have hp9 := hp8.new (o := .lst [.ref B, .ref B1, .ref Ln, .non, .str "a", .int 3]) hSo
    have gSo : (upd H8 So (.lst [.ref B, .ref B1, .ref Ln, .non, .str "a", .int 3])) So = some (.lst [.ref B, .ref B1, .ref Ln, .non, .str "a", .int 3]) := upd_same
    have w9 : rem So (rem p (upd H8 So (.lst [.ref B, .ref B1, .ref Ln, .non, .str "a", .int 3]))) = rem p H8 := by
      rw [rem_upd_ne nSo, rem_upd, rem_none (rem_fresh hSo)]
    have all9 : ∀ v ∈ ([.ref B, .ref B1, .ref Ln, .non, .str "a", .int 3] : List V), BadN (rem So (rem p (upd H8 So (.lst [.ref B, .ref B1, .ref Ln, .non, .str "a", .int 3])))) ns v := by rw [w9]; exact all8
    generalize upd H8 So (.lst [.ref B, .ref B1, .ref Ln, .non, .str "a", .int 3]) = H9 at t89 t9 hp9 gSo all9 ⊢
    have hB9 := t89 _ _ (t8 _ _ (t7 _ _ hB6))
    have f3 : H3 So = none := t38.free hSo
    -- behind an append
    have app : ∀ {Hx Hy : Hp} {xs : List V} {v : V}, PotAt p Hx → Same H3 Hx → (∀ u ∈ xs, BadN (rem So (rem p Hx)) ns u) → Same Hx Hy → BadN (rem So (rem p Hy)) ns v →
        PotAt p (upd Hy So (.lst (xs ++ [v]))) ∧ Same H3 (upd Hy So (.lst (xs ++ [v]))) ∧ (upd Hy So (.lst (xs ++ [v]))) So = some (.lst (xs ++ [v])) ∧ ∀ u ∈ xs ++ [v], BadN (rem So (rem p (upd Hy So (.lst (xs ++ [v]))))) ns u := by
      intro Hx Hy xs v hpx tx ax s b
      refine ⟨(hpx.same s).put nSo, same_put (tx.trans s) f3, upd_same, fun u hu => ?_⟩
      rw [rem_upd_ne nSo, rem_upd]
      rcases List.mem_append.mp hu with z | z
      · exact (ax u z).same (same_remr (same_remr s))
      · rw [List.mem_singleton.mp z]; exact b
    have kd2 : ∀ {Hx : Hp} {a : Addr} {kv : List (Key × V)} {xs : List V}, PotAt p Hx → Hx So = some (.lst xs) → Hx a = some (.dK kv) → rem So (rem p Hx) a = some (.dK kv) := fun hpx hs h => by
      rw [rem_ne (ne_of h hs (by intro z; cases z))]
      exact kd hpx h
    -- a letter instead of the one
    refine ⟨.ref So, rfl, .inl ⟨rfl, _, SqL.of gSo⟩, dict_more (K := K) (B := B) (kvs := dictOf lf f) (k := .inr sx) (v := f one) hB9 (fun R h => ⟨_, rfl, h⟩) (fun H1 R _ h => ⟨_, rfl, h⟩) (fun H1 R s h => ⟨_, rfl, _, rfl, d, f one, rfl, by rw [← vf one hone]; exact DGet.k (k := .inr one) (s _ _ (t9 _ _ hd3)), h⟩) (app_keys lfd hsl) (by unfold dictOf; rw [List.length_map]; omega) fun B2 Ha ta hB2 => ?_⟩
    have b2 : BadN (rem So (rem p Ha)) ns (.ref B2) := by
      refine bad_dict (kd2 (hp9.same ta) (ta _ _ gSo) hB2) (fun kv hkv => ?_) (fun kv hkv => ?_) (by unfold dictOf; rw [List.length_append, List.length_map]; show lf.length + 1 ≤ 40; omega) (no_one (by rw [valV_app lfo, if_neg one_ne]))
      · rcases List.mem_append.mp hkv with z | z
        · exact kS lfn kv z
        · rw [List.mem_singleton.mp z]; exact nm_s1 snm
      · rcases List.mem_append.mp hkv with z | z
        · exact vS lfn kv z
        · rw [List.mem_singleton.mp z]; exact ⟨F1.sc (nm_s1 (hg one hone)), arg_nm (hg one hone)⟩
    refine ⟨So, _, .ref B2, rfl, rfl, ta _ _ gSo, small1000 (show 6 ≤ 1000 by decide), ?_⟩
    obtain ⟨hp10, t10, gSo10, all10⟩ := app hp9 t9 all9 ta b2
    have l10 : (([.ref B, .ref B1, .ref Ln, .non, .str "a", .int 3] : List V) ++ [V.ref B2]).length = 7 := rfl
    generalize (([.ref B, .ref B1, .ref Ln, .non, .str "a", .int 3] : List V) ++ [V.ref B2]) = xs10 at hp10 t10 gSo10 all10 l10 ⊢
    generalize upd Ha So (.lst xs10) = H10 at hp10 t10 gSo10 all10 ⊢
    -- one more
    have hd10 := t10 _ _ hd3
    refine ⟨.ref So, rfl, .inl ⟨rfl, _, SqL.of gSo10⟩, dict_more (K := K) (B := d) (kvs := dictOf ns f) (k := .inr sx) (v := .str "zzzz") hd10 (fun R h => ⟨_, rfl, h⟩) (fun H1 R _ h => ⟨_, rfl, h⟩) (fun H1 R s h => h) (app_keys hnd hso) (by unfold dictOf; rw [List.length_map]; omega) fun B3 Hb tb hB3 => ?_⟩
    have b3 : BadN (rem So (rem p Hb)) ns (.ref B3) := by
      refine bad_dict (kd2 (hp10.same tb) (tb _ _ gSo10) hB3) (fun kv hkv => ?_) (fun kv hkv => ?_) (by unfold dictOf; rw [List.length_append, List.length_map]; show ns.length + 1 ≤ 40; omega) fun g' gg => ?_
      · rcases List.mem_append.mp hkv with z | z
        · exact kS (fun _ h => h) kv z
        · rw [List.mem_singleton.mp z]; exact nm_s1 snm
      · rcases List.mem_append.mp hkv with z | z
        · exact vS (fun _ h => h) kv z
        · rw [List.mem_singleton.mp z]; exact ⟨F1.sc (s1_str (by decide +kernel) (by decide +kernel)), ⟨_, .str _, fun y e => by cases e; decide +kernel⟩⟩
      · have := gg.1
        unfold dictOf at this
        rw [List.length_append, List.length_map, List.length_singleton] at this
        omega
    refine ⟨So, _, .ref B3, rfl, rfl, tb _ _ gSo10, small1000 (by omega), ?_⟩
    obtain ⟨hp11, t11, gSo11, all11⟩ := app hp10 t10 all10 tb b3
    have l11 : (xs10 ++ [V.ref B3]).length = 8 := by rw [List.length_append, l10]; rfl
    generalize xs10 ++ [V.ref B3] = xs11 at hp11 t11 gSo11 all11 l11 ⊢
    generalize upd Hb So (.lst xs11) = H11 at hp11 t11 gSo11 all11 ⊢
    dsimp only
    refine seq_by (t := tIfS _ _ _) (fun σ Hn => ∃ xs : List V, σ = [some (.ref p), some (.ref l), some (.ref d), some ov, some (.str one), some (.ref B), some (.str sx), some (.ref So), none, none] ∧ PotAt p Hn ∧ Same H3 Hn ∧ Hn So = some (.lst xs) ∧ (∀ u ∈ xs, BadN (rem So (rem p Hn)) ns u) ∧ 1 ≤ xs.length ∧ xs.length ≤ 20) (fun R hR => ?_) ?_
    · have hl11 := t11 _ _ hl3
      refine ⟨_, rfl, l, _, rfl, .inl (SqL.of hl11), _, _, rfl, rfl, _, rfl, ite2 (fun h2 => ?_) (fun h2 => ?_)⟩
      · have n2 : 2 ≤ ns.length := by
          have := of_decide_eq_true h2
          rw [List.length_map] at this
          omega
        have hd11 := t11 _ _ hd3
        refine ⟨.ref So, rfl, .inl ⟨rfl, _, SqL.of gSo11⟩, ?_⟩
        refine ⟨_, rfl, l, rfl, ⟨_, SqL.of hl11⟩, fun D hD => lc_fil (walk_list (K := K) (a := l) (xs := ns.map V.str)) (fun _ => true) (fun i y G => ∃ n, ns[i]? = some n ∧ ∃ Z, y = .ref Z ∧ G Z = some (.tup [.str n, f one])) (fun _ _ _ _ s ⟨n, hn, Z, e, h⟩ => ⟨n, hn, Z, e, s _ _ h⟩) hD (fun H4 s4 => SqL.of (s4 _ _ hl11)) ?_ ?_⟩
        · rintro i y H4 H5 hi lp s4 ⟨rfl, e⟩
          obtain ⟨n, hn, rfl⟩ := vals_str e
          have hi9 : i < 1000 := by rw [List.length_map] at hi; omega
          refine ⟨rfl, tyes ⟨_, rfl, _, rfl, _, rfl, d, f one, rfl, by rw [← vf one hone]; exact DGet.k (k := .inr one) (s4 _ _ hd11), sz1000 (show 2 ≤ 1000 by decide), fun Z hZ => ?_⟩⟩
          obtain ⟨_, _, _, _, acc, hacc, _⟩ := id lp
          refine lp.put hi9 (same_new hZ) rfl ⟨n, hn, Z, rfl, ?_⟩
          rw [rem_ne (ne_of_none hacc hZ).symm, upd_same]
        intro H12 lp12
        obtain ⟨t12, ys, hys, hn12, hr12⟩ := lp12.all
        have pr : Paired (fun n y => ∃ Z, y = .ref Z ∧ H12 Z = some (.tup [.str n, (fun _ => f one) n])) ns ys := paired_of (by rw [hn12, List.length_map]) fun i n y hn hy => by
          obtain ⟨n', hn', Z, e, h⟩ := hr12 i y hy
          rw [hn] at hn'
          cases hn'
          exact ⟨Z, e, same_rem _ _ h⟩
        obtain ⟨ps, q1, q2⟩ := dict_pairs (K := K) hys pr
        refine ⟨D, ps, dictOf ns fun _ => f one, rfl, q1, q2, fun B4 hB4 => ?_⟩
        rw [mergeK_nil (dictOf_keys hnd)]
        have t13 := t12.trans (same_new (o := .dK (dictOf ns fun _ => f one)) hB4)
        have gB4 : (upd H12 B4 (.dK (dictOf ns fun _ => f one))) B4 = some (.dK (dictOf ns fun _ => f one)) := upd_same
        generalize upd H12 B4 (.dK (dictOf ns fun _ => f one)) = H13 at t13 gB4 ⊢
        have b4 : BadN (rem So (rem p H13)) ns (.ref B4) := by
          refine bad_dict (kd2 (hp11.same t13) (t13 _ _ gSo11) gB4) (kS fun _ h => h) (fun kv hkv => ?_) (by unfold dictOf; rw [List.length_map]; omega) fun g' gg => ?_
          · obtain ⟨n, hn, rfl⟩ := List.mem_map.mp hkv
            exact ⟨F1.sc (nm_s1 (hg one hone)), arg_nm (hg one hone)⟩
          · have e : ∀ n ∈ ns, g' n = g one := fun n hn => by
              have h1 := (gg.2.1 n hn).1
              rw [valV_dictOf (f := fun _ => f one) hn] at h1
              exact (V.str.inj (Option.some.inj h1)).symm
            have h0 : 0 < ns.length := by omega
            have h1 : 1 < ns.length := by omega
            have := nd_ix gg.2.2 (i := 0) (j := 1) (x := g one) (by rw [List.getElem?_map, List.getElem?_eq_getElem h0]; show some (g' ns[0]) = _; rw [e _ (List.getElem_mem _)]) (by rw [List.getElem?_map, List.getElem?_eq_getElem h1]; show some (g' ns[1]) = _; rw [e _ (List.getElem_mem _)])
            omega
        refine ⟨So, _, .ref B4, rfl, rfl, t13 _ _ gSo11, small1000 (by omega), ?_⟩
        obtain ⟨hp14, t14, gSo14, all14⟩ := app hp11 t11 all11 t13 b4
        exact hR _ _ ⟨_, rfl, hp14, t14, gSo14, all14, by rw [List.length_append]; omega, by rw [List.length_append, List.length_singleton]; omega⟩
      · exact hR _ _ ⟨xs11, rfl, hp11, t11, gSo11, all11, by omega, by omega⟩
    · rintro σ Hn ⟨xs, rfl, hpn, tn, gSon, alln, x1, x20⟩
      refine ⟨_, rfl, _, rfl, _, rfl, So, _, rfl, .inl (SqL.of gSon), p, _, rfl, hpn, by omega, by omega, fun dd Hm e0 e1 hpm sm => ?_⟩
      obtain ⟨jn, rfl⟩ : ∃ jn : Nat, dd = (jn : Int) := ⟨dd.toNat, by omega⟩
      have hjn : jn < xs.length := by omega
      have gSom : Hm So = some (.lst xs) := (of_rem (sm _ _ (by rw [rem_ne nSo]; exact gSon))).2
      exact .inl ⟨So, xs, _, xs[jn], rfl, rfl, SqL.of gSom, atI_nat (List.getElem?_eq_getElem hjn), k _ Hm hpm (sH3.trans ((same_remr tn).trans sm)) ((alln _ (List.getElem_mem _)).same (same_rem.trans sm))⟩
end
end Pw

/-! _law_bad_order: the plain part. -/
namespace Pw
open PySem PySem.Spec PyProof.Rows L2
def BadO (G : Hp) (n : Nat) (v : V) : Prop := (OrdArg G v ∧ ∀ is, ¬ GoodO G n v is) ∧ Sh G v
theorem row_back {H H' : Hp} (s : Same H H') {a : Addr} {t : String} (ty : Ty H (.ref a) t) {xs : List V} (r : RowAt H' a xs) : RowAt H a xs := by
  obtain ⟨o, ho⟩ := ty_there ty
  have := s _ _ ho
  rcases r with h | h
  · rw [this] at h
    exact .inl (by rw [ho, h])
  · rw [this] at h
    exact .inr (by rw [ho, h])
theorem BadO.same {H H' : Hp} (s : Same H H') {n : Nat} {v : V} (h : BadO H n v) : BadO H' n v := by
  obtain ⟨⟨⟨t, ty, h1⟩, h2⟩, h3⟩ := h
  refine ⟨⟨⟨t, ty.same s, fun a xs e r => ?_⟩, fun is ⟨a, e, r, rest⟩ => ?_⟩, h3.same s⟩
  · subst e
    obtain ⟨q1, q2⟩ := h1 a xs rfl (row_back s ty r)
    exact ⟨q1, fun y hy => let ⟨t', y'⟩ := q2 y hy; ⟨t', y'.same s⟩⟩
  · subst e
    exact h2 is ⟨a, rfl, row_back s ty r, rest⟩
/-- an item of such a row -/
def ItV (G : Hp) (v : V) : Prop := F1 G v ∧ ∃ t, Ty G v t
theorem ItV.same {H H' : Hp} (s : Same H H') {v : V} (h : ItV H v) : ItV H' v := ⟨h.1.same s, let ⟨t, y⟩ := h.2; ⟨t, y.same s⟩⟩
theorem it_int {G : Hp} {i : Int} (h0 : -1 ≤ i) (h1 : i ≤ 30) : ItV G (.int i) := ⟨F1.sc (s1_int h0 h1), _, .int i⟩
theorem it_non {G : Hp} : ItV G .non := ⟨F1.sc s1_non, _, .non⟩
theorem it_bl {G : Hp} (b : Bool) : ItV G (.bl b) := ⟨F1.sc (s1_bl b), _, .bl b⟩
theorem it_0 {G : Hp} : ItV G (.str "0") := ⟨F1.sc (s1_str (by decide +kernel) (by decide +kernel)), _, .str _⟩
theorem numOk_good {G : Hp} {a : Addr} {xs : List V} {n : Nat} {is : List Int} (h : G a = some (.lst xs)) (g : GoodO G n (.ref a) is) : xs.length = n ∧ ∀ v ∈ xs, numOk (n : Int) v = true := by
  obtain ⟨a', e, r, l, hin, _⟩ := g
  cases e
  have ex : xs = is.map V.int := RowAt.inj (.inl h) r
  subst ex
  refine ⟨by rw [List.length_map, l], fun v hv => ?_⟩
  obtain ⟨i, hi, rfl⟩ := List.mem_map.mp hv
  obtain ⟨q1, q2⟩ := hin i hi
  show (decide (0 ≤ i) && decide (i < (n : Int))) = true
  rw [decide_eq_true q1, decide_eq_true q2]
  rfl
theorem bad_row {G : Hp} {a : Addr} {xs : List V} {n : Nat} (h : G a = some (.lst xs)) (hi : ∀ v ∈ xs, ItV G v) (hl : xs.length ≤ 40) (no : xs.length ≠ n ∨ ∃ v ∈ xs, numOk (n : Int) v = false) : BadO G n (.ref a) := by
  refine ⟨⟨⟨_, .lst h, fun a' ys e r => ?_⟩, fun is g => ?_⟩, Sh.lst h (fun v hv => (hi v hv).1) hl⟩
  · cases e
    rw [← RowAt.inj (.inl h) r]
    exact ⟨by omega, fun y hy => (hi y hy).2⟩
  · obtain ⟨q1, q2⟩ := numOk_good h g
    rcases no with z | ⟨v, hv, z⟩
    · exact z q1
    · rw [q2 v hv] at z
      exact Bool.noConfusion z
theorem bad_plain {G : Hp} {v : V} {t : String} {n : Nat} (ty : Ty G v t) (no : ∀ a xs, v = .ref a → ¬ RowAt G a xs) (sh : Sh G v) : BadO G n v :=
  ⟨⟨⟨_, ty, fun a xs e r => absurd r (no a xs e)⟩, fun is ⟨a, e, r, _⟩ => no a _ e r⟩, sh⟩
/-- a list at S of what is no order -/
structure Bag (p S : Addr) (n : Nat) (xs : List V) (H : Hp) : Prop where
  pot : PotAt p H
  ne : S ≠ p
  lst : H S = some (.lst xs)
  all : ∀ u ∈ xs, BadO (rem S (rem p H)) n u
theorem Bag.items {p S : Addr} {n : Nat} {xs : List V} {H : Hp} (b : Bag p S n xs H) : ∀ u ∈ xs, BadO (rem p H) n u := fun u hu => (b.all u hu).same same_rem
theorem Bag.remp {p S : Addr} {n : Nat} {xs : List V} {H : Hp} (b : Bag p S n xs H) : rem p H S = some (.lst xs) := by rw [rem_ne b.ne]; exact b.lst
theorem Bag.same {p S : Addr} {n : Nat} {xs : List V} {H H' : Hp} (b : Bag p S n xs H) (s : Same H H') : Bag p S n xs H' := ⟨b.pot.same s, b.ne, s _ _ b.lst, fun u hu => (b.all u hu).same (same_remr (same_remr s))⟩
theorem Bag.take {p S : Addr} {n : Nat} {xs : List V} {H H' : Hp} (b : Bag p S n xs H) (hp : PotAt p H') (s : Same (rem p H) (rem p H')) : Bag p S n xs H' := ⟨hp, b.ne, (of_rem (s _ _ b.remp)).2, fun u hu => (b.all u hu).same (same_remr s)⟩
theorem Bag.app {p S : Addr} {n : Nat} {xs : List V} {v : V} {H : Hp} (b : Bag p S n xs H) (hv : BadO (rem S (rem p H)) n v) : Bag p S n (xs ++ [v]) (upd H S (.lst (xs ++ [v]))) :=
  ⟨b.pot.put b.ne, b.ne, upd_same, fun u hu => by
    rw [rem_upd_ne b.ne, rem_upd]
    rcases List.mem_append.mp hu with z | z
    · exact b.all u z
    · rw [List.mem_singleton.mp z]; exact hv⟩
theorem Bag.new {p S : Addr} {n : Nat} {xs : List V} {H : Hp} (hp : PotAt p H) (hS : H S = none) (h : ∀ u ∈ xs, BadO (rem p H) n u) : Bag p S n xs (upd H S (.lst xs)) :=
  ⟨hp.new hS, hp.ne hS, upd_same, by rw [rem_upd_ne (hp.ne hS), rem_upd, rem_none (rem_fresh hS)]; exact h⟩
/-! ### parts of a list -/
theorem cut_from (xs : List V) (j : Nat) : cutV xs (some (j : Int)) none = xs.drop j := by
  unfold cutV
  rw [HT.sIx_nat, HT.sIx_none]
  by_cases h : j ≤ xs.length
  · rw [Nat.min_eq_left h]
    exact List.take_of_length_le (by rw [List.length_drop]; omega)
  · rw [Nat.min_eq_right (by omega), Nat.sub_self, List.take_zero, List.drop_eq_nil_of_le (show xs.length ≤ j by omega)]
theorem cut_to (xs : List V) (j : Nat) : cutV xs none (some (j : Int)) = xs.take j := by
  unfold cutV
  rw [HT.sIx_nat, HT.sIx_none, List.drop_zero, Nat.sub_zero]
  by_cases h : j ≤ xs.length
  · rw [Nat.min_eq_left h]
  · rw [Nat.min_eq_right (by omega), List.take_of_length_le (Nat.le_refl _), List.take_of_length_le (show xs.length ≤ j by omega)]
/-! ### what makes a list (a new one, or one that stands), away from B -/
section
variable {K : PySem.W.Frag} {B : Addr → Prop} {σ : L2.St} {H : Hp}
def MkL (B : Addr → Prop) (t : TE) (σ : L2.St) (H : Hp) (xs : List V) : Prop := ∀ H', Same H H' → ∀ Q : VK, (∀ M Hn, Same H' Hn → ¬ B M → Hn M = some (.lst xs) → Q (.ref M) Hn) → t σ H' Q
def Held (B : Addr → Prop) (H : Hp) : Prop := ∀ a, B a → ∃ u, H a = some u
theorem Held.no {H' : Hp} (h : Held B H) (s : Same H H') {M : Addr} (n : H' M = none) : ¬ B M := fun b => by
  obtain ⟨u, e⟩ := h M b
  rw [s _ _ e] at n
  cases n
theorem mk_var {i : Nat} {o : Addr} {xs : List V} (ho : H o = some (.lst xs)) (no : ¬ B o) (hi : σ[i]? = some (some (.ref o))) : MkL B (tVar i) σ H xs := fun H' s Q q => ⟨_, hi, q o H' (Same.refl _) no (s _ _ ho)⟩
theorem mk_one {te : TE} {v : V} (hB : Held B H) (h : ∀ H', Same H H' → ∀ R : VK, R v H' → te σ H' R) : MkL B (tLst (tCons te tNil)) σ H [v] := fun H' s Q q =>
  h H' s _ ⟨sz1000 (show 1 ≤ 1000 by decide), fun L hL => q L _ (same_new hL) (hB.no s hL) upd_same⟩
theorem mk_cat {ta tb : TE} {xs ys : List V} (ha : MkL B ta σ H xs) (hb : MkL B tb σ H ys) (hB : Held B H) (hl : xs.length + ys.length ≤ 1000) : MkL B (tOp rCat ta tb) σ H (xs ++ ys) := fun H' s Q q =>
  ha H' s _ fun M Hn s1 _ h1 => hb Hn (s.trans s1) _ fun M2 Hm s2 _ h2 => ⟨M, M2, xs, ys, rfl, rfl, s2 _ _ h1, h2, sz1000 hl, fun N hN => q N _ ((s1.trans s2).trans (same_new hN)) (hB.no ((s.trans s1).trans s2) hN) upd_same⟩
theorem mk_to {tj : TE} {o : Addr} {i j : Nat} {xs : List V} (hB : Held B H) (ho : H o = some (.lst xs)) (hi : σ[i]? = some (some (.ref o))) (h : ∀ H', Same H H' → ∀ R : VK, R (.int (j : Int)) H' → tj σ H' R) : MkL B (tSl (rSlL K) (tVar i) tNoPart (tPart tj)) σ H (xs.take j) := fun H' s Q q =>
  ⟨_, hi, h H' s _ ⟨_, rfl, o, xs, rfl, SqL.of (s _ _ ho), fun M hM => q M _ (same_new hM) (hB.no s hM) (by rw [upd_same, cut_to])⟩⟩
theorem mk_from {tj : TE} {o : Addr} {i j : Nat} {xs : List V} (hB : Held B H) (ho : H o = some (.lst xs)) (hi : σ[i]? = some (some (.ref o))) (h : ∀ H', Same H H' → ∀ R : VK, R (.int (j : Int)) H' → tj σ H' R) : MkL B (tSl (rSlL K) (tVar i) (tPart tj) tNoPart) σ H (xs.drop j) := fun H' s Q q =>
  ⟨_, hi, h H' s _ ⟨_, rfl, o, xs, rfl, SqL.of (s _ _ ho), fun M hM => q M _ (same_new hM) (hB.no s hM) (by rw [upd_same, cut_from])⟩⟩
/-- [k == 1 if k < 2 else k for k in order] -/
def eltB : TE := tIf (tTest (tOp (rI0 fun i j => .bl (decide (i < j))) (tVar 5) (tC (.int 2)))) (tOp rEq (tVar 5) (tC (.int 1))) (tVar 5)
def okB (i : Int) : V := if i < 2 then .bl (decide (V.int i = V.int 1)) else .int i
theorem mk_comp {o : Addr} {is : List Int} (hB : Held B H) (ho : H o = some (.lst (is.map .int))) (h1 : σ[1]? = some (some (.ref o))) (h5 : 5 < σ.length) (hl : is.length ≤ 900) : MkL B (tLc (iList K (tVar 1)) (gName 5) tYes eltB [5]) σ H (is.map okB) := by
  intro H' s Q q
  have ho' := s _ _ ho
  refine ⟨_, h1, o, rfl, ⟨_, SqL.of ho'⟩, fun D hD => lc_fil (walk_list (K := K) (a := o) (xs := is.map V.int)) (fun _ => true) (fun i y _ => ∃ j, is[i]? = some j ∧ y = okB j) (fun _ _ _ _ _ h => h) hD (fun H2 s2 => SqL.of (s2 _ _ ho')) ?_ ?_⟩
  · rintro i y H2 H3 hi lp s2 ⟨rfl, e⟩
    obtain ⟨j, hj, rfl⟩ : ∃ j, is[i]? = some j ∧ y = .int j := by
      have e : (is.map V.int)[i]? = some y := e
      rw [List.getElem?_map] at e
      cases e2 : is[i]? with
      | none => rw [e2] at e; cases e
      | some j => rw [e2] at e; exact ⟨j, rfl, (Option.some.inj e).symm⟩
    have hi9 : i < 1000 := by rw [List.length_map] at hi; omega
    have hg : ((wipe σ [5]).set 5 (some (.int j)))[5]? = some (some (.int j)) := List.getElem?_set_self (by rw [wipe_length]; exact h5)
    refine ⟨?_, tyes ⟨_, hg, _, _, rfl, rfl, _, rfl, ite2 (fun h2 => ?_) (fun h2 => ?_)⟩⟩
    · show ((wipe σ [5]).set 5 (some (.int j))).set 5 none = σ.set 5 none
      show ((σ.set 5 none).set 5 (some (.int j))).set 5 none = σ.set 5 none
      rw [List.set_set, List.set_set]
    · refine ⟨_, hg, rfl, lp.put hi9 (Same.refl _) rfl ⟨j, hj, ?_⟩⟩
      unfold okB
      rw [if_pos (of_decide_eq_true h2)]
    · refine ⟨_, hg, lp.put hi9 (Same.refl _) rfl ⟨j, hj, ?_⟩⟩
      unfold okB
      rw [if_neg fun z => h2 (decide_eq_true z)]
  · intro H2 lp
    obtain ⟨s2, ys, hy, hn, hr⟩ := lp.all
    refine q D H2 s2 (hB.no s hD) (by rw [hy, eq_map (f := okB) (ys := ys) (zs := is) (by rw [hn, List.length_map]) fun i y e => hr i y e])
theorem okB_it {G : Hp} {i : Int} (h0 : 0 ≤ i) (h1 : i ≤ 30) : ItV G (okB i) := by
  unfold okB
  by_cases h : i < 2
  · rw [if_pos h]; exact it_bl _
  · rw [if_neg h]; exact it_int (by omega) h1
theorem dp_ints {K : PySem.W.Frag} {H : Hp} : ∀ (is : List Int), DpAll K H (is.map V.int) (is.map PyData.int)
  | [] => .nil
  | n :: ns => .cons (.int n) (dp_ints ns)
theorem lay_ints : ∀ (is : List Int), PyData.canLayAll0 (is.map PyData.int) = true
  | [] => rfl
  | n :: ns => by
    rw [List.map_cons]
    show (PyData.canLay0 (.int n) && PyData.canLayAll0 (ns.map PyData.int)) = true
    rw [lay_ints ns]
    rfl
theorem dep_ints : ∀ (is : List Int), PyData.depthAll (is.map PyData.int) ≤ 1
  | [] => by simp [PyData.depthAll]
  | n :: ns => by
    have := dep_ints ns
    simp only [List.map_cons, PyData.depthAll, PyData.depth]
    omega
theorem shaped_ints (is : List Int) : SeqAt.shaped (.list (is.map PyData.int)) = true := by
  have := dep_ints is
  unfold SeqAt.shaped
  rw [Bool.and_eq_true, decide_eq_true_eq]
  refine ⟨lay_ints is, ?_⟩
  simp only [PyData.depth]
  omega
theorem eqv_nil (is : List Int) : PyData.eqv (.list (is.map PyData.int)) (.list []) = is.isEmpty := by
  cases is with
  | nil => rfl
  | cons i is => simp [PyData.eqv, PyData.eqvAll]
end
end Pw

/-! _law_bad_order: the walk. -/
namespace Pw
open PySem PySem.Spec PyProof.Rows L2
section
variable {P : Program} {w : World} {K : PySem.W.Frag} {mg : Str → Option Value} {base : Heap}
def spBO : Sp := fun vs H Q _ => ∃ (p o : Addr) (n : Nat) (is : List Int), vs = [.ref p, .ref o] ∧ PotAt p H ∧ rem p H o = some (.lst (is.map .int)) ∧ IsOrd n is ∧ n ≤ 20 ∧ ∀ v H', PotAt p H' → Same (rem p H) (rem p H') → BadO (rem p H') n v → Q v H'
theorem ok_bo (T : W0 K mg) : FnOk P w K mg base CX0 2 T.fBO T.dBO pBO spBO := by
  refine T.eBO.fn.ok scBO (fun vs H Q E h => ?_) (fun cdv A outer s H vs Q E hr h => ?_)
  · obtain ⟨p, o, n, is, rfl, _⟩ := h
    rfl
  · obtain ⟨p, o, n, is, rfl, hp, ho, io, n20, k⟩ := h
    refine ⟨_, pss_cons (ps_set (i := 2) scBO.nd rfl (Or.inl rfl) (pe_call (ok_take T) hr rfl T.eTake.g T.eTake.k T.eTake.b .nil pass0 (pa_cons (pv 0) (pa_cons (pe_op op_add (pe_callB call_len_seq rfl T.z_len boot_len (pa_cons (pv 1) pa_nil)) pe_int) pa_nil))))
      (pss_cons (ps_set (i := 3) scBO.nd rfl (Or.inl rfl) (pe_lst (pa_cons (pe_op op_cat (pv 1) (pe_lst (pa_cons (pe_callB call_len_seq rfl T.z_len boot_len (pa_cons (pv 1) pa_nil)) pa_nil))) (pa_cons (pe_op op_cat (pv 1) (pe_lst (pa_cons (pe_un un_neg pe_int) pa_nil)))
        (pa_cons (pe_op op_cat (pe_lst (pa_cons pe_non pa_nil)) (pv 1)) (pa_cons (pe_op op_cat (pv 1) (pe_lst (pa_cons pe_bl pa_nil))) pa_nil))))))
      (pss_cons (ps_set (i := 3) scBO.nd rfl (Or.inl rfl) (pe_op op_cat (pv 3) (pe_lst (pa_cons pe_non (pa_cons pe_str (pa_cons pe_int (pa_cons pe_dnewK (pa_cons (pe_op op_cat (pv 1) (pe_lst (pa_cons pe_str pa_nil))) pa_nil))))))))
      (pss_cons (ps_if (pt_cmpR (op_neD hr.units) (pv 1) (pe_lst pa_nil) (nomark _))
        (pss_cons (ps_set (i := 2) scBO.nd rfl (Or.inl rfl) (pe_op op_mod (pv 2) (pe_callB call_len_seq rfl T.z_len boot_len (pa_cons (pv 1) pa_nil))))
        (pss_cons (ps_set (i := 3) scBO.nd rfl (Or.inl rfl) (pe_op op_cat (pv 3) (pe_lst (pa_cons (pe_slice sl_list (pv 1) (po_some pe_int) po_none) (pa_cons (pe_op op_cat (pv 1) (pe_slice sl_list (pv 1) po_none (po_some pe_int)))
          (pa_cons (pe_op op_cat (pe_op op_cat (pe_slice sl_list (pv 1) po_none (po_some (pv 2))) (pe_slice sl_list (pv 1) po_none (po_some pe_int))) (pe_slice sl_list (pv 1) (po_some (pv 2)) po_none)) pa_nil))))))
        (pss_cons (ps_expr (pe_bm PySem.F.plainAttrs_list PySem.F.slot_list_append PySem.F.type_list_append mt_append (pv 3) (pa_cons (pe_lc (te := eltB) (own := [("_law_k", 5)]) rfl scBO.nd (pi_list (pv 1)) (blkOk_by (N := nBO) (sc := defScope sBO) (by decide +kernel)) (fun _ _ _ _ _ => pg_name (i := 5) scBO.nd rfl (Or.inl rfl)) (fun _ _ _ _ _ => pts_nil)
          (fun _ _ _ _ _ => pe_ifExp (pt_cmpR op_lt (pv 5) pe_int (nomark _)) (pe_cmpR op_eq (pv 5) pe_int (nomark _)) (pv 5))) pa_nil)))
        (pss_cons (ps_for PassesOwn.never rfl (pi_list (pe_lst (pa_cons pe_non (pa_cons pe_str (pa_cons (pe_lst (pa_cons pe_int pa_nil)) (pa_cons (pe_un un_neg pe_int) (pa_cons (pe_callB call_len_seq rfl T.z_len boot_len (pa_cons (pv 1) pa_nil)) pa_nil))))))) (pg_name (i := 4) scBO.nd rfl (Or.inl rfl))
          (pss_one (ps_expr (pe_bm PySem.F.plainAttrs_list PySem.F.slot_list_append PySem.F.type_list_append mt_append (pv 3) (pa_cons (pe_op op_cat (pe_op op_cat (pe_slice sl_list (pv 1) po_none (po_some (pv 2))) (pe_lst (pa_cons (pv 4) pa_nil)))
            (pe_slice sl_list (pv 1) (po_some (pe_op op_add (pv 2) pe_int)) po_none)) pa_nil)))))
        (pss_one (ps_if (pt_cmpR op_eq (pe_call (ok_take T) hr rfl T.eTake.g T.eTake.k T.eTake.b .nil pass0 (pa_cons (pv 0) (pa_cons pe_int pa_nil))) pe_int (nomark _))
          (pss_one (ps_ret (pe_lc (te := eltB) (own := [("_law_k", 5)]) rfl scBO.nd (pi_list (pv 1)) (blkOk_by (N := nBO) (sc := defScope sBO) (by decide +kernel)) (fun _ _ _ _ _ => pg_name (i := 5) scBO.nd rfl (Or.inl rfl)) (fun _ _ _ _ _ => pts_nil)
            (fun _ _ _ _ _ => pe_ifExp (pt_cmpR op_lt (pv 5) pe_int (nomark _)) (pe_cmpR op_eq (pv 5) pe_int (nomark _)) (pv 5))))) pss_nil)))))) pss_nil)
      (pss_one (ps_ret (pe_ix ix_seq (pv 3) (pe_call (ok_take T) hr rfl T.eTake.g T.eTake.k T.eTake.b .nil pass0 (pa_cons (pv 0) (pa_cons (pe_callB call_len_seq rfl T.z_len boot_len (pa_cons (pv 3) pa_nil)) pa_nil))) (fun _ _ => rfl))))))), ?_⟩
    have li := io.len
    have hoH := (of_rem ho).2
    have nop := (of_rem ho).1
    refine ⟨_, rfl, _, rfl, o, _, rfl, .inl (SqL.of hoH), _, _, rfl, rfl, p, _, rfl, hp, by omega, by rw [List.length_map]; omega, fun at0 H1 a0 a1 hp1 s1 => ?_⟩
    have ho1 := (of_rem (s1 _ _ ho)).2
    have itx : ∀ (G : Hp) v, v ∈ is.map V.int → ItV G v := fun G v hv => by
      obtain ⟨i, hi, rfl⟩ := List.mem_map.mp hv
      have := io.inr i hi
      exact it_int (by omega) (by omega)
    have ll : (is.map V.int).length = n := by rw [List.length_map, li]
    have heldP : ∀ {Hx : Hp}, PotAt p Hx → Held (fun a => a = p) Hx := fun hpx a e => by
      obtain ⟨i, j, h, _⟩ := hpx
      exact ⟨_, by rw [e]; exact h⟩
    -- the nine first
    refine (mk_cat (B := fun a => a = p) (σ := [some (.ref p), some (.ref o), some (.int at0), none, none, none]) (mk_var ho1 nop rfl) (mk_one (v := .int ((is.map V.int).length : Nat)) (heldP hp1) fun H' s' R r => ⟨_, rfl, o, _, rfl, .inl (SqL.of (s' _ _ ho1)), r⟩) (heldP hp1) (by rw [ll]; show n + 1 ≤ 1000; omega)) H1 (Same.refl _) _ fun M1 Ha sa b1 g1 => ?_
    refine (mk_cat (B := fun a => a = p) (σ := [some (.ref p), some (.ref o), some (.int at0), none, none, none]) (mk_var ho1 nop rfl) (mk_one (v := .int (-1)) (heldP hp1) fun H' s' R r => ⟨1, rfl, r⟩) (heldP hp1) (by rw [ll]; show n + 1 ≤ 1000; omega)) Ha sa _ fun M2 Hb sb b2 g2 => ?_
    refine (mk_cat (B := fun a => a = p) (σ := [some (.ref p), some (.ref o), some (.int at0), none, none, none]) (mk_one (v := .non) (heldP hp1) fun H' s' R r => r) (mk_var ho1 nop rfl) (heldP hp1) (by rw [ll]; show 1 + n ≤ 1000; omega)) Hb (sa.trans sb) _ fun M3 Hc sc b3 g3 => ?_
    refine (mk_cat (B := fun a => a = p) (σ := [some (.ref p), some (.ref o), some (.int at0), none, none, none]) (mk_var ho1 nop rfl) (mk_one (v := .bl true) (heldP hp1) fun H' s' R r => r) (heldP hp1) (by rw [ll]; show n + 1 ≤ 1000; omega)) Hc ((sa.trans sb).trans sc) _ fun M4 Hd sd b4 g4 => ?_
    refine ⟨sz1000 (show 4 ≤ 1000 by decide), fun S1 hS1 => ?_⟩
    have u1d := ((sa.trans sb).trans sc).trans sd
    have e1 := same_new (o := .lst [.ref M1, .ref M2, .ref M3, .ref M4]) hS1
    have gS1 : (upd Hd S1 (.lst [.ref M1, .ref M2, .ref M3, .ref M4])) S1 = some (.lst [.ref M1, .ref M2, .ref M3, .ref M4]) := upd_same
    generalize upd Hd S1 (.lst [.ref M1, .ref M2, .ref M3, .ref M4]) = He at e1 gS1 ⊢
    have u1e := u1d.trans e1
    refine ⟨_, rfl, fun E0 hE0 => ?_⟩
    have e2 := same_new (o := .dK []) hE0
    have gE0 : (upd He E0 (.dK [])) E0 = some (.dK []) := upd_same
    have nE0 : E0 ≠ p := (hp1.same u1e).ne hE0
    generalize upd He E0 (.dK []) = Hf at e2 gE0 ⊢
    refine (mk_cat (B := fun a => a = p) (σ := [some (.ref p), some (.ref o), some (.int at0), some (.ref S1), none, none]) (mk_var ho1 nop rfl) (mk_one (v := .str "0") (heldP hp1) fun H' s' R r => r) (heldP hp1) (by rw [ll]; show n + 1 ≤ 1000; omega)) Hf (u1e.trans e2) _ fun M5 Hg sg b5 g5 => ?_
    refine ⟨sz1000 (show 5 ≤ 1000 by decide), fun L2 hL2 => ?_⟩
    have e3 := same_new (o := .lst [.non, .str "", .int 3, .ref E0, .ref M5]) hL2
    have gL2 : (upd Hg L2 (.lst [.non, .str "", .int 3, .ref E0, .ref M5])) L2 = some (.lst [.non, .str "", .int 3, .ref E0, .ref M5]) := upd_same
    generalize upd Hg L2 (.lst [.non, .str "", .int 3, .ref E0, .ref M5]) = Hh at e3 gL2 ⊢
    have ueh := (e2.trans sg).trans e3
    have u1h := u1e.trans ueh
    refine ⟨S1, L2, _, _, rfl, rfl, ueh _ _ gS1, gL2, sz1000 (show 4 + 5 ≤ 1000 by decide), fun S2 hS2 => ?_⟩
    have hph := hp1.same u1h
    have rm : ∀ {Hx : Hp} {M : Addr} {u : HO}, ¬ M = p → Hx M = some u → rem p Hx M = some u := fun h1 h2 => by rw [rem_ne h1]; exact h2
    have bag2 : Bag p S2 n ([.ref M1, .ref M2, .ref M3, .ref M4] ++ [.non, .str "", .int 3, .ref E0, .ref M5]) (upd Hh S2 (.lst ([.ref M1, .ref M2, .ref M3, .ref M4] ++ [.non, .str "", .int 3, .ref E0, .ref M5]))) := by
      refine Bag.new hph hS2 fun u hu => ?_
      have i1 : ∀ {v : V}, ItV (rem p Hh) v → ∀ w ∈ is.map V.int ++ [v], ItV (rem p Hh) w := fun iv w hw => by
        rcases List.mem_append.mp hw with z | z
        · exact itx _ w z
        · rw [List.mem_singleton.mp z]; exact iv
      have l1 : ∀ v : V, (is.map V.int ++ [v]).length = n + 1 := fun v => by rw [List.length_append, ll]; rfl
      simp only [List.cons_append, List.nil_append, List.mem_cons, List.not_mem_nil, or_false] at hu
      rcases hu with rfl | rfl | rfl | rfl | rfl | rfl | rfl | rfl | rfl
      · exact bad_row (rm b1 ((((sb.trans sc).trans sd).trans (e1.trans ueh)) _ _ g1)) (i1 (it_int (by omega) (by rw [ll]; omega))) (by rw [l1]; omega) (.inl (by rw [l1]; omega))
      · exact bad_row (rm b2 (((sc.trans sd).trans (e1.trans ueh)) _ _ g2)) (i1 (it_int (by decide) (by decide))) (by rw [l1]; omega) (.inl (by rw [l1]; omega))
      · have l3 : ([V.non] ++ is.map V.int).length = n + 1 := by rw [List.length_append, ll]; show 1 + n = n + 1; omega
        refine bad_row (rm b3 ((sd.trans (e1.trans ueh)) _ _ g3)) (fun w hw => ?_) (by rw [l3]; omega) (.inl (by rw [l3]; omega))
        rcases List.mem_append.mp hw with z | z
        · rw [List.mem_singleton.mp z]; exact it_non
        · exact itx _ w z
      · exact bad_row (rm b4 ((e1.trans ueh) _ _ g4)) (i1 (it_bl true)) (by rw [l1]; omega) (.inl (by rw [l1]; omega))
      · exact bad_plain .non (fun a xs e => nomatch e) (Sh.sc s1_non)
      · exact bad_plain (.str _) (fun a xs e => nomatch e) (Sh.sc (s1_str (by decide +kernel) (by decide +kernel)))
      · exact bad_plain (.int _) (fun a xs e => nomatch e) (Sh.sc (s1_int (by decide) (by decide)))
      · have h := rm nE0 ((sg.trans e3) _ _ gE0)
        refine bad_plain (.dK h) (fun a xs e r => ?_) (Sh.dct h (fun kv hkv => absurd hkv (by simp)) (fun kv hkv => absurd hkv (by simp)) (by decide))
        cases e
        rcases r with r | r <;> rw [h] at r <;> cases r
      · exact bad_row (rm b5 (e3 _ _ g5)) (i1 it_0) (by rw [l1]; omega) (.inl (by rw [l1]; omega))
    have l2 : (([.ref M1, .ref M2, .ref M3, .ref M4] : List V) ++ [V.non, .str "", .int 3, .ref E0, .ref M5]).length = 9 := rfl
    have u1i := u1h.trans (same_new (o := .lst (([.ref M1, .ref M2, .ref M3, .ref M4] : List V) ++ [V.non, .str "", .int 3, .ref E0, .ref M5])) hS2)
    generalize (([.ref M1, .ref M2, .ref M3, .ref M4] : List V) ++ [V.non, .str "", .int 3, .ref E0, .ref M5]) = xs2 at bag2 l2 u1i ⊢
    generalize upd Hh S2 (.lst xs2) = Hi at bag2 u1i ⊢
    dsimp only [gName]
    refine seq_by (t := tIfS _ _ _) (fun σ Hn => ∃ (S : Addr) (xs : List V) (av : Int) (v4 : Option V), σ = [some (.ref p), some (.ref o), some (.int av), some (.ref S), v4, none] ∧ Bag p S n xs Hn ∧ Same (rem p H) (rem p Hn) ∧ 1 ≤ xs.length ∧ xs.length ≤ 40) (fun R hR => ?_) ?_
    · have hoi := u1i _ _ ho1
      refine ⟨_, rfl, sz1000 (show 0 ≤ 1000 by decide), fun L hL => ?_⟩
      have e4 := same_new (o := .lst []) hL
      have gL : (upd Hi L (.lst [])) L = some (.lst []) := upd_same
      generalize upd Hi L (.lst []) = Hj at e4 gL ⊢
      have bagj := bag2.same e4
      have u1j := u1i.trans e4
      have hoj := u1j _ _ ho1
      have srj : Same (rem p H) (rem p Hj) := s1.trans (same_remr u1j)
      refine ⟨.list (is.map PyData.int), .list [], .lst (SqL.of hoj) (dp_ints is), .lst (SqL.of gL) .nil, shaped_ints is, by decide, _, rfl, ?_⟩
      rw [eqv_nil]
      cases is with
      | nil => exact iteF (hR _ _ ⟨S2, xs2, at0, none, rfl, bagj, srj, by omega, by omega⟩)
      | cons i0 is0 =>
      generalize hisd : i0 :: is0 = is at *
      have ise : is.isEmpty = false := by rw [← hisd]; rfl
      rw [ise]
      have n1 : 1 ≤ n := by
        rw [← li, ← hisd]
        simp
      obtain ⟨an, ean, han⟩ : ∃ an : Nat, at0 % (((is.map V.int).length : Nat) : Int) = (an : Int) ∧ an < n := by
        rw [ll]
        have h1 := Int.emod_nonneg at0 (show (n : Int) ≠ 0 by omega)
        have h2 := Int.emod_lt_of_pos at0 (show (0 : Int) < n by omega)
        exact ⟨(at0 % (n : Int)).toNat, by omega, by omega⟩
      refine iteT ?_
      refine seq_by (t := tAsg _ (gName 2)) (fun σ Hn => σ = [some (.ref p), some (.ref o), some (.int (an : Int)), some (.ref S2), none, none] ∧ Hn = Hj) (fun R2 hR2 => ?_) ?_
      · refine ⟨_, rfl, _, rfl, o, _, rfl, .inl (SqL.of hoj), _, _, rfl, rfl, by rw [ll]; omega, hR2 _ _ ⟨?_, rfl⟩⟩
        rw [← ean]
        rfl
      rintro σ Hn ⟨rfl, rfl⟩
      -- three more
      have c1 : ∀ (H' : Hp), Same Hn H' → ∀ R : VK, R (.int ((1 : Nat) : Int)) H' → tC (.int 1) [some (.ref p), some (.ref o), some (.int (an : Int)), some (.ref S2), none, none] H' R := fun _ _ R r => r
      have ca : ∀ (H' : Hp), Same Hn H' → ∀ R : VK, R (.int ((an : Nat) : Int)) H' → tVar 2 [some (.ref p), some (.ref o), some (.int (an : Int)), some (.ref S2), none, none] H' R := fun _ _ R r => ⟨_, rfl, r⟩
      have hh := heldP bagj.pot
      refine ⟨_, rfl, (mk_from (B := fun a => a = p) (i := 1) (j := 1) hh hoj rfl c1) Hn (Same.refl _) _ fun M6 Hk sk b6 g6 => ?_⟩
      refine (mk_cat (B := fun a => a = p) (mk_var (i := 1) hoj nop rfl) (mk_to (i := 1) (j := 1) hh hoj rfl c1) hh (by rw [List.length_take, ll]; omega)) Hk sk _ fun M7 Hl sl b7 g7 => ?_
      refine (mk_cat (B := fun a => a = p) (mk_cat (mk_to (i := 1) (j := an) hh hoj rfl ca) (mk_to (i := 1) (j := 1) hh hoj rfl c1) hh (by rw [List.length_take, List.length_take, ll]; omega)) (mk_from (i := 1) (j := an) hh hoj rfl ca) hh (by rw [List.length_append, List.length_take, List.length_take, List.length_drop, ll]; omega)) Hl (sk.trans sl) _ fun M8 Hm sm b8 g8 => ?_
      refine ⟨sz1000 (show 3 ≤ 1000 by decide), fun L3 hL3 => ?_⟩
      have f1 := same_new (o := .lst [.ref M6, .ref M7, .ref M8]) hL3
      have gL3 : (upd Hm L3 (.lst [.ref M6, .ref M7, .ref M8])) L3 = some (.lst [.ref M6, .ref M7, .ref M8]) := upd_same
      generalize upd Hm L3 (.lst [.ref M6, .ref M7, .ref M8]) = Hp_ at f1 gL3 ⊢
      have ujp := ((sk.trans sl).trans sm).trans f1
      refine ⟨S2, L3, _, _, rfl, rfl, ujp _ _ bagj.lst, gL3, sz1000 (by show xs2.length + 3 ≤ 1000; omega), fun S3 hS3 => ?_⟩
      have bag3 : Bag p S3 n (xs2 ++ [.ref M6, .ref M7, .ref M8]) (upd Hp_ S3 (.lst (xs2 ++ [.ref M6, .ref M7, .ref M8]))) := by
        refine Bag.new (bagj.pot.same ujp) hS3 fun u hu => ?_
        have it1 : ∀ (G : Hp) w, w ∈ (is.map V.int).take 1 → ItV G w := fun G w hw => itx G w (List.mem_of_mem_take hw)
        rcases List.mem_append.mp hu with z | z
        · exact (bagj.items u z).same (same_remr ujp)
        simp only [List.mem_cons, List.not_mem_nil, or_false] at z
        rcases z with rfl | rfl | rfl
        · refine bad_row (rm b6 (((sl.trans sm).trans f1) _ _ g6)) (fun w hw => itx _ w (List.mem_of_mem_drop hw)) (by rw [List.length_drop, ll]; omega) (.inl (by rw [List.length_drop, ll]; omega))
        · refine bad_row (rm b7 ((sm.trans f1) _ _ g7)) (fun w hw => ?_) (by rw [List.length_append, List.length_take, ll]; omega) (.inl (by rw [List.length_append, List.length_take, ll]; omega))
          rcases List.mem_append.mp hw with z | z
          · exact itx _ w z
          · exact it1 _ w z
        · refine bad_row (rm b8 (f1 _ _ g8)) (fun w hw => ?_) (by rw [List.length_append, List.length_append, List.length_take, List.length_take, List.length_drop, ll]; omega) (.inl (by rw [List.length_append, List.length_append, List.length_take, List.length_take, List.length_drop, ll]; omega))
          rcases List.mem_append.mp hw with z | z
          · rcases List.mem_append.mp z with z | z
            · exact itx _ w (List.mem_of_mem_take z)
            · exact it1 _ w z
          · exact itx _ w (List.mem_of_mem_drop z)
      have l3 : (xs2 ++ [V.ref M6, .ref M7, .ref M8]).length = 12 := by rw [List.length_append, l2]; rfl
      have u1q := (u1j.trans ujp).trans (same_new (o := .lst (xs2 ++ [V.ref M6, .ref M7, .ref M8])) hS3)
      have hS30 : rem p H S3 = none := s1.free (rem_fresh ((u1j.trans ujp).free hS3))
      generalize xs2 ++ [V.ref M6, .ref M7, .ref M8] = xs3 at bag3 l3 u1q ⊢
      generalize upd Hp_ S3 (.lst xs3) = Hq at bag3 u1q ⊢
      have hoq := u1q _ _ ho1
      have noS : ∀ {Hx : Hp} {xs : List V}, Bag p S3 n xs Hx → rem p H S3 = none := fun _ => hS30
      have n3o : o ≠ S3 := fun e => by
        have := hS30
        rw [← e, ho] at this
        cases this
      have heldQ : ∀ {Hx : Hp} {xs : List V}, Bag p S3 n xs Hx → Held (fun a => a = p ∨ a = S3) Hx := fun b a e => by
        rcases e with e | e
        · exact heldP b.pot a e
        · exact ⟨_, by rw [e]; exact b.lst⟩
      have no2 : ¬ (o = p ∨ o = S3) := fun e => e.elim nop n3o
      have rm2 : ∀ {Hx : Hp} {M : Addr} {u : HO}, ¬ (M = p ∨ M = S3) → Hx M = some u → rem S3 (rem p Hx) M = some u := fun h1 h2 => by
        rw [rem_ne fun e => h1 (.inr e), rem_ne fun e => h1 (.inl e)]
        exact h2
      have lis : is.length ≤ 900 := by omega
      have badB : ∀ {G : Hp} {M : Addr}, G M = some (.lst (is.map okB)) → BadO G n (.ref M) := fun h => by
        refine bad_row h (fun w hw => ?_) (by rw [List.length_map]; omega) (.inr ?_)
        · obtain ⟨i, hi, rfl⟩ := List.mem_map.mp hw
          have := io.inr i hi
          exact okB_it (by omega) (by omega)
        · obtain ⟨j, hj⟩ := io.has (show 0 < n by omega)
          exact ⟨okB 0, List.mem_map.mpr ⟨0, List.mem_of_getElem? hj, rfl⟩, rfl⟩
      -- with truths
      refine ⟨.ref S3, rfl, .inl ⟨rfl, _, SqL.of bag3.lst⟩, (mk_comp (K := K) (B := fun a => a = p ∨ a = S3) (heldQ bag3) hoq rfl (by show 5 < 6; decide) lis) Hq (Same.refl _) _ fun M9 Hr sr b9 g9 => ?_⟩
      have bag3r := bag3.same sr
      refine ⟨S3, xs3, .ref M9, rfl, rfl, bag3r.lst, small1000 (by omega), ?_⟩
      have bag4 := bag3r.app (badB (rm2 b9 g9))
      have l4 : (xs3 ++ [V.ref M9]).length = 13 := by rw [List.length_append, l3]; rfl
      have nSo3 : (rem S3 Hr) o = some (.lst (is.map V.int)) := by rw [rem_ne n3o]; exact sr _ _ hoq
      have w4 : Same (rem p H) (rem p (upd Hr S3 (.lst (xs3 ++ [V.ref M9])))) := by
        rw [rem_upd_ne bag3.ne]
        exact same_put (s1.trans (same_remr (u1q.trans sr))) hS30
      have o4 : (upd Hr S3 (.lst (xs3 ++ [V.ref M9]))) o = some (.lst (is.map V.int)) := by rw [upd_ne n3o]; exact sr _ _ hoq
      generalize xs3 ++ [V.ref M9] = xs4 at bag4 l4 w4 o4 ⊢
      generalize upd Hr S3 (.lst xs4) = Hs at bag4 w4 o4 ⊢
      -- something else in one place
      refine ⟨sz1000 (show 1 ≤ 1000 by decide), fun Z hZ => ⟨1, rfl, ?_⟩⟩
      have h1 := same_new (o := .lst [.int 0]) hZ
      have gZ : (upd Hs Z (.lst [.int 0])) Z = some (.lst [.int 0]) := upd_same
      have nZ : ¬ (Z = p ∨ Z = S3) := (heldQ bag4).no (Same.refl _) hZ
      generalize upd Hs Z (.lst [.int 0]) = Ht at h1 gZ ⊢
      refine ⟨_, rfl, o, _, rfl, .inl (SqL.of (h1 _ _ o4)), sz1000 (show 5 ≤ 1000 by decide), fun Lq hLq => ?_⟩
      have h2 := same_new (o := .lst [.non, .str "0", .ref Z, .int (-1), .int (((is.map V.int).length : Nat) : Int)]) hLq
      have gLq : (upd Ht Lq (.lst [.non, .str "0", .ref Z, .int (-1), .int (((is.map V.int).length : Nat) : Int)])) Lq = some (.lst [.non, .str "0", .ref Z, .int (-1), .int (((is.map V.int).length : Nat) : Int)]) := upd_same
      have bagu := (bag4.same h1).same h2
      have nLq : ¬ (Lq = p ∨ Lq = S3) := (heldQ (bag4.same h1)).no (Same.refl _) hLq
      have gZu := h2 _ _ gZ
      have h12 := h1.trans h2
      refine ⟨Lq, rfl, ⟨_, SqL.of gLq⟩, ?_⟩
      generalize upd Ht Lq (.lst [.non, .str "0", .ref Z, .int (-1), .int (((is.map V.int).length : Nat) : Int)]) = Hu at h2 gLq bagu gZu h12 ⊢
      have hou := h12 _ _ o4
      have oddq : ∀ y ∈ ([.non, .str "0", .ref Z, .int (-1), .int (((is.map V.int).length : Nat) : Int)] : List V), ItV (rem S3 (rem p Hu)) y ∧ numOk (n : Int) y = false := by
        intro y hy
        simp only [List.mem_cons, List.not_mem_nil, or_false] at hy
        rcases hy with rfl | rfl | rfl | rfl | rfl
        · exact ⟨it_non, rfl⟩
        · exact ⟨it_0, rfl⟩
        · have h := rm2 nZ gZu
          exact ⟨⟨F1.lst h (fun v hv => by rw [List.mem_singleton.mp hv]; exact s1_int (by decide) (by decide)) (by decide), _, .lst h⟩, rfl⟩
        · exact ⟨it_int (by decide) (by decide), rfl⟩
        · rw [ll]
          refine ⟨it_int (by omega) (by omega), ?_⟩
          show (decide ((0 : Int) ≤ (n : Int)) && decide ((n : Int) < (n : Int))) = false
          rw [decide_eq_false (show ¬ ((n : Int) < (n : Int)) by omega), Bool.and_false]
      refine for_list (K := K) (a := Lq) (fun i σ Hv => ∃ (xs : List V) (v4 : Option V), σ = [some (.ref p), some (.ref o), some (.int (an : Int)), some (.ref S3), v4, none] ∧ Bag p S3 n xs Hv ∧ Same (rem S3 Hu) (rem S3 Hv) ∧ Same (rem p H) (rem p Hv) ∧ xs.length = 13 + i)
        ⟨xs4, none, rfl, bagu, Same.refl _, w4.trans (same_remr h12), l4⟩ (fun i σ Hv _ ⟨_, _, _, _, sv, _⟩ => SqL.of (of_rem (sv _ _ (by rw [rem_ne fun e => nLq (.inr e)]; exact gLq))).2) ?_ ?_
      · rintro i y σ Hv hi ⟨xs, v4, rfl, bagv, sv, wv, lx⟩
        have hi5 : i < 5 := (List.getElem?_eq_some_iff.mp hi).1
        obtain ⟨iy, ny⟩ := oddq y (List.mem_of_getElem? hi)
        have hov := (of_rem (sv _ _ (by rw [rem_ne n3o]; exact hou))).2
        have hq := heldQ bagv
        refine ⟨.ref S3, rfl, .inl ⟨rfl, _, SqL.of bagv.lst⟩, (mk_cat (B := fun a => a = p ∨ a = S3) (mk_cat (mk_to (i := 1) (j := an) hq hov rfl fun _ _ R r => ⟨_, rfl, r⟩) (mk_one (v := y) hq fun _ _ R r => ⟨_, rfl, r⟩) hq (by rw [List.length_take, ll]; show min an n + 1 ≤ 1000; omega))
          (mk_from (i := 1) (j := an + 1) hq hov rfl fun _ _ R r => ⟨_, rfl, an, 1, rfl, rfl, r⟩) hq (by rw [List.length_append, List.length_take, List.length_drop, ll]; show min an n + 1 + (n - (an + 1)) ≤ 1000; omega)) Hv (Same.refl _) _ fun M Hx sx nb g => ?_⟩
        have bagx := bagv.same sx
        refine ⟨S3, xs, .ref M, rfl, rfl, bagx.lst, small1000 (by omega), ?_⟩
        refine ⟨_, _, rfl, bagx.app (bad_row (rm2 nb g) (fun w hw => ?_) ?_ (.inr ⟨y, ?_, ny⟩)), ?_, ?_, by rw [List.length_append, List.length_singleton]; omega⟩
        · rcases List.mem_append.mp hw with z | z
          · rcases List.mem_append.mp z with z | z
            · exact itx _ w (List.mem_of_mem_take z)
            · rw [List.mem_singleton.mp z]
              have e1 : rem S3 (rem p Hu) = rem p (rem S3 Hu) := by
                funext b
                by_cases hb : b = S3
                · rw [hb, rem_at, rem_ne bagv.ne, rem_at]
                · by_cases hb2 : b = p
                  · rw [hb2, rem_ne (Ne.symm bagv.ne), rem_at, rem_at]
                  · rw [rem_ne hb, rem_ne hb2, rem_ne hb2, rem_ne hb]
              have e2 : rem S3 (rem p Hx) = rem p (rem S3 Hx) := by
                funext b
                by_cases hb : b = S3
                · rw [hb, rem_at, rem_ne bagv.ne, rem_at]
                · by_cases hb2 : b = p
                  · rw [hb2, rem_ne (Ne.symm bagv.ne), rem_at, rem_at]
                  · rw [rem_ne hb, rem_ne hb2, rem_ne hb2, rem_ne hb]
              rw [e1] at iy
              rw [e2]
              exact iy.same (same_remr (sv.trans (same_remr sx)))
          · exact itx _ w (List.mem_of_mem_drop z)
        · rw [List.length_append, List.length_append, List.length_take, List.length_drop, ll]
          show min an n + 1 + (n - (an + 1)) ≤ 40
          omega
        · exact List.mem_append_left _ (List.mem_append_right _ (List.mem_singleton.mpr rfl))
        · rw [rem_upd]
          exact sv.trans (same_remr sx)
        · rw [rem_upd_ne bagv.ne]
          exact same_put (wv.trans (same_remr sx)) hS30
      · rintro σ Hv ⟨xs, v4, rfl, bagv, sv, wv, lx⟩
        refine ⟨_, rfl, p, _, rfl, bagv.pot, by decide, by decide, fun dd Hw e0 e1 hpw sw => ⟨rfl, _, rfl, ite2 (fun _ => ?_) (fun _ => ?_)⟩⟩
        · have bagw := bagv.take hpw sw
          have how := (of_rem ((wv.trans sw) _ _ ho)).2
          exact (mk_comp (K := K) (B := fun a => a = p) (heldP hpw) how rfl (by show 5 < 6; decide) lis) Hw (Same.refl _) _ fun M Hx sx nb g => k _ Hx (hpw.same sx) ((wv.trans sw).trans (same_remr sx)) (badB (rm nb g))
        · exact hR _ _ ⟨S3, xs, _, _, rfl, bagv.take hpw sw, wv.trans sw, by omega, by rw [lx]; show 13 + 5 ≤ 40; decide⟩
    · rintro σ Hn ⟨S, xs, av, v4, rfl, bag, sn, x1, x40⟩
      refine ⟨_, rfl, _, rfl, _, rfl, S, _, rfl, .inl (SqL.of bag.lst), p, _, rfl, bag.pot, by omega, by omega, fun dd Hm e0 e1 hpm sm => ?_⟩
      obtain ⟨jn, rfl⟩ : ∃ jn : Nat, dd = (jn : Int) := ⟨dd.toNat, by omega⟩
      have hjn : jn < xs.length := by omega
      exact .inl ⟨S, xs, _, xs[jn], rfl, rfl, SqL.of (bag.take hpm sm).lst, atI_nat (List.getElem?_eq_getElem hjn), k _ Hm hpm (sn.trans sm) ((bag.take hpm sm).items _ (List.getElem_mem _))⟩
end
end Pw

/-! _law_classes. -/
namespace Pw
open PySem PySem.Spec PyProof.Rows L2 L2H
theorem paired_map1' {α β γ : Type} {F : γ → β → Prop} (f : α → γ) : ∀ {xs : List α} {ys : List β}, Paired (fun x y => F (f x) y) xs ys → Paired F (xs.map f) ys
  | _, _, .nil => .nil
  | _, _, .cons h p => .cons h (paired_map1' f p)
section
variable {P : Program} {w : World} {K : PySem.W.Frag} {mg : Str → Option Value} {base : Heap}
theorem boot_VE : bootBuiltins "ValueError" = some (.type "ValueError") := by decide +kernel
theorem okE {CX : CXT} {x qual : Str} {st : Stmt} {f : Addr} {fd : FuncData} {N ps : List Str} {k : Nat} {sp : Addr × Obj → Sp} (F : Fun K x qual st f fd) (S : FnScope N ps (defScope st)) (len : ∀ p vs H Q E, sp p vs H Q E → vs.length = ps.length)
    (hbody : ∀ (cdv : Value) (A : Around) (outer : List Env) (s : Shared) (H : Hp) (vs : List V) (Q : VK) (E : XK) (p : Addr × Obj), Hot1 A p → RoomH k (A.deeper (envOfC qual (defScope st) s.heap.objs.size f cdv)) → sp p vs H Q E →
      ∃ t, PSs (cxH CX P w K mg base N qual (defScope st) f cdv A outer s H E p) (defBody st) t ∧ t { nx := fun _ H' => Q .non H', rt := Q } (L2.start N vs) H) : FnE P w K mg base CX (k + 1) f fd ps sp := by
  obtain ⟨oc, od, kV, doc, pm, an, cdv, ct, osl, rfl, lk, hcd⟩ := F.ex
  exact fn_ofE lk hcd S len fun A outer s H vs Q E p hot hr h => hbody cdv A outer s H vs Q E p hot hr h
def wordsL : List Str := ["web", "text", "numbers", "lot", "point", "pointing", "parted", "barred", "much", "none"]
/-- the word for an error of the class D -/
def WordOf (T : W0 K mg) (D : Addr) (wd : Str) : Prop := (D = T.cNoWeb ∧ wd = "web") ∨ (D = T.cNoNumbers ∧ wd = "numbers")
def spCls (T : W0 K mg) : Addr × Obj → Sp := fun p vs H Q _ => ∃ (D : Addr) (wd : Str), vs = [.ref p.1] ∧ Zc (.ref D) none p.2 ∧ (∃ fs, p.2.data = .fields fs) ∧ WordOf T D wd ∧ ∀ l H', Same H H' → H' l = some (.lst [.str wd]) → Q (.ref l) H'
theorem told_bits (T : W0 K mg) {D : Addr} {wd : Str} (h : WordOf T D wd) : ExcC K D ∧ ∃ bs : List Bool, ∃ b1 b2 b3 b4 b5 b6 b7 b8 b9 : Bool, bs = [b1, b2, b3, b4, b5, b6, b7, b8, b9, false] ∧ PySem.W.kitOne K (.ref D) (.ref T.cNoWeb) = some b1 ∧ PySem.W.kitOne K (.ref D) (.ref T.cNoText) = some b2 ∧ PySem.W.kitOne K (.ref D) (.ref T.cNoNumbers) = some b3 ∧
    PySem.W.kitOne K (.ref D) (.ref T.cNoLot) = some b4 ∧ PySem.W.kitOne K (.ref D) (.ref T.cNoPoint) = some b5 ∧ PySem.W.kitOne K (.ref D) (.ref T.cNoPointing) = some b6 ∧ PySem.W.kitOne K (.ref D) (.ref T.cParted) = some b7 ∧ PySem.W.kitOne K (.ref D) (.ref T.cBarred) = some b8 ∧
    PySem.W.kitOne K (.ref D) (.ref T.cTooMuch) = some b9 ∧ PySem.W.kitOne K (.ref D) (.type "ValueError") = some true ∧ ((List.range 10).filter fun i => bs.getD i false).map (fun i => wordsL.getD i small) = [wd] := by
  rcases h with ⟨rfl, rfl⟩ | ⟨rfl, rfl⟩
  · exact ⟨T.iNoWeb, _, _, _, _, _, _, _, _, _, _, rfl, T.kNoWeb_NoWeb, T.kNoWeb_NoText, T.kNoWeb_NoNumbers, T.kNoWeb_NoLot, T.kNoWeb_NoPoint, T.kNoWeb_NoPointing, T.kNoWeb_Parted, T.kNoWeb_Barred, T.kNoWeb_TooMuch, T.kNoWeb_ValueError, by decide +kernel⟩
  · exact ⟨T.iNoNumbers, _, _, _, _, _, _, _, _, _, _, rfl, T.kNoNumbers_NoWeb, T.kNoNumbers_NoText, T.kNoNumbers_NoNumbers, T.kNoNumbers_NoLot, T.kNoNumbers_NoPoint, T.kNoNumbers_NoPointing, T.kNoNumbers_Parted, T.kNoNumbers_Barred, T.kNoNumbers_TooMuch, T.kNoNumbers_ValueError, by decide +kernel⟩
theorem ok_cls (T : W0 K mg) : FnE P w K mg base CX0 1 T.fCls T.dCls pCls (spCls T) := by
  refine okE T.eCls.fn scCls (fun p vs H Q E h => ?_) (fun cdv A outer s H vs Q E p hot hr h => ?_)
  · obtain ⟨D, wd, rfl, _⟩ := h
    rfl
  · obtain ⟨D, wd, rfl, hz, hf, hwd, k⟩ := h
    obtain ⟨hC, bs, b1, b2, b3, b4, b5, b6, b7, b8, b9, ebs, k1, k2, k3, k4, k5, k6, k7, k8, k9, kv, hw⟩ := told_bits T hwd
    have hot' : Hot1 (cxH CX0 P w K mg base nCls "_law_classes" (defScope sCls) T.fCls cdv A outer s H E p).A p := hot
    have hp : p ∈ (cxH CX0 P w K mg base nCls "_law_classes" (defScope sCls) T.fCls cdv A outer s H E p).pn := List.mem_singleton.mpr rfl
    refine ⟨_, pss_cons (ps_set (i := 1) scCls.nd rfl (Or.inl rfl) (pe_lst (pa_cons (pe_callB (call_isP hC hp hz hf) rfl T.z_isinstance boot_isinstance (pa_cons (pv 0) (pa_cons (pe_glob (v := .ref T.cNoWeb) rfl T.gNoWeb rfl) pa_nil)))
        (pa_cons (pe_callB (call_isP hC hp hz hf) rfl T.z_isinstance boot_isinstance (pa_cons (pv 0) (pa_cons (pe_glob (v := .ref T.cNoText) rfl T.gNoText rfl) pa_nil)))
        (pa_cons (pe_callB (call_isP hC hp hz hf) rfl T.z_isinstance boot_isinstance (pa_cons (pv 0) (pa_cons (pe_glob (v := .ref T.cNoNumbers) rfl T.gNoNumbers rfl) pa_nil)))
        (pa_cons (pe_callB (call_isP hC hp hz hf) rfl T.z_isinstance boot_isinstance (pa_cons (pv 0) (pa_cons (pe_glob (v := .ref T.cNoLot) rfl T.gNoLot rfl) pa_nil))) pa_nil))))))
      (pss_cons (ps_set (i := 1) scCls.nd rfl (Or.inl rfl) (pe_op op_cat (pv 1) (pe_lst (pa_cons (pe_callB (call_isP hC hp hz hf) rfl T.z_isinstance boot_isinstance (pa_cons (pv 0) (pa_cons (pe_glob (v := .ref T.cNoPoint) rfl T.gNoPoint rfl) pa_nil)))
        (pa_cons (pe_callB (call_isP hC hp hz hf) rfl T.z_isinstance boot_isinstance (pa_cons (pv 0) (pa_cons (pe_glob (v := .ref T.cNoPointing) rfl T.gNoPointing rfl) pa_nil)))
        (pa_cons (pe_callB (call_isP hC hp hz hf) rfl T.z_isinstance boot_isinstance (pa_cons (pv 0) (pa_cons (pe_glob (v := .ref T.cParted) rfl T.gParted rfl) pa_nil)))
        (pa_cons (pe_callB (call_isP hC hp hz hf) rfl T.z_isinstance boot_isinstance (pa_cons (pv 0) (pa_cons (pe_glob (v := .ref T.cBarred) rfl T.gBarred rfl) pa_nil))) pa_nil)))))))
      (pss_cons (ps_set (i := 1) scCls.nd rfl (Or.inl rfl) (pe_op op_cat (pv 1) (pe_lst (pa_cons (pe_callB (call_isP hC hp hz hf) rfl T.z_isinstance boot_isinstance (pa_cons (pv 0) (pa_cons (pe_glob (v := .ref T.cTooMuch) rfl T.gTooMuch rfl) pa_nil)))
        (pa_cons (pe_not (pe_callB (call_isP hC hp hz hf) rfl T.z_isinstance boot_isinstance (pa_cons (pv 0) (pa_cons (pe_ty rfl T.z_ValueError boot_VE) pa_nil)))) pa_nil)))))
      (pss_cons (ps_set (i := 2) scCls.nd rfl (Or.inl rfl) (pe_lst (pa_cons pe_str (pa_cons pe_str (pa_cons pe_str (pa_cons pe_str (pa_cons pe_str (pa_cons pe_str (pa_cons pe_str (pa_cons pe_str (pa_cons pe_str (pa_cons pe_str pa_nil))))))))))))
      (pss_one (ps_ret (pe_lcH (g := gTup K 2 (gCons (gName 3) (gCons (gName 4) gNil))) (own := [("_law_word", 3), ("_law_told", 4)]) hot' hp scCls.nd (pi_zipH rfl T.z_zip (pa_cons (pv 2) (pa_cons (pv 1) pa_nil))) (blkOk_by (N := nCls) (sc := defScope sCls) (by decide +kernel))
        (fun _ _ _ _ _ => pg_tupH ⟨p, hot, List.mem_singleton.mpr rfl⟩ (pgs_cons (pg_name (i := 3) scCls.nd rfl (Or.inl rfl)) (pgs_cons (pg_name (i := 4) scCls.nd rfl (Or.inl rfl)) pgs_nil))) (fun _ _ _ _ _ => pts_one (pt_val (pv 4))) (fun _ _ _ _ _ => pv 3))))))), ?_⟩
    have own : ∀ {C : Addr} (u : Value), RelV (.ref C) u → u = .ref C := fun u r => r
    refine ⟨_, rfl, .ref T.cNoWeb, .ref T.cNoWeb, b1, rfl, own, k1, _, rfl, .ref T.cNoText, .ref T.cNoText, b2, rfl, own, k2, _, rfl, .ref T.cNoNumbers, .ref T.cNoNumbers, b3, rfl, own, k3, _, rfl, .ref T.cNoLot, .ref T.cNoLot, b4, rfl, own, k4, Nat.le_of_lt (small1000 (show 4 ≤ 1000 by decide)), fun L1 hL1 => ?_⟩
    have g1 : (upd H L1 (.lst [.bl b1, .bl b2, .bl b3, .bl b4])) L1 = some (.lst [.bl b1, .bl b2, .bl b3, .bl b4]) := upd_same
    have s1 := same_new (o := .lst [V.bl b1, .bl b2, .bl b3, .bl b4]) hL1
    generalize upd H L1 (.lst [.bl b1, .bl b2, .bl b3, .bl b4]) = H1 at g1 s1 ⊢
    refine ⟨_, rfl, _, rfl, .ref T.cNoPoint, .ref T.cNoPoint, b5, rfl, own, k5, _, rfl, .ref T.cNoPointing, .ref T.cNoPointing, b6, rfl, own, k6, _, rfl, .ref T.cParted, .ref T.cParted, b7, rfl, own, k7, _, rfl, .ref T.cBarred, .ref T.cBarred, b8, rfl, own, k8, Nat.le_of_lt (small1000 (show 4 ≤ 1000 by decide)), fun L2 hL2 => ?_⟩
    have s2 := same_new (o := .lst [V.bl b5, .bl b6, .bl b7, .bl b8]) hL2
    refine ⟨L1, L2, _, _, rfl, rfl, s2 _ _ g1, upd_same, Nat.le_of_lt (small1000 (show 8 ≤ 1000 by decide)), fun L3 hL3 => ?_⟩
    have s3 := same_new (o := .lst ([V.bl b1, .bl b2, .bl b3, .bl b4] ++ [V.bl b5, .bl b6, .bl b7, .bl b8])) hL3
    have g3 := upd_same (H := upd H1 L2 (.lst [V.bl b5, .bl b6, .bl b7, .bl b8])) (a := L3) (o := .lst ([V.bl b1, .bl b2, .bl b3, .bl b4] ++ [V.bl b5, .bl b6, .bl b7, .bl b8]))
    have s13 := (s1.trans s2).trans s3
    generalize upd (upd H1 L2 (.lst [V.bl b5, .bl b6, .bl b7, .bl b8])) L3 (.lst ([V.bl b1, .bl b2, .bl b3, .bl b4] ++ [V.bl b5, .bl b6, .bl b7, .bl b8])) = H3 at g3 s13 ⊢
    refine ⟨_, rfl, _, rfl, .ref T.cTooMuch, .ref T.cTooMuch, b9, rfl, own, k9, _, rfl, .ty "ValueError", .type "ValueError", true, rfl, fun u r => r, kv, true, rfl, Nat.le_of_lt (small1000 (show 2 ≤ 1000 by decide)), fun L4 hL4 => ?_⟩
    have s4 := same_new (o := .lst [V.bl b9, .bl (!true)]) hL4
    refine ⟨L3, L4, _, _, rfl, rfl, s4 _ _ g3, upd_same, Nat.le_of_lt (small1000 (show 10 ≤ 1000 by decide)), fun L5 hL5 => ?_⟩
    have g5 : (upd (upd H3 L4 (.lst [V.bl b9, .bl (!true)])) L5 (.lst (([V.bl b1, .bl b2, .bl b3, .bl b4] ++ [V.bl b5, .bl b6, .bl b7, .bl b8]) ++ [V.bl b9, .bl (!true)]))) L5 = some (.lst (bs.map V.bl)) := by rw [upd_same, ebs]; rfl
    have s15 := (s13.trans s4).trans (same_new (o := .lst (([V.bl b1, .bl b2, .bl b3, .bl b4] ++ [V.bl b5, .bl b6, .bl b7, .bl b8]) ++ [V.bl b9, .bl (!true)])) hL5)
    generalize upd (upd H3 L4 (.lst [V.bl b9, .bl (!true)])) L5 (.lst (([V.bl b1, .bl b2, .bl b3, .bl b4] ++ [V.bl b5, .bl b6, .bl b7, .bl b8]) ++ [V.bl b9, .bl (!true)])) = H5 at g5 s15 ⊢
    refine ⟨Nat.le_of_lt (small1000 (show 10 ≤ 1000 by decide)), fun L6 hL6 => ?_⟩
    have s6 := same_new (o := .lst (wordsL.map V.str)) hL6
    have g6 : (upd H5 L6 (.lst (wordsL.map V.str))) L6 = some (.lst (wordsL.map V.str)) := upd_same
    have s16 := s15.trans s6
    have g56 := s6 _ _ g5
    have lb : bs.length = 10 := by rw [ebs]; rfl
    refine ⟨.ref L6, rfl, .ref L5, rfl, L6, L5, wordsL.map V.str, bs.map V.bl, rfl, SqL.of g6, SqL.of g56, ?_⟩
    have e6 : upd H5 L6 (.lst (wordsL.map V.str)) = upd H5 L6 (.lst [V.str "web", V.str "text", V.str "numbers", V.str "lot", V.str "point", V.str "pointing", V.str "parted", V.str "barred", V.str "much", V.str "none"]) := rfl
    intro D hD
    have hD : (upd H5 L6 (.lst (wordsL.map V.str))) D = none := hD
    refine lc_fil (H1 := upd H5 L6 (.lst (wordsL.map V.str))) (walk_zipH (K := K) (a := L6) (b := L5) (xs := wordsL.map V.str) (ys := bs.map V.bl) (by rw [List.length_map, List.length_map, lb]; rfl)) (fun i => bs.getD i false) (fun i y _ => y = .str (wordsL.getD i small)) (fun _ _ _ _ _ h => h) hD (fun H7 s7 => ⟨SqL.of (s7 _ _ g6), SqL.of (s7 _ _ g56)⟩) ?_ ?_
    · rintro i x H7 H8 hi lp s7 ⟨Z, v, d, rfl, hZ, rfl, hv, hd⟩
      have hi10 : i < 10 := hi
      have hd : (bs.map V.bl)[i]? = some d := hd
      have hv : (wordsL.map V.str)[i]? = some v := hv
      have ed : d = .bl (bs.getD i false) := by
        rw [List.getElem?_map, List.getElem?_eq_getElem (show i < bs.length by omega)] at hd
        rw [← Option.some.inj hd, List.getD_eq_getElem?_getD, List.getElem?_eq_getElem (show i < bs.length by omega)]
        rfl
      have ev : v = .str (wordsL.getD i small) := by
        have hw : i < wordsL.length := hi10
        rw [List.getElem?_map, List.getElem?_eq_getElem hw] at hv
        rw [← Option.some.inj hv, List.getD_eq_getElem?_getD, List.getElem?_eq_getElem hw]
        rfl
      subst ed ev
      refine ⟨Z, _, rfl, SqT.of upd_same, rfl, _, _, rfl, _, _, rfl, rfl, rfl, _, rfl, _, rfl, ?_⟩
      cases hb : bs.getD i false with
      | true => exact iteT ⟨_, rfl, lp.put (by omega) (same_new hZ) hb rfl⟩
      | false => exact iteF (lp.skip (by omega) (same_new hZ) hb)
    · intro H7 lp
      obtain ⟨_, s7, _, _, ys, hy, pr⟩ := lp
      have pr2 : Paired (fun (x : Str) y => y = V.str x) [wd] ys := by
        have := paired_map1' (F := fun (x : Str) y => y = V.str x) (fun i => wordsL.getD i small) pr
        rw [← hw]
        exact this
      have ey : ys = [.str wd] := by
        cases pr2 with
        | cons h t =>
          cases t
          rw [h]
      rw [ey] at hy
      exact k D H7 (s16.trans s7) hy
end
end Pw

/-! _law_refusal. -/
namespace Pw
open PySem PySem.Spec PyProof.Rows L2 L2H
theorem takesN0 {X : Cx} : L2N.Takes X (fun _ _ _ _ => False) := fun _ _ x => by
  obtain ⟨_, _, _, _, _, _, _, _, _, _, _, _, _, _, _, _, z⟩ := x
  exact z.elim
theorem pe_weak {X : Cx} {e : Expr} {t t' : TE} (h : PE X e t) (w : ∀ σ H Q, t' σ H Q → t σ H Q) : PE X e t' := ⟨fun pins s σ H Q I q => h.run pins s σ H Q I (w σ H Q q)⟩
section
variable {P : Program} {w : World} {K : PySem.W.Frag} {mg : Str → Option Value} {base : Heap}
theorem okG {CX : CXT} {x qual : Str} {st : Stmt} {f : Addr} {fd : FuncData} {N ps : List Str} {k : Nat} {sp : Sp} (F : Fun K x qual st f fd) (S : FnScope N ps (defScope st)) (len : ∀ vs H Q E, sp vs H Q E → vs.length = ps.length)
    (hbody : ∀ (cdv : Value) (A : Around) (outer : List Env) (s : Shared) (H : Hp) (vs : List V) (Q : VK) (E : XK), A.guards = some [] → Room k (A.deeper (envOfC qual (defScope st) s.heap.objs.size f cdv)) → sp vs H Q E →
      ∃ t, PSs (cxOf CX P w K mg base N qual (defScope st) f cdv A outer s H E) (defBody st) t ∧ t { nx := fun _ H' => Q .non H', rt := Q } (L2.start N vs) H) : FnG P w K mg base CX (k + 1) f fd ps sp := by
  obtain ⟨oc, od, kV, doc, pm, an, cdv, ct, osl, rfl, lk, hcd⟩ := F.ex
  exact fn_ofG lk hcd S len fun A outer s H vs Q E hg hr h => hbody cdv A outer s H vs Q E hg hr h
def spRef (T : W0 K mg) : Sp := fun vs H Q _ => ∃ (kd : Int) (x : Addr) (v : V) (ns : List Str) (qs : List (Str × Str)) (wd : Str), vs = [.int kd, .ref x, v] ∧ WebAt T.cWeb H x ns qs ∧ Good ns qs ∧ ((kd = 0 ∧ BadN H ns v ∧ wd = "web") ∨ (kd = 1 ∧ BadO H qs.length v ∧ wd = "numbers")) ∧
  ∀ l H', Same H H' → H' l = some (.lst [.str wd]) → Q (.ref l) H'
/-- what the suite does with the error at a -/
def tCaught (T : W0 K mg) (a : Addr) (cls : Value) (d : Option Addr) : TE := fun σ H Q => σ[5]? = some (some (.ref a)) ∧ ∃ D wd, cls = .ref D ∧ d = none ∧ WordOf T D wd ∧ ∀ l H', Same H H' → H' l = some (.lst [.str wd]) → Q (.ref l) H'
theorem ok_ref (T : W0 K mg) : FnG P w K mg base CX0 6 T.fRef T.dRef pRef (spRef T) := by
  refine okG T.eRef.fn scRef (fun vs H Q E h => ?_) (fun cdv A outer s H vs Q E hgu hr h => ?_)
  · obtain ⟨kd, x, v, ns, qs, wd, rfl, _⟩ := h
    rfl
  · obtain ⟨kd, x, v, ns, qs, wd, rfl, hw, G, hbad, k⟩ := h
    have hun : (A.deeper (envOfC "_law_refusal" (defScope sRef) s.heap.objs.size T.fRef cdv)).units + 8 < cLine := by have := hr.un; omega
    refine ⟨_, pss_cons (ps_set (i := 3) scRef.nd rfl (Or.inl rfl) (pe_callB (call_repr hgu hun) rfl T.z_repr boot_repr (pa_cons (pv 2) pa_nil)))
      (pss_cons (ps_set (i := 4) scRef.nd rfl (Or.inl rfl) (pe_lst pa_nil))
      (pss_cons (L2N.ps_try_as (i := 5) (c := .ref T.cPoint) (tb := fun W => tIfS (tTest (tOp rEq (tVar 0) (tC (.int 0)))) (tDrop (tCallS (spRen T.cWeb T.cNoWeb) (WE W) (tCons (tVar 1) (tCons (tVar 2) tNil)))) (tDrop (tCallS (spReo T.cWeb T.cNoNumbers) (WE W) (tCons (tVar 1) (tCons (tVar 2) tNil)))))
          (ts := fun a cls d => tAsg (tCaught T a cls d) (gName 4)) (Wout := fun _ _ _ _ => False) rfl rfl scRef.nd rfl rfl ⟨rfl, by decide, Or.inl T.gPoint⟩ takesN0
        (fun W pn xe tk _ => pss_one (ps_if (pt_cmpR op_eq (pv 0) pe_int (nomark _)) (pss_one (ps_expr (pe_callS (ok_ren T) hr rfl T.eRen.g T.eRen.k T.eRen.b (fun σ => L2N.passAt tk σ) (pa_cons (pv 1) (pa_cons (pv 2) pa_nil)))))
          (pss_one (ps_expr (pe_callS (ok_reo T) hr rfl T.eReo.g T.eReo.k T.eReo.b (fun σ => L2N.passAt tk σ) (pa_cons (pv 1) (pa_cons (pv 2) pa_nil)))))))
        (fun a oe cls d pn hz hf => pss_one (ps_set (i := 4) scRef.nd rfl (Or.inl rfl) ?_)))
      (pss_one (ps_ret (pe_op op_cat (pv 4) (pe_op op_rep (pe_lst (pa_cons pe_str pa_nil)) (pe_callTy call_int1 rfl T.z_int boot_int (pa_cons (pe_cmpR op_ne (pe_callB (call_repr hgu hun) rfl T.z_repr boot_repr (pa_cons (pv 2) pa_nil)) (pv 3) (nomark _)) pa_nil)))))))), ?_⟩
    · obtain ⟨fs, hfs⟩ := hf
      have hot : Hot1 (((A.deeper (envOfC "_law_refusal" (defScope sRef) s.heap.objs.size T.fRef cdv))).mark (some (.ref a))) (a, oe) := ⟨rfl, fs, hfs, hz.2.2 fs hfs⟩
      have hrh := roomH_of (hr.mono (show 1 ≤ 5 by decide))
      refine pe_weak (pe_callE (p := (a, oe)) (E := fun _ => E0) (ok_cls T) ⟨hrh.dp, hrh.un⟩ hot List.mem_cons_self rfl T.eCls.g T.eCls.k T.eCls.b (fun _ _ _ _ _ _ _ z => z.elim) (pa_cons (pv 5) pa_nil)) fun σ H' Q' ⟨h5, D, wd', e1, e2, hwd, q⟩ => ?_
      exact ⟨_, h5, D, wd', rfl, ⟨hz.1.trans e1, hz.2.1.trans e2⟩, ⟨fs, hfs⟩, hwd, q⟩
    · obtain ⟨t, hsh⟩ : Sh H v := by
        rcases hbad with ⟨_, b, _⟩ | ⟨_, b, _⟩
        · exact b.2
        · exact b.2
      refine ⟨v, rfl, v, t, rfl, hsh, Nat.zero_le _, fun L hL => ?_⟩
      have s0 := same_new (o := .lst []) hL
      rcases hbad with ⟨rfl, bad, rfl⟩ | ⟨rfl, bad, rfl⟩
      · refine ⟨_, rfl, rfl, _, rfl, iteT ?_⟩
        have bad' := bad.same s0
        refine ⟨_, rfl, _, rfl, x, v, ns, qs, rfl, hw.same s0, G, bad'.1.1, fun d kvs g e1 e2 gg => absurd gg (bad'.1.2 d kvs g e1 e2), fun _ H1 s1 => ⟨true, T.mNoWeb, fun _ a ha => ?_, fun z => Bool.noConfusion z⟩⟩
        refine ⟨rfl, T.cNoWeb, "web", rfl, rfl, .inl ⟨rfl, rfl⟩, fun l H2 s2 hl => ?_⟩
        have hw' := hl
        have e : (!decide (V.str t = V.str t)) = false := by rw [decide_eq_true rfl]; rfl
        have sf := (same_new (o := .lst []) hL).trans (s1.trans s2)
        refine ⟨.ref l, rfl, Nat.le_of_lt (small1000 (show 1 ≤ 1000 by decide)), fun L2 hL2 => ⟨v, rfl, v, t, rfl, hsh.same (sf.trans (same_new hL2)), .str t, rfl, rfl, .inr ⟨_, rfl, ?_⟩⟩⟩
        rw [e]
        have s3 := same_new (o := .lst [V.str "changed"]) hL2
        refine ⟨L2, 0, _, rfl, rfl, upd_same, by decide, by decide, Nat.zero_le _, fun L3 hL3 => ?_⟩
        have s4 := same_new (o := .lst (List.replicate (0 : Int).toNat [V.str "changed"]).flatten) hL3
        refine ⟨l, L3, _, _, rfl, rfl, s4 _ _ (s3 _ _ hl), upd_same, Nat.le_of_lt (small1000 (show 1 ≤ 1000 by decide)), fun L4 hL4 => ?_⟩
        exact k L4 _ (((sf.trans s3).trans s4).trans (same_new hL4)) upd_same
      · refine ⟨_, rfl, rfl, _, rfl, iteF ?_⟩
        have bad' := bad.same s0
        refine ⟨_, rfl, _, rfl, x, v, ns, qs, rfl, hw.same s0, G, bad'.1.1, fun is gi => absurd gi (bad'.1.2 is), fun _ H1 s1 => ⟨true, T.mNoNumbers, fun _ a ha => ?_, fun z => Bool.noConfusion z⟩⟩
        refine ⟨rfl, T.cNoNumbers, "numbers", rfl, rfl, .inr ⟨rfl, rfl⟩, fun l H2 s2 hl => ?_⟩
        have hw' := hl
        have e : (!decide (V.str t = V.str t)) = false := by rw [decide_eq_true rfl]; rfl
        have sf := (same_new (o := .lst []) hL).trans (s1.trans s2)
        refine ⟨.ref l, rfl, Nat.le_of_lt (small1000 (show 1 ≤ 1000 by decide)), fun L2 hL2 => ⟨v, rfl, v, t, rfl, hsh.same (sf.trans (same_new hL2)), .str t, rfl, rfl, .inr ⟨_, rfl, ?_⟩⟩⟩
        rw [e]
        have s3 := same_new (o := .lst [V.str "changed"]) hL2
        refine ⟨L2, 0, _, rfl, rfl, upd_same, by decide, by decide, Nat.zero_le _, fun L3 hL3 => ?_⟩
        have s4 := same_new (o := .lst (List.replicate (0 : Int).toNat [V.str "changed"]).flatten) hL3
        refine ⟨l, L3, _, _, rfl, rfl, s4 _ _ (s3 _ _ hl), upd_same, Nat.le_of_lt (small1000 (show 1 ≤ 1000 by decide)), fun L4 hL4 => ?_⟩
        exact k L4 _ (((sf.trans s3).trans s4).trans (same_new hL4)) upd_same
end
end Pw

/-! law. -/
namespace Pw
open PySem PySem.Spec PyProof.Rows L2
theorem eqv_one (wd : Str) : PyData.eqv (.list [.str wd]) (.list [.str wd]) = true := by
  simp [PyData.eqv, PyData.eqvAll]
theorem shaped_one {wd : Str} (h : PyData.strOk wd = true) : SeqAt.shaped (.list [.str wd]) = true := by
  unfold SeqAt.shaped
  rw [Bool.and_eq_true, decide_eq_true_eq]
  refine ⟨?_, by simp [PyData.depth, PyData.depthAll]⟩
  show (PyData.canLay0 (.str wd) && PyData.canLayAll0 []) = true
  rw [show PyData.canLay0 (.str wd) = PyData.strOk wd from rfl, h]
  rfl
theorem perm_int {ys : List V} {n : Nat} (h : ys.Perm (rgV 0 (n : Int))) : ∃ is : List Int, ys = is.map V.int ∧ IsOrd n is := by
  let un : V → Int := fun v => match v with | .int i => i | _ => 0
  have e0 : rgV 0 (n : Int) = ((List.range n).map fun (i : Nat) => (i : Int)).map V.int := by
    unfold rgV
    rw [List.map_map, Int.sub_zero, Int.toNat_natCast]
    exact List.map_congr_left fun i _ => by show V.int (0 + (i : Int)) = V.int (i : Int); rw [Int.zero_add]
  rw [e0] at h
  refine ⟨ys.map un, ?_, ?_⟩
  · rw [List.map_map]
    refine (List.map_id ys).symm.trans (List.map_congr_left fun v hv => ?_)
    obtain ⟨x, _, rfl⟩ := List.mem_map.mp (h.mem_iff.mp hv)
    rfl
  · have q := h.map un
    rw [List.map_map] at q
    have e : ((List.range n).map fun (i : Nat) => (i : Int)).map (un ∘ V.int) = (List.range n).map fun (i : Nat) => (i : Int) := (List.map_congr_left fun x _ => rfl).trans (List.map_id _)
    rw [e] at q
    exact q
theorem rem_swap {p q : Addr} {H : Hp} : Same (rem p (rem q H)) (rem q (rem p H)) := fun b o h => by
  obtain ⟨h1, h2⟩ := of_rem h
  obtain ⟨h3, h4⟩ := of_rem h2
  rw [rem_ne h3, rem_ne h1]
  exact h4
section
variable {P : Program} {w : World} {K : PySem.W.Frag} {mg : Str → Option Value} {base : Heap}
theorem okG0 {x qual : Str} {st : Stmt} {f : Addr} {fd : FuncData} {N ps : List Str} {k : Nat} {sp : Sp} (F : Fun K x qual st f fd) (S : FnScope N ps (defScope st)) (len : ∀ vs H Q E, sp vs H Q E → vs.length = ps.length)
    (hbody : ∀ (cdv : Value) (A : Around) (outer : List Env) (s : Shared) (H : Hp) (vs : List V) (Q : VK) (E : XK), A.guards = some [] → Room k (A.deeper (envOfC qual (defScope st) s.heap.objs.size f cdv)) → sp vs H Q E →
      ∃ t, PSs (cxOf CX0 P w K mg base N qual (defScope st) f cdv A outer s H E).nox (defBody st) t ∧ t { nx := fun _ H' => Q .non H', rt := Q } (L2.start N vs) H) : FnG P w K mg base CX0 (k + 1) f fd ps sp :=
  okG F S len fun cdv A outer s H vs Q E hg hr h => let ⟨t, ht, q⟩ := hbody cdv A outer s H vs Q E hg hr h; ⟨t, ht.nox, q⟩
def spLaw (K : PySem.W.Frag) : Sp := fun vs H Q _ => ∃ (a : Addr) (ns : List Int), vs = [.ref a] ∧ SqL K H a (ns.map V.int) ∧ ns.length ≤ 63 ∧ ∀ H', Q (.bl true) H'
theorem ok_law {f : Addr} {fd : FuncData} (F : Fun K "law" "law" sLaw f fd) (T : W0 K mg) : FnG P w K mg base CX0 7 f fd pLaw (spLaw K) := by
  refine okG0 F scLaw (fun vs H Q E h => ?_) (fun cdv A outer s H vs Q E hgu hr h => ?_)
  · obtain ⟨a, ns, rfl, _⟩ := h
    rfl
  · obtain ⟨a, ns, rfl, hS, hlen, k⟩ := h
    have hr1 := hr.mono (show 1 ≤ 6 by decide)
    have hr2 := hr.mono (show 2 ≤ 6 by decide)
    have hr3 := hr.mono (show 3 ≤ 6 by decide)
    have hr4 := hr.mono (show 4 ≤ 6 by decide)
    refine ⟨_, pss_cons (ps_for PassesOwn.never rfl (pi_range1 rfl T.z_range (pa_cons (pe_callB (call_max2 rfl) rfl T.z_max boot_max (pa_cons pe_int (pa_cons (pe_callB (call_min2 rfl) rfl T.z_min boot_min (pa_cons (pe_callB call_len_seq rfl T.z_len boot_len (pa_cons (pv 0) pa_nil)) (pa_cons pe_int pa_nil))) pa_nil))) pa_nil)) (pg_name (i := 1) scLaw.nd rfl (Or.inl rfl))
        (pss_cons (ps_set (i := 2) scLaw.nd rfl (Or.inl rfl) (pe_call (ok_pot T) hr1 rfl T.ePot.g T.ePot.k T.ePot.b .nil pass0 (pa_cons (pv 0) (pa_cons (pv 1) pa_nil))))
        (pss_cons (ps_asg (pe_call (ok_lweb T) hr3 rfl T.eLWeb.g T.eLWeb.k T.eLWeb.b .nil pass0 (pa_cons (pv 2) (pa_cons pe_int (pa_cons pe_int pa_nil)))) (pg_tup rfl (pgs_cons (pg_name (i := 3) scLaw.nd rfl (Or.inl rfl)) (pgs_cons (pg_name (i := 4) scLaw.nd rfl (Or.inl rfl)) pgs_nil))))
        (pss_cons (ps_set (i := 5) scLaw.nd rfl (Or.inl rfl) (pe_make (E := E0) T.mWeb (ok_init T) hr4 rfl T.gWeb T.bInit .nil passN (pa_cons (pv 3) (pa_cons (pv 4) pa_nil))))
        (pss_cons (ps_set (i := 6) scLaw.nd rfl (Or.inl rfl) (pe_call (ok_new T) hr3 rfl T.eNew.g T.eNew.k T.eNew.b .nil pass0 (pa_cons (pv 2) (pa_cons (pv 3) pa_nil))))
        (pss_cons (ps_set (i := 7) scLaw.nd rfl (Or.inl rfl) (pe_call (ok_mixed T) hr2 rfl T.eMixed.g T.eMixed.k T.eMixed.b .nil pass0 (pa_cons (pv 2) (pa_cons (pe_listRg rfl rfl T.z_list (prg_1 rfl T.z_range (pe_callB call_len_seq rfl T.z_len boot_len (pa_cons (pv 4) pa_nil)))) pa_nil))))
        (pss_cons (ps_if (pt_cmpR (op_neD hr.units) (pe_callG (E := E0) (ok_ref T) hgu hr rfl T.eRef.g T.eRef.k T.eRef.b pass0 (pa_cons pe_int (pa_cons (pv 5) (pa_cons (pe_call (ok_bn T) hr2 rfl T.eBN.g T.eBN.k T.eBN.b .nil pass0 (pa_cons (pv 2) (pa_cons (pv 3) (pa_cons (pv 6) pa_nil)))) pa_nil)))) (pe_lst (pa_cons pe_str pa_nil)) (nomark _)) (pss_one (ps_ret pe_bl)) pss_nil)
        (pss_cons (ps_if (pt_cmpR (op_neD hr.units) (pe_callG (E := E0) (ok_ref T) hgu hr rfl T.eRef.g T.eRef.k T.eRef.b pass0 (pa_cons pe_int (pa_cons (pv 5) (pa_cons (pe_call (ok_bo T) hr2 rfl T.eBO.g T.eBO.k T.eBO.b .nil pass0 (pa_cons (pv 2) (pa_cons (pv 7) pa_nil))) pa_nil)))) (pe_lst (pa_cons pe_str pa_nil)) (nomark _)) (pss_one (ps_ret pe_bl)) pss_nil)
        (pss_cons (ps_if (pt_not (pt_val (pe_call (ok_rr T) hr rfl T.eRR.g T.eRR.k T.eRR.b .nil pass0 (pa_cons (pv 5) (pa_cons (pv 3) (pa_cons (pv 4) (pa_cons (pv 6) pa_nil))))))) (pss_one (ps_ret pe_bl)) pss_nil)
        (pss_one (ps_if (pt_not (pt_val (pe_call (ok_ro T) hr rfl T.eRO.g T.eRO.k T.eRO.b .nil pass0 (pa_cons (pv 5) (pa_cons (pv 3) (pa_cons (pv 4) (pa_cons (pv 7) pa_nil))))))) (pss_one (ps_ret pe_bl)) pss_nil)))))))))))
      (pss_one (ps_ret pe_bl)), ?_⟩
    have key : ∀ m : Int, (if (if (6 : Int) < m then (6 : Int) else m) > 2 then (if (6 : Int) < m then (6 : Int) else m) else 2).toNat ≤ 6 := fun m => by
      split <;> split <;> omega
    have key2 : ∀ m : Int, 0 ≤ (if (if (6 : Int) < m then (6 : Int) else m) > 2 then (if (6 : Int) < m then (6 : Int) else m) else 2) ∧ (if (if (6 : Int) < m then (6 : Int) else m) > 2 then (if (6 : Int) < m then (6 : Int) else m) else 2) ≤ 6 := fun m => by
      split <;> split <;> omega
    refine ⟨_, rfl, a, _, rfl, .inl hS, _, _, rfl, _, _, rfl, _, rfl, ?_, ?_, ?_⟩
    · have := key2 ((ns.map V.int).length : Nat)
      omega
    · have := key2 ((ns.map V.int).length : Nat)
      omega
    refine for_it (walk_range (lo := 0)) (fun i σ H' => ∃ (v1 v2 v3 v4 v5 v6 v7 : Option V), σ = [some (.ref a), v1, v2, v3, v4, v5, v6, v7] ∧ Same H H') ⟨_, _, _, _, _, _, _, rfl, Same.refl H⟩ (fun _ _ _ _ _ => trivial) ?_ ?_
    · rintro i x σ Hq H0 hi ⟨v1, v2, v3, v4, v5, v6, v7, rfl, sH⟩ ⟨rfl, rfl⟩
      have hi6 := Nat.lt_of_lt_of_le hi (key ((ns.map V.int).length : Nat))
      have hS0 := sH.seq hS
      refine ⟨_, rfl, _, rfl, a, ns, i, (by show [V.ref a, V.int (0 + (i : Int))] = _; rw [Int.zero_add]), hS0, hlen, by omega, fun p H1 hpn s1 hp1 er => ?_⟩
      -- names, ties
      refine ⟨_, rfl, p, rfl, hp1, fun W l t nm qs ts H2 hp2 s2 hW hl2 ht2 tt2 G => ?_⟩
      refine ⟨W, _, rfl, SqT.of (of_rem hW).2, rfl, _, _, rfl, _, _, rfl, rfl, ?_⟩
      rw [er] at s2
      -- the web
      refine ⟨_, rfl, _, rfl, ?_⟩
      intro x dx hx hdx hne
      have sm : Same H2 (upd (upd H2 dx (.own x)) x (.ins T.cWeb dx [])) := same_put (same_new hdx) hx
      refine ⟨H2, x, dx, l, t, nm, qs, ts, rfl, sm, hx, upd_same, sm _ _ (of_rem hl2).2, sm _ _ (of_rem ht2).2, (tt2.same same_rem).same sm, G.one, G.nine, G.nm, G.many, fun _ => G.ok, fun _ H4 s4 hw4 => ⟨rfl, ?_⟩, fun no => absurd G.nd no⟩
      have hp4 := hp2.same s4
      have hwp : WebAt T.cWeb (rem p H4) x nm qs := by
        obtain ⟨i, j, e, _⟩ := hp2
        exact hw4.2 p _ e
      have r24 := same_remr (p := p) s4
      have s04 := s2.trans r24
      have hl4 := r24 _ _ hl2
      have ht4 := r24 _ _ ht2
      have tt4 := tt2.same r24
      -- other names
      refine ⟨_, rfl, _, rfl, p, l, nm, rfl, hp4, hl4, G.one, G.nine, G.nd, G.nm, fun d g H5 hdn hp5 s5 hd5 hg hgd => ?_⟩
      have hd0 : H0 d = none := s04.free hdn
      have s05 := s04.trans s5
      have ht5 := s5 _ _ ht4
      -- an order
      refine ⟨_, rfl, _, rfl, t, _, rfl, .inl (SqL.of (of_rem ht5).2), _, rfl, .of_le (by decide) (by have := paired_len tt2; have := G.many; omega) (by decide) (by omega), fun L hL => ?_⟩
      have nLp := hp5.ne hL
      have lts : ts.length = qs.length := paired_len tt2
      have hp6 := hp5.new (o := .lst (rgV 0 ((ts.length : Nat) : Int))) hL
      have r56 : Same (rem p H5) (rem p (upd H5 L (.lst (rgV 0 ((ts.length : Nat) : Int))))) := by
        rw [rem_upd_ne nLp]
        exact same_new (rem_fresh hL)
      have hL6 : rem p (upd H5 L (.lst (rgV 0 ((ts.length : Nat) : Int)))) L = some (.lst (rgV 0 ((ts.length : Nat) : Int))) := by rw [rem_ne nLp, upd_same]
      generalize upd H5 L (.lst (rgV 0 ((ts.length : Nat) : Int))) = H6 at hp6 r56 hL6 ⊢
      have many := G.many
      refine ⟨p, L, _, rfl, hp6, hL6, by rw [rgV_length]; omega, fun o ys H7 ho6 hp7 s7 ho7 pm => ?_⟩
      obtain ⟨is, rfl, io⟩ := perm_int pm
      rw [lts] at io
      have s06 := s05.trans r56
      have on6 : rem p H6 o = none := rem_fresh ho6
      have ho0 : H0 o = none := s06.free on6
      -- all that isn't the order
      have q67 : Same (rem p H6) (rem o (rem p H7)) := same_toRem s7 on6
      have q47 := (s5.trans r56).trans q67
      have hwo := hwp.same q47
      have hlo := q47 _ _ hl4
      have hto := q47 _ _ ht4
      have tto := tt4.same q47
      have hdo := (r56.trans q67) _ _ hd5
      have s07 := s06.trans s7
      -- no names
      have hl7 := (((s5.trans r56).trans s7)) _ _ hl4
      have hd7 := (r56.trans s7) _ _ hd5
      refine ⟨_, rfl, _, rfl, _, rfl, _, rfl, p, l, d, nm, g, rfl, hp7, hl7, G.one, G.nine, G.nd, G.nm, hd7, hg, hgd, fun v H8 hp8 s8 bad => ?_⟩
      have hw8 : WebAt T.cWeb H8 x nm qs := (hwo.same (same_rem.trans s8)).same same_rem
      refine ⟨0, x, v, nm, qs, "web", rfl, hw8, G, .inl ⟨rfl, bad.same same_rem, rfl⟩, fun R1 H9 s9 hR1 => ⟨Nat.le_of_lt (small1000 (show 1 ≤ 1000 by decide)), fun L1 hL1 => ?_⟩⟩
      have s9' := s9.trans (same_new (o := .lst [.str "web"]) hL1)
      refine ⟨.list [.str "web"], .list [.str "web"], .lst (SqL.of (same_new hL1 _ _ hR1)) (.cons (.str _) .nil), .lst (SqL.of upd_same) (.cons (.str _) .nil), shaped_one (by decide +kernel), shaped_one (by decide +kernel), _, rfl, ?_⟩
      rw [eqv_one]
      refine iteF ?_
      generalize upd H9 L1 (.lst [.str "web"]) = H10 at s9' ⊢
      have hp10 := hp8.same s9'
      have s710 := s8.trans (same_remr (p := p) s9')
      have ho10 := s710 _ _ ho7
      -- no order
      refine ⟨_, rfl, _, rfl, _, rfl, p, o, qs.length, is, rfl, hp10, ho10, io, many, fun v2 H11 hp11 s11 bad2 => ?_⟩
      have s711 := s710.trans s11
      have hw11 : WebAt T.cWeb H11 x nm qs := (hwo.same (same_rem.trans s711)).same same_rem
      refine ⟨1, x, v2, nm, qs, "numbers", rfl, hw11, G, .inr ⟨rfl, bad2.same same_rem, rfl⟩, fun R2 H12 s12 hR2 => ⟨Nat.le_of_lt (small1000 (show 1 ≤ 1000 by decide)), fun L2 hL2 => ?_⟩⟩
      have s12' := s12.trans (same_new (o := .lst [.str "numbers"]) hL2)
      refine ⟨.list [.str "numbers"], .list [.str "numbers"], .lst (SqL.of (same_new hL2 _ _ hR2)) (.cons (.str _) .nil), .lst (SqL.of upd_same) (.cons (.str _) .nil), shaped_one (by decide +kernel), shaped_one (by decide +kernel), _, rfl, ?_⟩
      rw [eqv_one]
      refine iteF ?_
      generalize upd H12 L2 (.lst [.str "numbers"]) = H13 at s12' ⊢
      have s713 := s711.trans (same_remr (p := p) s12')
      have q713 := same_remr (p := o) s713
      have t713 : Same (rem o (rem p H7)) H13 := (q713.trans same_rem).trans same_rem
      have hd13 := t713 _ _ hdo
      have ho13 := (of_rem (s713 _ _ ho7)).2
      have s013 := (s07.trans s713).trans same_rem
      -- renamed
      refine ⟨_, rfl, _, rfl, _, rfl, _, rfl, x, l, t, d, nm, qs, ts, g, rfl, hwo.same t713, G, t713 _ _ hlo, t713 _ _ hto, tto.same t713, hd13, hg, hgd, fun H14 r14 => ⟨_, rfl, iteF ?_⟩⟩
      have nod : o ≠ d := ne_of ho13 hd13 (by intro z; cases z)
      -- reordered
      have q14 : Same (rem d (rem o (rem p H7))) (rem o H14) := by
        have a1 : Same (rem d (rem o (rem p H7))) (rem d (rem o H13)) := same_remr (q713.trans (same_remr same_rem))
        have a2 : Same (rem d (rem o H13)) (rem o (rem d H13)) := rem_swap
        exact (a1.trans a2).trans (same_remr (r14.trans same_rem))
      have ho14 : H14 o = some (.lst (is.map V.int)) := (of_rem (r14 _ _ (by rw [rem_ne nod]; exact ho13))).2
      refine ⟨_, rfl, _, rfl, _, rfl, _, rfl, x, l, t, o, nm, qs, ts, is, rfl, (web_rem hdo hwo).same q14, G, q14 _ _ (rem_of hdo hlo (by intro z; cases z)), q14 _ _ (rem_of hdo hto (by intro z; cases z)), (ties_rem hdo tto).same q14, ho14, io, fun H15 r15 => ⟨_, rfl, iteF ?_⟩⟩
      exact ⟨_, _, _, _, _, _, _, rfl, sH.trans (same_ofRem (same_ofRem s013 hd0 r14) ho0 r15)⟩
    · rintro σ H' ⟨_, _, _, _, _, _, _, rfl, _⟩
      exact k _
end
end Pw

/-! the head's facts by names, the law from them. -/
namespace Pw
open PySem PySem.Spec PyProof.Rows L2
def excB (x : Str) (K : PySem.W.Frag) : Bool :=
  He.eqO (PySem.W.findIn K (.ref (He.ga K x)) "__getattribute__") (some (some (.builtin "BaseException.__getattribute__"))) && (He.eqO (PySem.W.findIn K (.ref (He.ga K x)) "__getattr__") (some none) && (decide (PySem.W.subIn K (.ref (He.ga K x)) (.type "BaseException") = some true) && (PySem.W.hasDictIn K (He.ga K x) &&
    (He.eqO (PySem.W.findIn K (.ref (He.ga K x)) "__class__") (some (some (.builtin "object.__class__"))) && (He.eqO (PySem.W.specialIn K (.builtin "object.__class__") "__get__") (some (some (.builtin "getset_descriptor.__get__"))) && (decide (PySem.W.takesIn K (.builtin "object.__class__") = some true) && decide (PySem.W.mroIn K (He.ga K x) (.type "object") = some true)))))))
theorem excB_ok {x : Str} {K : PySem.W.Frag} (h : excB x K = true) : ExcC K (He.ga K x) := by
  obtain ⟨h1, h⟩ := He.ba h
  obtain ⟨h2, h⟩ := He.ba h
  obtain ⟨h3, h⟩ := He.ba h
  obtain ⟨h4, h⟩ := He.ba h
  obtain ⟨h5, h⟩ := He.ba h
  obtain ⟨h6, h⟩ := He.ba h
  obtain ⟨h7, h8⟩ := He.ba h
  exact ⟨He.eqO_ok h1, He.eqO_ok h2, of_decide_eq_true h3, h4, He.eqO_ok h5, He.eqO_ok h6, of_decide_eq_true h7, of_decide_eq_true h8⟩
def kitB2 (x y : Str) (b : Bool) (K : PySem.W.Frag) : Bool := decide (PySem.W.kitOne K (.ref (He.ga K x)) (.ref (He.ga K y)) = some b)
def keepMa (x m : Str) (K : PySem.W.Frag) : Bool := PySem.W.keepIn K (.ref (He.ma K (He.ga K x) m))
def kitVE (x : Str) (K : PySem.W.Frag) : Bool := decide (PySem.W.kitOne K (.ref (He.ga K x)) (.type "ValueError") = some true)
/-! ### a Hook of any facts about what the module's names reach -/
abbrev Fx : Type := PySem.W.Frag → Bool
def obsX (fa : List Fx) (fn : List He.FnD) (K : PySem.W.Frag) : He.Al := ((fa.all fun f => f K) && fn.all fun d => (He.Fa.code d.at_ d.qual).ok K, fn.map fun d => He.fnObs K d.at_)
def SaysX (fa : List Fx) (fn : List He.FnD) (K : PySem.W.Frag) : Prop := obsX fa fn K = He.valE fn
def obsXG (n : Nat) (fa : List Fx) (fn : List He.FnD) (g : Addr → Option Obj) : He.Al := obsX fa fn (He.frG g (He.asG g n))
def hookX (n : Nat) (fa : List Fx) (fn : List He.FnD) : PySem.W.Hook where
  α := He.Al
  obs := fun s => obsXG n fa fn s.heap.get?
  val := fun _ => He.valE fn
  says := fun _ h => ∃ K : PySem.W.Frag, K.In h ∧ SaysX fa fn K
  of := fun _ _ e => ⟨_, He.frG_in, e⟩
  keeps := fun _ _ _ ⟨K, hK, c⟩ k => ⟨K, PySem.W.Frag.In.keeps hK k, c⟩
theorem obsXG_eq {n : Nat} {fa : List Fx} {fn : List He.FnD} {g : Addr → Option Obj} {s : Shared} (h : ∀ a, g a = s.heap.get? a) : obsXG n fa fn g = (hookX n fa fn).obs s := by
  have e : g = s.heap.get? := funext h
  rw [e] <;> rfl
section
variable {fa : List Fx} {fn : List He.FnD} {K : PySem.W.Frag}
theorem SaysX.fact (c : SaysX fa fn K) (i : Nat) {f : Fx} (h : fa[i]? = some f := by rfl) : f K = true := by
  have c1 := (He.ba (show ((fa.all fun f => f K) && fn.all fun d => (He.Fa.code d.at_ d.qual).ok K) = true from congrArg (fun z : He.Al => z.1) c)).1
  exact List.all_eq_true.mp c1 f (List.mem_of_getElem? h)
theorem SaysX.def_ (c : SaysX fa fn K) (i : Nat) {d : He.FnD} (h : fn[i]? = some d := by rfl) :
    ∃ oc od osl kV doc pm an cdv ct, K.lookup (He.fAd K d.at_) = some ⟨oc, od, .func (PySem.W.fnOf d.name d.qual d.params d.body d.scope .none kV doc pm an cdv ct), osl⟩ ∧ PySem.W.codeIn K cdv d.qual = true := by
  have c2 := (He.ba (show ((fa.all fun f => f K) && fn.all fun d => (He.Fa.code d.at_ d.qual).ok K) = true from congrArg (fun z : He.Al => z.1) c)).2
  have e : fn.map (fun d => He.fnObs K d.at_) = fn.map He.FnD.val := congrArg (fun z : He.Al => z.2) c
  have e2 : (fn.map fun d => He.fnObs K d.at_)[i]? = (fn.map He.FnD.val)[i]? := by rw [e]
  rw [List.getElem?_map, List.getElem?_map, h] at e2
  exact He.fn_ok (Option.some.inj e2) (List.all_eq_true.mp c2 d (List.mem_of_getElem? h))
end
theorem walk_ofGE {l : PySem.W.OpenLaw} {n k : Nat} {q : Program} {loose : List Str} {XP : (Str → Option Value) → Heap → Prop} {YP : World → Heap → Prop} {d : DefRec} {CX : CXT} {x : Str}
    (hn : l.most = some n) (hn2 : n ≤ sizeLine) (hdf : d.params.defaults = []) (hr : Room k callerA)
    (F : ∀ (w : World) (mg : Str → Option Value) (fa : Addr) (h : Heap), YP w h → h.Ns mainGlobals mg → mg d.name = some (.ref fa) →
      ∃ (K : PySem.W.Frag) (fd : FuncData) (sp : Sp), K.In h ∧ (∀ (s : Shared) (u : Value), BindsTo s fd ⟨[u], []⟩ [(x, u)]) ∧
        (∀ (H : Hp) (a : Addr) (ns : List Int), ns.length ≤ n → Only H → SqL K H a (ns.map V.int) → sp [.ref a] H (fun v _ => v = .bl true) fun _ _ _ => False) ∧
        ∀ base : Heap, K.In base → base.Ns mainGlobals mg → FnG l.prog w K mg base CX k fa fd [x] sp)
    (hCX : ∀ (H : Hp) (s : Shared) (e : Value) (s' : Shared), CX [] H s (fun _ _ _ => False) e s' → False) :
    PySem.W.WalkO q loose XP YP l.row.toRowW d [] (fun f vs => PySem.call f vs) := by
  refine Att.attach_call hn hdf fun w s₀ s₁ mg mb fa o pm cd doc a vs ns G Y ho hd hcd hmg hobj hints hlen hg => ?_
  obtain ⟨K, fd, sp, KX, hb, hsp, hF⟩ := F w mg fa _ Y G.T.g hmg
  exact law_callG KX G.T.g G.T.b G.T.builtins G.T.nolimit hg hobj hints (Nat.le_trans hlen hn2) hr hF hb (fun H hO hS => hsp H a ns hlen hO hS) fun H e s' => hCX H s₁ e s'
/-! ### this program's -/
def fnD (a : Str × Option Str) (x q : Str) (st : Stmt) : He.FnD := ⟨a, x, q, defArgs st, defBody st, defScope st⟩
def fns : List He.FnD := [fnD ("is_row", none) "is_row" "is_row" sRow, fnD ("is_whole", none) "is_whole" "is_whole" sWhole, fnD ("is_name", none) "is_name" "is_name" sName, fnD ("are_names", none) "are_names" "are_names" sNames, fnD ("is_pair", none) "is_pair" "is_pair" sPair, fnD ("renamed", none) "renamed" "renamed" sRen, fnD ("renamed_ties", none) "renamed_ties" "renamed_ties" sRenT, fnD ("are_numbers", none) "are_numbers" "are_numbers" sNums, fnD ("reordered", none) "reordered" "reordered" sReo, fnD ("_law_pot", none) "_law_pot" "_law_pot" sPot, fnD ("_law_take", none) "_law_take" "_law_take" sTake, fnD ("_law_names", none) "_law_names" "_law_names" sLNames, fnD ("_law_mixed", none) "_law_mixed" "_law_mixed" sMixed, fnD ("_law_tie", none) "_law_tie" "_law_tie" sTie, fnD ("_law_web", none) "_law_web" "_law_web" sLWeb, fnD ("_law_classes", none) "_law_classes" "_law_classes" sCls, fnD ("_law_new_names", none) "_law_new_names" "_law_new_names" sNew, fnD ("_law_is", none) "_law_is" "_law_is" sIs, fnD ("_law_renamed_right", none) "_law_renamed_right" "_law_renamed_right" sRR, fnD ("_law_reordered_right", none) "_law_reordered_right" "_law_reordered_right" sRO, fnD ("_law_bad_names", none) "_law_bad_names" "_law_bad_names" sBN, fnD ("_law_bad_order", none) "_law_bad_order" "_law_bad_order" sBO, fnD ("_law_refusal", none) "_law_refusal" "_law_refusal" sRef, fnD ("law", none) "law" "law" sLaw, fnD ("Web", some "__init__") "__init__" "Web.__init__" sInit, fnD ("Web", some "points") "points" "Web.points" sPoints, fnD ("Web", some "ties") "ties" "Web.ties" sTies, fnD ("Web", some "many") "many" "Web.many" sMany]
def fa0 : List Fx := [(He.Fa.glo "is_row").ok, (He.Fa.keep "is_row").ok, (He.Fa.glo "is_whole").ok, (He.Fa.keep "is_whole").ok, (He.Fa.glo "is_name").ok, (He.Fa.keep "is_name").ok, (He.Fa.glo "are_names").ok, (He.Fa.keep "are_names").ok, (He.Fa.glo "is_pair").ok, (He.Fa.keep "is_pair").ok, (He.Fa.glo "renamed").ok, (He.Fa.keep "renamed").ok, (He.Fa.glo "renamed_ties").ok, (He.Fa.keep "renamed_ties").ok, (He.Fa.glo "are_numbers").ok, (He.Fa.keep "are_numbers").ok, (He.Fa.glo "reordered").ok, (He.Fa.keep "reordered").ok, (He.Fa.glo "_law_pot").ok, (He.Fa.keep "_law_pot").ok, (He.Fa.glo "_law_take").ok, (He.Fa.keep "_law_take").ok, (He.Fa.glo "_law_names").ok, (He.Fa.keep "_law_names").ok, (He.Fa.glo "_law_mixed").ok, (He.Fa.keep "_law_mixed").ok, (He.Fa.glo "_law_tie").ok, (He.Fa.keep "_law_tie").ok, (He.Fa.glo "_law_web").ok, (He.Fa.keep "_law_web").ok]
def fa1 : List Fx := [(He.Fa.glo "_law_classes").ok, (He.Fa.keep "_law_classes").ok, (He.Fa.glo "_law_new_names").ok, (He.Fa.keep "_law_new_names").ok, (He.Fa.glo "_law_is").ok, (He.Fa.keep "_law_is").ok, (He.Fa.glo "_law_renamed_right").ok, (He.Fa.keep "_law_renamed_right").ok, (He.Fa.glo "_law_reordered_right").ok, (He.Fa.keep "_law_reordered_right").ok, (He.Fa.glo "_law_bad_names").ok, (He.Fa.keep "_law_bad_names").ok, (He.Fa.glo "_law_bad_order").ok, (He.Fa.keep "_law_bad_order").ok, (He.Fa.glo "_law_refusal").ok, (He.Fa.keep "_law_refusal").ok, (He.Fa.glo "law").ok, (He.Fa.keep "law").ok, (He.Fa.glo "Web").ok, (He.Fa.cls "Web").ok, (He.Fa.mkr "Web").ok, (He.Fa.meth "Web" "points").ok, (He.Fa.meth "Web" "ties").ok, (He.Fa.meth "Web" "many").ok, keepMa "Web" "__init__", (He.Fa.noat "Web" "own_points").ok, (He.Fa.noat "Web" "own_ties").ok, (He.Fa.free "isinstance").ok, (He.Fa.free "list").ok, (He.Fa.free "tuple").ok]
def fa2 : List Fx := [(He.Fa.free "int").ok, (He.Fa.free "bool").ok, (He.Fa.free "str").ok, (He.Fa.free "len").ok, (He.Fa.free "all").ok, (He.Fa.free "set").ok, (He.Fa.free "dict").ok, (He.Fa.free "divmod").ok, (He.Fa.free "max").ok, (He.Fa.free "min").ok, (He.Fa.free "abs").ok, (He.Fa.free "range").ok, (He.Fa.free "zip").ok, (He.Fa.free "repr").ok, (He.Fa.free "ValueError").ok, (He.Fa.str "SMALL" "abcdefghijklmnopqrstuvwxyz").ok, (He.Fa.int "MOST_LETTERS" 4).ok, (He.Fa.int "MOST_POINTS" 9).ok, (He.Fa.int "MOST_TIES" 20).ok, (He.Fa.glo "PointError").ok, (He.Fa.glo "NoWeb").ok, (He.Fa.glo "NoText").ok, (He.Fa.glo "NoNumbers").ok, (He.Fa.glo "NoLot").ok, (He.Fa.glo "NoPoint").ok, (He.Fa.glo "NoPointing").ok, (He.Fa.glo "Parted").ok, (He.Fa.glo "Barred").ok, (He.Fa.glo "TooMuch").ok, (He.Fa.exc "NoWeb").ok]
def fa3 : List Fx := [(He.Fa.exm "NoWeb" "PointError" true).ok, excB "NoWeb", kitB2 "NoWeb" "NoWeb" true, kitB2 "NoWeb" "NoText" false, kitB2 "NoWeb" "NoNumbers" false, kitB2 "NoWeb" "NoLot" false, kitB2 "NoWeb" "NoPoint" false, kitB2 "NoWeb" "NoPointing" false, kitB2 "NoWeb" "Parted" false, kitB2 "NoWeb" "Barred" false, kitB2 "NoWeb" "TooMuch" false, kitVE "NoWeb", (He.Fa.exc "NoNumbers").ok, (He.Fa.exm "NoNumbers" "PointError" true).ok, excB "NoNumbers", kitB2 "NoNumbers" "NoWeb" false, kitB2 "NoNumbers" "NoText" false, kitB2 "NoNumbers" "NoNumbers" true, kitB2 "NoNumbers" "NoLot" false, kitB2 "NoNumbers" "NoPoint" false, kitB2 "NoNumbers" "NoPointing" false, kitB2 "NoNumbers" "Parted" false, kitB2 "NoNumbers" "Barred" false, kitB2 "NoNumbers" "TooMuch" false, kitVE "NoNumbers"]
def fas : List Fx := fa0 ++ fa1 ++ fa2 ++ fa3
theorem law_of {P : Program} {w : World} {K : PySem.W.Frag} {h : Heap} {mg : Str → Option Value} {f : Addr} (X : K.In h) (G : h.Ns mainGlobals mg) (hfa : mg ("law" : Str) = some (.ref f)) (c : SaysX fas fns K) :
    ∃ fd : FuncData, (∀ (s : Shared) (v : Value), BindsTo s fd ⟨[v], []⟩ [("_law_script", v)]) ∧ ∀ base : Heap, K.In base → base.Ns mainGlobals mg → FnG P w K mg base CX0 7 f fd pLaw (spLaw K) := by
  have e := hfa.symm.trans (He.glo_ok X G (c.fact 46 (f := (He.Fa.glo "law").ok) rfl))
  cases e
  obtain ⟨ocRow, odRow, slRow, kVRow, dcRow, pmRow, anRow, cdRow, ctRow, lkRow, ccRow⟩ := c.def_ 0 (d := fnD ("is_row", none) "is_row" "is_row" sRow) rfl
  have FRow := fun_mk (K := K) (x := "is_row") (qual := "is_row") (st := sRow) lkRow ccRow (c.fact 1 (f := (He.Fa.keep "is_row").ok) rfl)
  have bRow : Binds K _ pRow [] := FRow.binds (ps := pRow) fun _ _ _ _ _ _ us hl => match us, hl with | [_], _ => rfl
  obtain ⟨ocWhole, odWhole, slWhole, kVWhole, dcWhole, pmWhole, anWhole, cdWhole, ctWhole, lkWhole, ccWhole⟩ := c.def_ 1 (d := fnD ("is_whole", none) "is_whole" "is_whole" sWhole) rfl
  have FWhole := fun_mk (K := K) (x := "is_whole") (qual := "is_whole") (st := sWhole) lkWhole ccWhole (c.fact 3 (f := (He.Fa.keep "is_whole").ok) rfl)
  have bWhole : Binds K _ pWhole [] := FWhole.binds (ps := pWhole) fun _ _ _ _ _ _ us hl => match us, hl with | [_], _ => rfl
  obtain ⟨ocName, odName, slName, kVName, dcName, pmName, anName, cdName, ctName, lkName, ccName⟩ := c.def_ 2 (d := fnD ("is_name", none) "is_name" "is_name" sName) rfl
  have FName := fun_mk (K := K) (x := "is_name") (qual := "is_name") (st := sName) lkName ccName (c.fact 5 (f := (He.Fa.keep "is_name").ok) rfl)
  have bName : Binds K _ pName [] := FName.binds (ps := pName) fun _ _ _ _ _ _ us hl => match us, hl with | [_], _ => rfl
  obtain ⟨ocNames, odNames, slNames, kVNames, dcNames, pmNames, anNames, cdNames, ctNames, lkNames, ccNames⟩ := c.def_ 3 (d := fnD ("are_names", none) "are_names" "are_names" sNames) rfl
  have FNames := fun_mk (K := K) (x := "are_names") (qual := "are_names") (st := sNames) lkNames ccNames (c.fact 7 (f := (He.Fa.keep "are_names").ok) rfl)
  have bNames : Binds K _ pNames [] := FNames.binds (ps := pNames) fun _ _ _ _ _ _ us hl => match us, hl with | [_], _ => rfl
  obtain ⟨ocPair, odPair, slPair, kVPair, dcPair, pmPair, anPair, cdPair, ctPair, lkPair, ccPair⟩ := c.def_ 4 (d := fnD ("is_pair", none) "is_pair" "is_pair" sPair) rfl
  have FPair := fun_mk (K := K) (x := "is_pair") (qual := "is_pair") (st := sPair) lkPair ccPair (c.fact 9 (f := (He.Fa.keep "is_pair").ok) rfl)
  have bPair : Binds K _ pPair [] := FPair.binds (ps := pPair) fun _ _ _ _ _ _ us hl => match us, hl with | [_, _], _ => rfl
  obtain ⟨ocRen, odRen, slRen, kVRen, dcRen, pmRen, anRen, cdRen, ctRen, lkRen, ccRen⟩ := c.def_ 5 (d := fnD ("renamed", none) "renamed" "renamed" sRen) rfl
  have FRen := fun_mk (K := K) (x := "renamed") (qual := "renamed") (st := sRen) lkRen ccRen (c.fact 11 (f := (He.Fa.keep "renamed").ok) rfl)
  have bRen : Binds K _ pRen [] := FRen.binds (ps := pRen) fun _ _ _ _ _ _ us hl => match us, hl with | [_, _], _ => rfl
  obtain ⟨ocRenT, odRenT, slRenT, kVRenT, dcRenT, pmRenT, anRenT, cdRenT, ctRenT, lkRenT, ccRenT⟩ := c.def_ 6 (d := fnD ("renamed_ties", none) "renamed_ties" "renamed_ties" sRenT) rfl
  have FRenT := fun_mk (K := K) (x := "renamed_ties") (qual := "renamed_ties") (st := sRenT) lkRenT ccRenT (c.fact 13 (f := (He.Fa.keep "renamed_ties").ok) rfl)
  have bRenT : Binds K _ pRenT [] := FRenT.binds (ps := pRenT) fun _ _ _ _ _ _ us hl => match us, hl with | [_, _], _ => rfl
  obtain ⟨ocNums, odNums, slNums, kVNums, dcNums, pmNums, anNums, cdNums, ctNums, lkNums, ccNums⟩ := c.def_ 7 (d := fnD ("are_numbers", none) "are_numbers" "are_numbers" sNums) rfl
  have FNums := fun_mk (K := K) (x := "are_numbers") (qual := "are_numbers") (st := sNums) lkNums ccNums (c.fact 15 (f := (He.Fa.keep "are_numbers").ok) rfl)
  have bNums : Binds K _ pNums [] := FNums.binds (ps := pNums) fun _ _ _ _ _ _ us hl => match us, hl with | [_, _], _ => rfl
  obtain ⟨ocReo, odReo, slReo, kVReo, dcReo, pmReo, anReo, cdReo, ctReo, lkReo, ccReo⟩ := c.def_ 8 (d := fnD ("reordered", none) "reordered" "reordered" sReo) rfl
  have FReo := fun_mk (K := K) (x := "reordered") (qual := "reordered") (st := sReo) lkReo ccReo (c.fact 17 (f := (He.Fa.keep "reordered").ok) rfl)
  have bReo : Binds K _ pReo [] := FReo.binds (ps := pReo) fun _ _ _ _ _ _ us hl => match us, hl with | [_, _], _ => rfl
  obtain ⟨ocPot, odPot, slPot, kVPot, dcPot, pmPot, anPot, cdPot, ctPot, lkPot, ccPot⟩ := c.def_ 9 (d := fnD ("_law_pot", none) "_law_pot" "_law_pot" sPot) rfl
  have FPot := fun_mk (K := K) (x := "_law_pot") (qual := "_law_pot") (st := sPot) lkPot ccPot (c.fact 19 (f := (He.Fa.keep "_law_pot").ok) rfl)
  have bPot : Binds K _ pPot [] := FPot.binds (ps := pPot) fun _ _ _ _ _ _ us hl => match us, hl with | [_, _], _ => rfl
  obtain ⟨ocTake, odTake, slTake, kVTake, dcTake, pmTake, anTake, cdTake, ctTake, lkTake, ccTake⟩ := c.def_ 10 (d := fnD ("_law_take", none) "_law_take" "_law_take" sTake) rfl
  have FTake := fun_mk (K := K) (x := "_law_take") (qual := "_law_take") (st := sTake) lkTake ccTake (c.fact 21 (f := (He.Fa.keep "_law_take").ok) rfl)
  have bTake : Binds K _ pTake [] := FTake.binds (ps := pTake) fun _ _ _ _ _ _ us hl => match us, hl with | [_, _], _ => rfl
  obtain ⟨ocLNames, odLNames, slLNames, kVLNames, dcLNames, pmLNames, anLNames, cdLNames, ctLNames, lkLNames, ccLNames⟩ := c.def_ 11 (d := fnD ("_law_names", none) "_law_names" "_law_names" sLNames) rfl
  have FLNames := fun_mk (K := K) (x := "_law_names") (qual := "_law_names") (st := sLNames) lkLNames ccLNames (c.fact 23 (f := (He.Fa.keep "_law_names").ok) rfl)
  have bLNames : Binds K _ pLNames [] := FLNames.binds (ps := pLNames) fun _ _ _ _ _ _ us hl => match us, hl with | [_, _], _ => rfl
  obtain ⟨ocMixed, odMixed, slMixed, kVMixed, dcMixed, pmMixed, anMixed, cdMixed, ctMixed, lkMixed, ccMixed⟩ := c.def_ 12 (d := fnD ("_law_mixed", none) "_law_mixed" "_law_mixed" sMixed) rfl
  have FMixed := fun_mk (K := K) (x := "_law_mixed") (qual := "_law_mixed") (st := sMixed) lkMixed ccMixed (c.fact 25 (f := (He.Fa.keep "_law_mixed").ok) rfl)
  have bMixed : Binds K _ pMixed [] := FMixed.binds (ps := pMixed) fun _ _ _ _ _ _ us hl => match us, hl with | [_, _], _ => rfl
  obtain ⟨ocTie, odTie, slTie, kVTie, dcTie, pmTie, anTie, cdTie, ctTie, lkTie, ccTie⟩ := c.def_ 13 (d := fnD ("_law_tie", none) "_law_tie" "_law_tie" sTie) rfl
  have FTie := fun_mk (K := K) (x := "_law_tie") (qual := "_law_tie") (st := sTie) lkTie ccTie (c.fact 27 (f := (He.Fa.keep "_law_tie").ok) rfl)
  have bTie : Binds K _ pTie [] := FTie.binds (ps := pTie) fun _ _ _ _ _ _ us hl => match us, hl with | [_, _], _ => rfl
  obtain ⟨ocLWeb, odLWeb, slLWeb, kVLWeb, dcLWeb, pmLWeb, anLWeb, cdLWeb, ctLWeb, lkLWeb, ccLWeb⟩ := c.def_ 14 (d := fnD ("_law_web", none) "_law_web" "_law_web" sLWeb) rfl
  have FLWeb := fun_mk (K := K) (x := "_law_web") (qual := "_law_web") (st := sLWeb) lkLWeb ccLWeb (c.fact 29 (f := (He.Fa.keep "_law_web").ok) rfl)
  have bLWeb : Binds K _ pLWeb [] := FLWeb.binds (ps := pLWeb) fun _ _ _ _ _ _ us hl => match us, hl with | [_, _, _], _ => rfl
  obtain ⟨ocCls, odCls, slCls, kVCls, dcCls, pmCls, anCls, cdCls, ctCls, lkCls, ccCls⟩ := c.def_ 15 (d := fnD ("_law_classes", none) "_law_classes" "_law_classes" sCls) rfl
  have FCls := fun_mk (K := K) (x := "_law_classes") (qual := "_law_classes") (st := sCls) lkCls ccCls (c.fact 31 (f := (He.Fa.keep "_law_classes").ok) rfl)
  have bCls : Binds K _ pCls [] := FCls.binds (ps := pCls) fun _ _ _ _ _ _ us hl => match us, hl with | [_], _ => rfl
  obtain ⟨ocNew, odNew, slNew, kVNew, dcNew, pmNew, anNew, cdNew, ctNew, lkNew, ccNew⟩ := c.def_ 16 (d := fnD ("_law_new_names", none) "_law_new_names" "_law_new_names" sNew) rfl
  have FNew := fun_mk (K := K) (x := "_law_new_names") (qual := "_law_new_names") (st := sNew) lkNew ccNew (c.fact 33 (f := (He.Fa.keep "_law_new_names").ok) rfl)
  have bNew : Binds K _ pNew [] := FNew.binds (ps := pNew) fun _ _ _ _ _ _ us hl => match us, hl with | [_, _], _ => rfl
  obtain ⟨ocIs, odIs, slIs, kVIs, dcIs, pmIs, anIs, cdIs, ctIs, lkIs, ccIs⟩ := c.def_ 17 (d := fnD ("_law_is", none) "_law_is" "_law_is" sIs) rfl
  have FIs := fun_mk (K := K) (x := "_law_is") (qual := "_law_is") (st := sIs) lkIs ccIs (c.fact 35 (f := (He.Fa.keep "_law_is").ok) rfl)
  have bIs : Binds K _ pIs [] := FIs.binds (ps := pIs) fun _ _ _ _ _ _ us hl => match us, hl with | [_, _, _], _ => rfl
  obtain ⟨ocRR, odRR, slRR, kVRR, dcRR, pmRR, anRR, cdRR, ctRR, lkRR, ccRR⟩ := c.def_ 18 (d := fnD ("_law_renamed_right", none) "_law_renamed_right" "_law_renamed_right" sRR) rfl
  have FRR := fun_mk (K := K) (x := "_law_renamed_right") (qual := "_law_renamed_right") (st := sRR) lkRR ccRR (c.fact 37 (f := (He.Fa.keep "_law_renamed_right").ok) rfl)
  have bRR : Binds K _ pRR [] := FRR.binds (ps := pRR) fun _ _ _ _ _ _ us hl => match us, hl with | [_, _, _, _], _ => rfl
  obtain ⟨ocRO, odRO, slRO, kVRO, dcRO, pmRO, anRO, cdRO, ctRO, lkRO, ccRO⟩ := c.def_ 19 (d := fnD ("_law_reordered_right", none) "_law_reordered_right" "_law_reordered_right" sRO) rfl
  have FRO := fun_mk (K := K) (x := "_law_reordered_right") (qual := "_law_reordered_right") (st := sRO) lkRO ccRO (c.fact 39 (f := (He.Fa.keep "_law_reordered_right").ok) rfl)
  have bRO : Binds K _ pRO [] := FRO.binds (ps := pRO) fun _ _ _ _ _ _ us hl => match us, hl with | [_, _, _, _], _ => rfl
  obtain ⟨ocBN, odBN, slBN, kVBN, dcBN, pmBN, anBN, cdBN, ctBN, lkBN, ccBN⟩ := c.def_ 20 (d := fnD ("_law_bad_names", none) "_law_bad_names" "_law_bad_names" sBN) rfl
  have FBN := fun_mk (K := K) (x := "_law_bad_names") (qual := "_law_bad_names") (st := sBN) lkBN ccBN (c.fact 41 (f := (He.Fa.keep "_law_bad_names").ok) rfl)
  have bBN : Binds K _ pBN [] := FBN.binds (ps := pBN) fun _ _ _ _ _ _ us hl => match us, hl with | [_, _, _], _ => rfl
  obtain ⟨ocBO, odBO, slBO, kVBO, dcBO, pmBO, anBO, cdBO, ctBO, lkBO, ccBO⟩ := c.def_ 21 (d := fnD ("_law_bad_order", none) "_law_bad_order" "_law_bad_order" sBO) rfl
  have FBO := fun_mk (K := K) (x := "_law_bad_order") (qual := "_law_bad_order") (st := sBO) lkBO ccBO (c.fact 43 (f := (He.Fa.keep "_law_bad_order").ok) rfl)
  have bBO : Binds K _ pBO [] := FBO.binds (ps := pBO) fun _ _ _ _ _ _ us hl => match us, hl with | [_, _], _ => rfl
  obtain ⟨ocRef, odRef, slRef, kVRef, dcRef, pmRef, anRef, cdRef, ctRef, lkRef, ccRef⟩ := c.def_ 22 (d := fnD ("_law_refusal", none) "_law_refusal" "_law_refusal" sRef) rfl
  have FRef := fun_mk (K := K) (x := "_law_refusal") (qual := "_law_refusal") (st := sRef) lkRef ccRef (c.fact 45 (f := (He.Fa.keep "_law_refusal").ok) rfl)
  have bRef : Binds K _ pRef [] := FRef.binds (ps := pRef) fun _ _ _ _ _ _ us hl => match us, hl with | [_, _, _], _ => rfl
  obtain ⟨ocLaw, odLaw, slLaw, kVLaw, dcLaw, pmLaw, anLaw, cdLaw, ctLaw, lkLaw, ccLaw⟩ := c.def_ 23 (d := fnD ("law", none) "law" "law" sLaw) rfl
  have FLaw := fun_mk (K := K) (x := "law") (qual := "law") (st := sLaw) lkLaw ccLaw (c.fact 47 (f := (He.Fa.keep "law").ok) rfl)
  have bLaw : Binds K _ pLaw [] := FLaw.binds (ps := pLaw) fun _ _ _ _ _ _ us hl => match us, hl with | [_], _ => rfl
  obtain ⟨ocInit, odInit, slInit, kVInit, dcInit, pmInit, anInit, cdInit, ctInit, lkInit, ccInit⟩ := c.def_ 24 (d := fnD ("Web", some "__init__") "__init__" "Web.__init__" sInit) rfl
  have FInit := fun_mk (K := K) (x := "__init__") (qual := "Web.__init__") (st := sInit) lkInit ccInit (c.fact 54 (f := keepMa "Web" "__init__") rfl)
  have bInit : Binds K _ pInit [] := FInit.binds (ps := pInit) fun _ _ _ _ _ _ us hl => match us, hl with | [_, _, _], _ => rfl
  obtain ⟨ocPoints, odPoints, slPoints, kVPoints, dcPoints, pmPoints, anPoints, cdPoints, ctPoints, lkPoints, ccPoints⟩ := c.def_ 25 (d := fnD ("Web", some "points") "points" "Web.points" sPoints) rfl
  have FPoints := fun_mk (K := K) (x := "points") (qual := "Web.points") (st := sPoints) lkPoints ccPoints ((He.meth_ok (c.fact 51 (f := (He.Fa.meth "Web" "points").ok) rfl)).kp)
  have bPoints : Binds K _ pPoints [] := FPoints.binds (ps := pPoints) fun _ _ _ _ _ _ us hl => match us, hl with | [_], _ => rfl
  obtain ⟨ocTies, odTies, slTies, kVTies, dcTies, pmTies, anTies, cdTies, ctTies, lkTies, ccTies⟩ := c.def_ 26 (d := fnD ("Web", some "ties") "ties" "Web.ties" sTies) rfl
  have FTies := fun_mk (K := K) (x := "ties") (qual := "Web.ties") (st := sTies) lkTies ccTies ((He.meth_ok (c.fact 52 (f := (He.Fa.meth "Web" "ties").ok) rfl)).kp)
  have bTies : Binds K _ pTies [] := FTies.binds (ps := pTies) fun _ _ _ _ _ _ us hl => match us, hl with | [_], _ => rfl
  obtain ⟨ocMany, odMany, slMany, kVMany, dcMany, pmMany, anMany, cdMany, ctMany, lkMany, ccMany⟩ := c.def_ 27 (d := fnD ("Web", some "many") "many" "Web.many" sMany) rfl
  have FMany := fun_mk (K := K) (x := "many") (qual := "Web.many") (st := sMany) lkMany ccMany ((He.meth_ok (c.fact 53 (f := (He.Fa.meth "Web" "many").ok) rfl)).kp)
  have bMany : Binds K _ pMany [] := FMany.binds (ps := pMany) fun _ _ _ _ _ _ us hl => match us, hl with | [_], _ => rfl
  obtain ⟨tS, hS⟩ := He.str_ok X G (c.fact 75 (f := (He.Fa.str "SMALL" "abcdefghijklmnopqrstuvwxyz").ok) rfl)
  obtain ⟨tMOST_LETTERS, hMOST_LETTERS⟩ := He.int_ok X G (c.fact 76 (f := (He.Fa.int "MOST_LETTERS" 4).ok) rfl)
  obtain ⟨tMOST_POINTS, hMOST_POINTS⟩ := He.int_ok X G (c.fact 77 (f := (He.Fa.int "MOST_POINTS" 9).ok) rfl)
  obtain ⟨tMOST_TIES, hMOST_TIES⟩ := He.int_ok X G (c.fact 78 (f := (He.Fa.int "MOST_TIES" 20).ok) rfl)
  obtain ⟨x1NoWeb, x2NoWeb, x3NoWeb, x4NoWeb⟩ := He.exc_ok (c.fact 89 (f := (He.Fa.exc "NoWeb").ok) rfl)
  obtain ⟨x1NoNumbers, x2NoNumbers, x3NoNumbers, x4NoNumbers⟩ := He.exc_ok (c.fact 102 (f := (He.Fa.exc "NoNumbers").ok) rfl)
  have T : W0 K mg :=
    {
fRow := _, dRow := _, eRow := ⟨FRow, He.glo_ok X G (c.fact 0 (f := (He.Fa.glo "is_row").ok) rfl), bRow⟩,
      fWhole := _, dWhole := _, eWhole := ⟨FWhole, He.glo_ok X G (c.fact 2 (f := (He.Fa.glo "is_whole").ok) rfl), bWhole⟩,
      fName := _, dName := _, eName := ⟨FName, He.glo_ok X G (c.fact 4 (f := (He.Fa.glo "is_name").ok) rfl), bName⟩,
      fNames := _, dNames := _, eNames := ⟨FNames, He.glo_ok X G (c.fact 6 (f := (He.Fa.glo "are_names").ok) rfl), bNames⟩,
      fPair := _, dPair := _, ePair := ⟨FPair, He.glo_ok X G (c.fact 8 (f := (He.Fa.glo "is_pair").ok) rfl), bPair⟩,
      fRen := _, dRen := _, eRen := ⟨FRen, He.glo_ok X G (c.fact 10 (f := (He.Fa.glo "renamed").ok) rfl), bRen⟩,
      fRenT := _, dRenT := _, eRenT := ⟨FRenT, He.glo_ok X G (c.fact 12 (f := (He.Fa.glo "renamed_ties").ok) rfl), bRenT⟩,
      fNums := _, dNums := _, eNums := ⟨FNums, He.glo_ok X G (c.fact 14 (f := (He.Fa.glo "are_numbers").ok) rfl), bNums⟩,
      fReo := _, dReo := _, eReo := ⟨FReo, He.glo_ok X G (c.fact 16 (f := (He.Fa.glo "reordered").ok) rfl), bReo⟩,
      fPot := _, dPot := _, ePot := ⟨FPot, He.glo_ok X G (c.fact 18 (f := (He.Fa.glo "_law_pot").ok) rfl), bPot⟩,
      fTake := _, dTake := _, eTake := ⟨FTake, He.glo_ok X G (c.fact 20 (f := (He.Fa.glo "_law_take").ok) rfl), bTake⟩,
      fLNames := _, dLNames := _, eLNames := ⟨FLNames, He.glo_ok X G (c.fact 22 (f := (He.Fa.glo "_law_names").ok) rfl), bLNames⟩,
      fMixed := _, dMixed := _, eMixed := ⟨FMixed, He.glo_ok X G (c.fact 24 (f := (He.Fa.glo "_law_mixed").ok) rfl), bMixed⟩,
      fTie := _, dTie := _, eTie := ⟨FTie, He.glo_ok X G (c.fact 26 (f := (He.Fa.glo "_law_tie").ok) rfl), bTie⟩,
      fLWeb := _, dLWeb := _, eLWeb := ⟨FLWeb, He.glo_ok X G (c.fact 28 (f := (He.Fa.glo "_law_web").ok) rfl), bLWeb⟩,
      fCls := _, dCls := _, eCls := ⟨FCls, He.glo_ok X G (c.fact 30 (f := (He.Fa.glo "_law_classes").ok) rfl), bCls⟩,
      fNew := _, dNew := _, eNew := ⟨FNew, He.glo_ok X G (c.fact 32 (f := (He.Fa.glo "_law_new_names").ok) rfl), bNew⟩,
      fIs := _, dIs := _, eIs := ⟨FIs, He.glo_ok X G (c.fact 34 (f := (He.Fa.glo "_law_is").ok) rfl), bIs⟩,
      fRR := _, dRR := _, eRR := ⟨FRR, He.glo_ok X G (c.fact 36 (f := (He.Fa.glo "_law_renamed_right").ok) rfl), bRR⟩,
      fRO := _, dRO := _, eRO := ⟨FRO, He.glo_ok X G (c.fact 38 (f := (He.Fa.glo "_law_reordered_right").ok) rfl), bRO⟩,
      fBN := _, dBN := _, eBN := ⟨FBN, He.glo_ok X G (c.fact 40 (f := (He.Fa.glo "_law_bad_names").ok) rfl), bBN⟩,
      fBO := _, dBO := _, eBO := ⟨FBO, He.glo_ok X G (c.fact 42 (f := (He.Fa.glo "_law_bad_order").ok) rfl), bBO⟩,
      fRef := _, dRef := _, eRef := ⟨FRef, He.glo_ok X G (c.fact 44 (f := (He.Fa.glo "_law_refusal").ok) rfl), bRef⟩,
      fInit := _, dInit := _, eInit := FInit, bInit := bInit,
      fPoints := _, dPoints := _, ePoints := FPoints, bPoints := bPoints,
      fTies := _, dTies := _, eTies := FTies, bTies := bTies,
      fMany := _, dMany := _, eMany := FMany, bMany := bMany,
      cWeb := _, kWeb := He.cls_ok (c.fact 49 (f := (He.Fa.cls "Web").ok) rfl), mWeb := He.mkr_ok (c.fact 50 (f := (He.Fa.mkr "Web").ok) rfl), gWeb := He.glo_ok X G (c.fact 48 (f := (He.Fa.glo "Web").ok) rfl), mPoints := He.meth_ok (c.fact 51 (f := (He.Fa.meth "Web" "points").ok) rfl), mTies := He.meth_ok (c.fact 52 (f := (He.Fa.meth "Web" "ties").ok) rfl), mMany := He.meth_ok (c.fact 53 (f := (He.Fa.meth "Web" "many").ok) rfl), aP := He.noat_ok (c.fact 55 (f := (He.Fa.noat "Web" "own_points").ok) rfl), aT := He.noat_ok (c.fact 56 (f := (He.Fa.noat "Web" "own_ties").ok) rfl),
      z_isinstance := He.free_ok X G (c.fact 57 (f := (He.Fa.free "isinstance").ok) rfl),
      z_list := He.free_ok X G (c.fact 58 (f := (He.Fa.free "list").ok) rfl),
      z_tuple := He.free_ok X G (c.fact 59 (f := (He.Fa.free "tuple").ok) rfl),
      z_int := He.free_ok X G (c.fact 60 (f := (He.Fa.free "int").ok) rfl),
      z_bool := He.free_ok X G (c.fact 61 (f := (He.Fa.free "bool").ok) rfl),
      z_str := He.free_ok X G (c.fact 62 (f := (He.Fa.free "str").ok) rfl),
      z_len := He.free_ok X G (c.fact 63 (f := (He.Fa.free "len").ok) rfl),
      z_all := He.free_ok X G (c.fact 64 (f := (He.Fa.free "all").ok) rfl),
      z_set := He.free_ok X G (c.fact 65 (f := (He.Fa.free "set").ok) rfl),
      z_dict := He.free_ok X G (c.fact 66 (f := (He.Fa.free "dict").ok) rfl),
      z_divmod := He.free_ok X G (c.fact 67 (f := (He.Fa.free "divmod").ok) rfl),
      z_max := He.free_ok X G (c.fact 68 (f := (He.Fa.free "max").ok) rfl),
      z_min := He.free_ok X G (c.fact 69 (f := (He.Fa.free "min").ok) rfl),
      z_abs := He.free_ok X G (c.fact 70 (f := (He.Fa.free "abs").ok) rfl),
      z_range := He.free_ok X G (c.fact 71 (f := (He.Fa.free "range").ok) rfl),
      z_zip := He.free_ok X G (c.fact 72 (f := (He.Fa.free "zip").ok) rfl),
      z_repr := He.free_ok X G (c.fact 73 (f := (He.Fa.free "repr").ok) rfl),
      z_ValueError := He.free_ok X G (c.fact 74 (f := (He.Fa.free "ValueError").ok) rfl),
      tSmall := tS, gSmall := hS,
      tMOST_LETTERS := tMOST_LETTERS, gMOST_LETTERS := hMOST_LETTERS,
      tMOST_POINTS := tMOST_POINTS, gMOST_POINTS := hMOST_POINTS,
      tMOST_TIES := tMOST_TIES, gMOST_TIES := hMOST_TIES,
      cPoint := _, gPoint := He.glo_ok X G (c.fact 79 (f := (He.Fa.glo "PointError").ok) rfl),
      cNoWeb := _, gNoWeb := He.glo_ok X G (c.fact 80 (f := (He.Fa.glo "NoWeb").ok) rfl),
      cNoText := _, gNoText := He.glo_ok X G (c.fact 81 (f := (He.Fa.glo "NoText").ok) rfl),
      cNoNumbers := _, gNoNumbers := He.glo_ok X G (c.fact 82 (f := (He.Fa.glo "NoNumbers").ok) rfl),
      cNoLot := _, gNoLot := He.glo_ok X G (c.fact 83 (f := (He.Fa.glo "NoLot").ok) rfl),
      cNoPoint := _, gNoPoint := He.glo_ok X G (c.fact 84 (f := (He.Fa.glo "NoPoint").ok) rfl),
      cNoPointing := _, gNoPointing := He.glo_ok X G (c.fact 85 (f := (He.Fa.glo "NoPointing").ok) rfl),
      cParted := _, gParted := He.glo_ok X G (c.fact 86 (f := (He.Fa.glo "Parted").ok) rfl),
      cBarred := _, gBarred := He.glo_ok X G (c.fact 87 (f := (He.Fa.glo "Barred").ok) rfl),
      cTooMuch := _, gTooMuch := He.glo_ok X G (c.fact 88 (f := (He.Fa.glo "TooMuch").ok) rfl),
      xNoWeb := ⟨He.glo_ok X G (c.fact 80 (f := (He.Fa.glo "NoWeb").ok) rfl), x2NoWeb, x1NoWeb, x3NoWeb, x4NoWeb⟩, iNoWeb := excB_ok (c.fact 91 (f := excB "NoWeb") rfl), mNoWeb := He.exm_ok (c.fact 90 (f := (He.Fa.exm "NoWeb" "PointError" true).ok) rfl),
      kNoWeb_NoWeb := of_decide_eq_true (c.fact 92 (f := kitB2 "NoWeb" "NoWeb" true) rfl),
      kNoWeb_NoText := of_decide_eq_true (c.fact 93 (f := kitB2 "NoWeb" "NoText" false) rfl),
      kNoWeb_NoNumbers := of_decide_eq_true (c.fact 94 (f := kitB2 "NoWeb" "NoNumbers" false) rfl),
      kNoWeb_NoLot := of_decide_eq_true (c.fact 95 (f := kitB2 "NoWeb" "NoLot" false) rfl),
      kNoWeb_NoPoint := of_decide_eq_true (c.fact 96 (f := kitB2 "NoWeb" "NoPoint" false) rfl),
      kNoWeb_NoPointing := of_decide_eq_true (c.fact 97 (f := kitB2 "NoWeb" "NoPointing" false) rfl),
      kNoWeb_Parted := of_decide_eq_true (c.fact 98 (f := kitB2 "NoWeb" "Parted" false) rfl),
      kNoWeb_Barred := of_decide_eq_true (c.fact 99 (f := kitB2 "NoWeb" "Barred" false) rfl),
      kNoWeb_TooMuch := of_decide_eq_true (c.fact 100 (f := kitB2 "NoWeb" "TooMuch" false) rfl),
      kNoWeb_ValueError := of_decide_eq_true (c.fact 101 (f := kitVE "NoWeb") rfl),
      xNoNumbers := ⟨He.glo_ok X G (c.fact 82 (f := (He.Fa.glo "NoNumbers").ok) rfl), x2NoNumbers, x1NoNumbers, x3NoNumbers, x4NoNumbers⟩, iNoNumbers := excB_ok (c.fact 104 (f := excB "NoNumbers") rfl), mNoNumbers := He.exm_ok (c.fact 103 (f := (He.Fa.exm "NoNumbers" "PointError" true).ok) rfl),
      kNoNumbers_NoWeb := of_decide_eq_true (c.fact 105 (f := kitB2 "NoNumbers" "NoWeb" false) rfl),
      kNoNumbers_NoText := of_decide_eq_true (c.fact 106 (f := kitB2 "NoNumbers" "NoText" false) rfl),
      kNoNumbers_NoNumbers := of_decide_eq_true (c.fact 107 (f := kitB2 "NoNumbers" "NoNumbers" true) rfl),
      kNoNumbers_NoLot := of_decide_eq_true (c.fact 108 (f := kitB2 "NoNumbers" "NoLot" false) rfl),
      kNoNumbers_NoPoint := of_decide_eq_true (c.fact 109 (f := kitB2 "NoNumbers" "NoPoint" false) rfl),
      kNoNumbers_NoPointing := of_decide_eq_true (c.fact 110 (f := kitB2 "NoNumbers" "NoPointing" false) rfl),
      kNoNumbers_Parted := of_decide_eq_true (c.fact 111 (f := kitB2 "NoNumbers" "Parted" false) rfl),
      kNoNumbers_Barred := of_decide_eq_true (c.fact 112 (f := kitB2 "NoNumbers" "Barred" false) rfl),
      kNoNumbers_TooMuch := of_decide_eq_true (c.fact 113 (f := kitB2 "NoNumbers" "TooMuch" false) rfl),
      kNoNumbers_ValueError := of_decide_eq_true (c.fact 114 (f := kitVE "NoNumbers") rfl)
    }
  exact ⟨_, fun s v => .of_eq rfl, fun base _ _ => ok_law FLaw T⟩
end Pw

namespace Pw
open PySem PySem.Spec PyProof.Rows L2
theorem walk {l : PySem.W.OpenLaw} {q : Program} {loose : List Str} {XP : (Str → Option Value) → Heap → Prop} {YP : World → Heap → Prop} {d : DefRec} {K : Params → PySem.W.Frag} (hn : l.most = some 63) (hdf : d.params.defaults = [])
    (hY : ∀ (w : World) (h : Heap), YP w h → (K w.params).In h)
    (F : ∀ (w : World) (mg : Str → Option Value) (fa : Addr) (h : Heap), (K w.params).In h → h.Ns mainGlobals mg → mg d.name = some (.ref fa) →
      ∃ fd : FuncData, (∀ (s : Shared) (u : Value), BindsTo s fd ⟨[u], []⟩ [("_law_script", u)]) ∧ ∀ base : Heap, (K w.params).In base → base.Ns mainGlobals mg → FnG l.prog w (K w.params) mg base CX0 7 fa fd ["_law_script"] (spLaw (K w.params))) :
    PySem.W.WalkO q loose XP YP l.row.toRowW d [] (fun f vs => PySem.call f vs) :=
  walk_ofG (n := 63) (k := 7) (x := "_law_script") (CX := fun _ => CX0) (sp := fun w => spLaw (K w.params)) hn (by decide) hdf ⟨rfl, by decide, by decide⟩ hY F (fun _ _ a ns hl _ hS => ⟨a, ns, rfl, hS, hl, fun _ => rfl⟩) fun _ _ _ _ _ z => z
end Pw
open PySem PySem.W PyProof.Rows in
set_option maxRecDepth 100000 in
set_option maxHeartbeats 0 in
theorem PySem.Challenge.cw_pointways_k15_whole_renamed_reordered_holds : PySem.Challenge.rw_pointways_k15_whole_renamed_reordered.Holds := by
  w_on; o_law; k_head; (case hw => w_witness2)
  k_fill
  refine Pw.walk (l := PySem.Challenge.rw_pointways_k15_whole_renamed_reordered) rfl rfl (fun w h Y => PySem.W.kIn_of Y) ?F
  case F =>
    intro w mg fa h KX G hmg
    exact Pw.law_of KX G hmg (by unfold Pw.SaysX; kernel_rfl)
