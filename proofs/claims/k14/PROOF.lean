import PyProof.Rows.All
import Wide.All
import OpenK.AllK
import Wide.FinOn
import HandS.ForMost
import HandS.Strs
import HandS.SetKeys
import HandS.Deep
import HandS.HeadHook1
import HandS.Zip
import HandS.Exc
import HandS.ExcInit
import HandS.WordsExc
import KE.KDictKeyed
import KE.KeyNested
import HandS.Defaults
import KE.SortData
import HandS.More
import HandS.IsInst
import KE.DataEq
import HandS.TupAny
import HandS.Star
import KE.KDictDisplayH
import PyProof.TupleOfSeq
import KE.KDictCopyH
import PyProof.DictTruth
import HandS.MakeKw
import HandS.Property
import HandS.Iter
import HandS.DictComp
import HandS.Conv
import HandS.Style
import HandS.OwnEq
import HandS.NamedTupSort
import PyProof.InstNe
import KE.GoesEnum
import HandS.Head0
import HandS.Head1
import HandS.Head2
import HandS.HeadHook2
import PySem.Challenge.RW_amidupgrades_k14_gates_known
set_option Elab.async false
set_option linter.all false
set_option maxRecDepth 100000
set_option maxHeartbeats 4000000
namespace EL
open PySem PySem.Spec PyProof.Rows L2
/-! ### set(xs) of numbers and texts -/
def hasK (k : Key) (l : List Key) : Bool := l.any fun j => decide (j = k)
theorem hasK_iff {k : Key} {l : List Key} : hasK k l = true ↔ k ∈ l := by
  unfold hasK
  rw [List.any_eq_true]
  exact ⟨fun ⟨x, h, e⟩ => (of_decide_eq_true e) ▸ h, fun h => ⟨k, h, decide_eq_true rfl⟩⟩
/-- how many different ones the first i are -/
def dn (ks : List Key) : Nat → Nat
  | 0 => 0
  | i + 1 => match ks[i]? with
    | some k => if hasK k (ks.take i) = true then dn ks i else dn ks i + 1
    | none => dn ks i
theorem dn_le (ks : List Key) : ∀ i, dn ks i ≤ i
  | 0 => Nat.le_refl _
  | i + 1 => by
    have h := dn_le ks i
    unfold dn
    split
    · split <;> omega
    · omega
theorem dn_nodup {ks : List Key} (h : ks.Nodup) : ∀ i, i ≤ ks.length → dn ks i = i
  | 0, _ => rfl
  | i + 1, hi => by
    have e := dn_nodup h i (Nat.le_of_succ_le hi)
    have hk : ks[i]? = some ks[i] := List.getElem?_eq_getElem hi
    have hn : ¬ ks[i] ∈ ks.take i := by
      intro z'
      obtain ⟨j, hj, ej⟩ := List.mem_iff_getElem.mp z'
      rw [List.length_take] at hj
      rw [List.getElem_take] at ej
      have := (List.getElem_inj h).mp ej
      omega
    unfold dn
    rw [hk]
    simp only [e]
    rw [if_neg (fun z => hn (hasK_iff.mp z))]
theorem dn_lt {ks : List Key} (h : ¬ ks.Nodup) : dn ks ks.length < ks.length := by
  have key : ∀ i, i ≤ ks.length → (dn ks i = i → (ks.take i).Nodup) := by
    intro i
    induction i with
    | zero => intro _ _; simp
    | succ i ih =>
      intro hi e
      have hk : ks[i]? = some ks[i] := List.getElem?_eq_getElem hi
      have l := dn_le ks i
      unfold dn at e
      rw [hk] at e
      simp only at e
      by_cases c : hasK ks[i] (ks.take i) = true
      · rw [if_pos c] at e; omega
      · rw [if_neg c] at e
        have e' : dn ks i = i := by omega
        have q := ih (Nat.le_of_succ_le hi) e'
        rw [List.take_succ, hk]
        rw [List.nodup_append]
        refine ⟨q, by simp, ?_⟩
        intro a ha b hb z
        simp at hb
        subst z
        subst hb
        exact c (hasK_iff.mpr ha)
  have l := dn_le ks ks.length
  rcases Nat.lt_or_ge (dn ks ks.length) ks.length with z | z
  · exact z
  · have q := key ks.length (Nat.le_refl _) (by omega)
    rw [List.take_length] at q
    exact absurd q h
section
variable {prog : Program} {w : World} {A : Around} {R : Result → Shared → Prop} {I : Addr} {fp wr : List Addr} {G : Array GenState → Array GenState → Prop} {n : Nat} {P : Nat → Value → Prop} {St : Nat → Shared → Prop}
/-- the keys taken so far -/
def tk (ks : List Key) (i : Nat) : Key → Bool := fun k => hasK k (ks.take i)
theorem setLoop (W : WalksS prog w A.in1 I fp wr G n P St) (S : Addr) (hS : S ∉ fp) (ks : List Key) (hn : ks.length = n) (hb : n + 1 < scanBound) (hv : ∀ i v, P i v → ∃ k, ks[i]? = some k ∧ RelV (kV k) v) :
    ∀ (m i : Nat) (s : Shared), n - i = m → i ≤ n → St i s → s.heap.SetOf (mixKind prog w) S (tk ks i) (dn ks i) →
      (∀ s', Moved (S :: wr) G s s' → s'.heap.SetOf (mixKind prog w) S (tk ks n) (dn ks n) → R (.ok (.ret .none)) s') → codeAny (model prog w) A (.builtin "set.update.loop" ⟨[.ref S, .ref I], []⟩) R s := by
  have nw : S ∉ wr := fun h => hS (W.sub _ h)
  have up : ∀ b ∈ wr, b ∈ S :: wr := fun b z => List.mem_cons_of_mem _ z
  have keep : ∀ {h h' : Heap} {T : Key → Bool} {c : Nat}, h.SetOf (mixKind prog w) S T c → (∀ o, h.get? S = some o → h'.get? S = some o) → h'.SetOf (mixKind prog w) S T c := fun ⟨o, es, ep, t, ho, r⟩ k => ⟨o, es, ep, t, k o ho, r⟩
  intro m
  induction m with
  | zero =>
    intro i s em hi st hs fin
    obtain rfl : i = n := by omega
    refine codeAny_builtin PyProof.Rows.F.entry_set_update_loop (by
      rw [Around.under_plainId F.plain_set_update_loop _]
      show wpAny _ A.in1 (pyNext (.ref I) >>= _) _ _ s
      exact wpAny_bind (W.done s _ _ st fun s' hm => wpAny_pure (fin s' (hm.mono up) (keep hs fun o e => hm.heap S o nw e))))
  | succ m ih =>
    intro i s em hi st hs fin
    have lt : i < n := by omega
    refine codeAny_builtin PyProof.Rows.F.entry_set_update_loop ?_
    rw [Around.under_plainId F.plain_set_update_loop _]; show wpAny _ A.in1 (pyNext (.ref I) >>= _) _ _ s
    refine wpAny_bind (W.item i s _ _ lt st fun v s' hP st' hm => ?_)
    obtain ⟨k, ek, rk⟩ := hv i v hP
    have hs' := keep (h' := s'.heap) hs fun o e => hm.heap S o nw e
    have is : keyIs k v = true := by
      cases k with
      | inl j => obtain ⟨t, rfl⟩ := rk; exact keyIs_int j t
      | inr x => obtain ⟨t, rfl⟩ := rk; exact keyIs_str x t
    show wpAny _ A.in1 (holding [v] (setAdd S v) >>= _) _ _ s'
    refine wpAny_bind (wpAny_holding ?_); unfold setAdd; refine wpAny_holding ?_
    refine wpAny_bind ((mixKind prog w).pyHash (k := k) is ?_)
    refine wpAny_setAddHashed_of (knd := mixKind prog w) (s := { s' with toks := s'.toks + 1 }) is (key_scan rk) hs' (by have := dn_le ks i; omega) fun h' sb hs2 => ?_
    have nx : h'.SetOf (mixKind prog w) S (tk ks (i + 1)) (dn ks (i + 1)) := by
      have e1 : (fun j => tk ks i j || decide (j = k)) = tk ks (i + 1) := by
        funext j
        unfold tk hasK
        rw [List.take_succ, ek]
        simp only [Option.toList_some, List.any_append, List.any_cons, List.any_nil, Bool.or_false]
        congr 1
        by_cases c : j = k
        · subst c; simp
        · have c' : ¬ k = j := fun z => c z.symm
          simp [c, c']
      have e2 : (if tk ks i k = true then dn ks i else dn ks i + 1) = dn ks (i + 1) := by
        conv => rhs; unfold dn
        rw [ek]
        rfl
      rw [← e1, ← e2]
      exact hs2
    refine wpAny_pure ⟨plainId_quiet F.plain_set_update_loop _, ih (i + 1) _ (by omega) lt (W.frame _ s' _ _ st' (Nat.le_succ _) fun b hb' o e => (sb.2 b (fun z => hS (z ▸ hb'))).trans e) nx fun s'' hm'' hs'' => ?_⟩
    exact fin s'' (Moved.trans W.gtrans ((hm.mono up).then_heap (Nat.le_succ _) fun b o hb' e => (sb.2 b (fun z => hb' (z ▸ List.mem_cons_self))).trans e) hm'') hs''
end
section
variable {prog : Program} {w : World} {A : Around} {E : Value → Shared → Prop} {s : Shared}
abbrev sO (led : Bool) : Obj := { cls := .type "set", dict := none, data := .set #[] 0 (.fresh 0 0 led) }
set_option maxHeartbeats 3200000 in
/-- set(xs), xs a list of numbers and texts -/
theorem call_setK_list {l : Addr} {its : Array Value} {ks : List Key} {Q : Value → Shared → Prop} (hh : A.handled = none) (hl : s.heap.IsList l its) (hk : Vals (ks.map kV) its.toList) (hb : ks.length + 1 < scanBound)
    (h : ∀ (h' : Heap) (tk' : Nat), h'.SetOf (mixKind prog w) s.heap.objs.size (tk ks ks.length) (dn ks ks.length) → (∀ b o, b < s.heap.objs.size → s.heap.get? b = some o → h'.get? b = some o) → Q (.ref s.heap.objs.size) { s with heap := h', toks := tk' }) :
    wpAny (model prog w) A (call (.type "set") [.ref l]) Q E s := by
  obtain ⟨c, tl, hmro⟩ := PySem.F.called_set.mro; have hmade := PySem.F.called_set.made; have hsub := PySem.F.called_set.sub
  refine wpAny_call (codeAny_of_tree ?_); show wpAny _ _ (callAny (.type "set") _) _ _ _
  refine wpAny_pure ⟨Code.quiet_builtin _ (by decide +kernel), codeAny_builtin PySem.F.entry_type_call ?_⟩; rw [Around.under_plain (weight_type_call_type "set" [.ref l] []) rfl]
  have h1 := PySem.F.called_set.notType; have h2 := PySem.F.called_set.canCreate; have hct := PySem.F.typeCall_set_1 (.ref l)
  repeat (any_goals (first | assumption | wp_step))
  refine codeAny_mono (code_set_new_1 (.ref l) (E := E) (Q₁ := fun obj s₁ => ∃ led : Bool, obj = .ref s.heap.objs.size ∧ s₁ = { s with heap := s.heap.push (sO led) }) fun led => ⟨led, rfl, rfl⟩) fun r s₁ hr => ?_
  match r, hr with
  | .error e, hr => exact hr
  | .ok .next, hr => exact hr.elim
  | .ok .brk, hr => exact hr.elim
  | .ok .cont, hr => exact hr.elim
  | .ok (.ret obj), hr =>
    obtain ⟨led, rfl, rfl⟩ := hr
    have gS : (s.heap.push (sO led)).get? s.heap.objs.size = some (sO led) := Heap.get?_push_size _ rfl
    have hT : Shared.TypeIs { s with heap := s.heap.push (sO led) } (.ref s.heap.objs.size) "set" := ⟨_, gS, rfl⟩
    have hli := PySem.F.called_set.init.lookup; have hbi := PySem.F.called_set.init.bind (.ref s.heap.objs.size)
    repeat (any_goals (first | assumption | wp_step))
    refine codeAny_mono (codeAny_call_builtin (R := wants (fun r s₂ => r = .none ∧ ∃ h' tk', s₂ = { s with heap := h', toks := tk' } ∧ h'.SetOf (mixKind prog w) s.heap.objs.size (tk ks ks.length) (dn ks ks.length) ∧ ∀ b o, b < s.heap.objs.size → s.heap.get? b = some o → h'.get? b = some o) E) PySem.F.called_set.init.plain PySem.F.entry_set_init (check_set_init_1 hT ?_)) fun r₂ s₂ hr₂ => ?_
    · obtain ⟨⟨ocls, odict, odata, oslots⟩, hol, hcl, nl, hdl⟩ := hl
      simp only at hcl hdl; subst hcl; subst hdl
      have hol' : (s.heap.push (sO led)).get? l = some { cls := .type "list", dict := odict, data := .seq its nl, slots := oslots } := Heap.get?_push_of_some _ hol
      have hsls := PySem.F.sub_list_set; have hslf := PySem.F.sub_list_frozenset; have hne : (Value.type "list" == Value.type "dict") = false := by decide
      have hl1 : (s.heap.push (sO led)).IsList l its := ⟨_, hol', rfl, nl, rfl⟩
      unfold sO at *
      unfold Builtin.«set.__init__» noKeywords Builtin.Frozenset.updateFrom; generalize hPI : pyIter = PI; wp_walk; subst hPI
      refine wpAny_pyIter_list hl1 (wpAny_bind (wpAny_runValue ?_))
      have ls : l < s.heap.objs.size := Heap.lt_size hol
      have hsz : ks.length = its.size := by have z := hk.length; rw [List.length_map, Array.length_toList] at z; exact z
      refine setLoop ((Walks.list (A := A.in1.in1.in1) (by simp [hh]) _ l (by rw [Heap.size_push]; exact Nat.ne_of_lt (Nat.lt_succ_of_lt ls)) its).toS) s.heap.objs.size (by rw [Heap.size_push]; simp only [List.mem_cons, List.not_mem_nil, or_false, not_or]; exact ⟨Nat.ne_of_lt (Nat.lt_succ_self _), Nat.ne_of_gt ls⟩) ks hsz (by rw [← hsz]; exact hb) (fun i v hv => ?_) (its.size - 0) 0 _ (by omega) (Nat.zero_le _) ⟨⟨_, Heap.get?_push_size _ rfl, rfl, rfl⟩, hl1.push _⟩ ?_ ?_
      · have hv' : its.toList[i]? = some v := by rw [Array.getElem?_toList]; exact hv
        have hi : i < ks.length := by rw [hsz, ← Array.length_toList]; exact (List.getElem?_eq_some_iff.mp hv').1
        obtain ⟨u, hu, ru⟩ := hk.get (i := i) (x := kV ks[i]) (by rw [List.getElem?_map, List.getElem?_eq_getElem hi]; rfl)
        rw [hv'] at hu; cases hu
        exact ⟨ks[i], List.getElem?_eq_getElem hi, ru⟩
      · have e0 : tk ks 0 = fun _ => false := by funext k; simp [tk, hasK]
        show Heap.SetOf (mixKind prog w) _ _ (tk ks 0) 0
        rw [e0]
        letI : BEq Key := instBEqOfDecidableEq
        exact (setObjOf_fresh (knd := mixKind prog w) led).setOf (Heap.get?_push_of_some _ gS) (by unfold scanBound; omega)
      · rintro ⟨h', g', d', tk', os'⟩ hm hS'
        obtain rfl : g' = s.gens := hm.gens
        obtain rfl : d' = s.drawn := hm.drawn
        obtain rfl : os' = s.os := hm.os
        refine wpAny_pure (wpAny_pure ⟨rfl, h', tk', rfl, by rw [hsz]; exact hS', fun b o lt e => hm.heap b o ?_ (Heap.get?_push_of_some _ (Heap.get?_push_of_some _ e))⟩)
        simp only [List.mem_cons, List.not_mem_nil, or_false, not_or, Heap.size_push]; exact ⟨Nat.ne_of_lt lt, Nat.ne_of_lt (Nat.lt_succ_of_lt lt)⟩
    · match r₂, hr₂ with
      | .error e, hr₂ => exact hr₂
      | .ok .next, hr₂ => exact hr₂.elim
      | .ok .brk, hr₂ => exact hr₂.elim
      | .ok .cont, hr₂ => exact hr₂.elim
      | .ok (.ret r), hr₂ =>
        obtain ⟨rfl, h', tk', rfl, hS', hk'⟩ := hr₂
        repeat (any_goals (first | assumption | wp_step))
        exact h _ _ hS' hk'
set_option maxHeartbeats 3200000 in
/-- set(xs), xs a tuple of numbers and texts -/
theorem call_setK_tuple {l : Addr} {its : Array Value} {ks : List Key} {Q : Value → Shared → Prop} (hh : A.handled = none) (hl : s.heap.IsTuple l its) (hk : Vals (ks.map kV) its.toList) (hb : ks.length + 1 < scanBound)
    (h : ∀ (h' : Heap) (tk' : Nat), h'.SetOf (mixKind prog w) s.heap.objs.size (tk ks ks.length) (dn ks ks.length) → (∀ b o, b < s.heap.objs.size → s.heap.get? b = some o → h'.get? b = some o) → Q (.ref s.heap.objs.size) { s with heap := h', toks := tk' }) :
    wpAny (model prog w) A (call (.type "set") [.ref l]) Q E s := by
  obtain ⟨c, tl, hmro⟩ := PySem.F.called_set.mro; have hmade := PySem.F.called_set.made; have hsub := PySem.F.called_set.sub
  refine wpAny_call (codeAny_of_tree ?_); show wpAny _ _ (callAny (.type "set") _) _ _ _
  refine wpAny_pure ⟨Code.quiet_builtin _ (by decide +kernel), codeAny_builtin PySem.F.entry_type_call ?_⟩; rw [Around.under_plain (weight_type_call_type "set" [.ref l] []) rfl]
  have h1 := PySem.F.called_set.notType; have h2 := PySem.F.called_set.canCreate; have hct := PySem.F.typeCall_set_1 (.ref l)
  repeat (any_goals (first | assumption | wp_step))
  refine codeAny_mono (code_set_new_1 (.ref l) (E := E) (Q₁ := fun obj s₁ => ∃ led : Bool, obj = .ref s.heap.objs.size ∧ s₁ = { s with heap := s.heap.push (sO led) }) fun led => ⟨led, rfl, rfl⟩) fun r s₁ hr => ?_
  match r, hr with
  | .error e, hr => exact hr
  | .ok .next, hr => exact hr.elim
  | .ok .brk, hr => exact hr.elim
  | .ok .cont, hr => exact hr.elim
  | .ok (.ret obj), hr =>
    obtain ⟨led, rfl, rfl⟩ := hr
    have gS : (s.heap.push (sO led)).get? s.heap.objs.size = some (sO led) := Heap.get?_push_size _ rfl
    have hT : Shared.TypeIs { s with heap := s.heap.push (sO led) } (.ref s.heap.objs.size) "set" := ⟨_, gS, rfl⟩
    have hli := PySem.F.called_set.init.lookup; have hbi := PySem.F.called_set.init.bind (.ref s.heap.objs.size)
    repeat (any_goals (first | assumption | wp_step))
    refine codeAny_mono (codeAny_call_builtin (R := wants (fun r s₂ => r = .none ∧ ∃ h' tk', s₂ = { s with heap := h', toks := tk' } ∧ h'.SetOf (mixKind prog w) s.heap.objs.size (tk ks ks.length) (dn ks ks.length) ∧ ∀ b o, b < s.heap.objs.size → s.heap.get? b = some o → h'.get? b = some o) E) PySem.F.called_set.init.plain PySem.F.entry_set_init (check_set_init_1 hT ?_)) fun r₂ s₂ hr₂ => ?_
    · obtain ⟨⟨ocls, odict, odata, oslots⟩, hol, hcl, nl, hdl⟩ := hl
      simp only at hcl hdl; subst hcl; subst hdl
      have hol' : (s.heap.push (sO led)).get? l = some { cls := .type "tuple", dict := odict, data := .seq its nl, slots := oslots } := Heap.get?_push_of_some _ hol
      have hsls := PySem.F.sub_tuple_set; have hslf := PySem.F.sub_tuple_frozenset; have hne : (Value.type "tuple" == Value.type "dict") = false := by decide
      have hl1 : (s.heap.push (sO led)).IsTuple l its := ⟨_, hol', rfl, nl, rfl⟩
      unfold sO at *
      unfold Builtin.«set.__init__» noKeywords Builtin.Frozenset.updateFrom; generalize hPI : pyIter = PI; wp_walk; subst hPI
      refine wpAny_pyIter_tuple hl1 (wpAny_bind (wpAny_runValue ?_))
      have ls : l < s.heap.objs.size := Heap.lt_size hol
      have hsz : ks.length = its.size := by have z := hk.length; rw [List.length_map, Array.length_toList] at z; exact z
      refine setLoop ((Walks.tuple (A := A.in1.in1.in1) (by simp [hh]) _ l (by rw [Heap.size_push]; exact Nat.ne_of_lt (Nat.lt_succ_of_lt ls)) its).toS) s.heap.objs.size (by rw [Heap.size_push]; simp only [List.mem_cons, List.not_mem_nil, or_false, not_or]; exact ⟨Nat.ne_of_lt (Nat.lt_succ_self _), Nat.ne_of_gt ls⟩) ks hsz (by rw [← hsz]; exact hb) (fun i v hv => ?_) (its.size - 0) 0 _ (by omega) (Nat.zero_le _) ⟨⟨_, Heap.get?_push_size _ rfl, rfl, rfl⟩, hl1.push _⟩ ?_ ?_
      · have hv' : its.toList[i]? = some v := by rw [Array.getElem?_toList]; exact hv
        have hi : i < ks.length := by rw [hsz, ← Array.length_toList]; exact (List.getElem?_eq_some_iff.mp hv').1
        obtain ⟨u, hu, ru⟩ := hk.get (i := i) (x := kV ks[i]) (by rw [List.getElem?_map, List.getElem?_eq_getElem hi]; rfl)
        rw [hv'] at hu; cases hu
        exact ⟨ks[i], List.getElem?_eq_getElem hi, ru⟩
      · have e0 : tk ks 0 = fun _ => false := by funext k; simp [tk, hasK]
        show Heap.SetOf (mixKind prog w) _ _ (tk ks 0) 0
        rw [e0]
        letI : BEq Key := instBEqOfDecidableEq
        exact (setObjOf_fresh (knd := mixKind prog w) led).setOf (Heap.get?_push_of_some _ gS) (by unfold scanBound; omega)
      · rintro ⟨h', g', d', tk', os'⟩ hm hS'
        obtain rfl : g' = s.gens := hm.gens
        obtain rfl : d' = s.drawn := hm.drawn
        obtain rfl : os' = s.os := hm.os
        refine wpAny_pure (wpAny_pure ⟨rfl, h', tk', rfl, by rw [hsz]; exact hS', fun b o lt e => hm.heap b o ?_ (Heap.get?_push_of_some _ (Heap.get?_push_of_some _ e))⟩)
        simp only [List.mem_cons, List.not_mem_nil, or_false, not_or, Heap.size_push]; exact ⟨Nat.ne_of_lt lt, Nat.ne_of_lt (Nat.lt_succ_of_lt lt)⟩
    · match r₂, hr₂ with
      | .error e, hr₂ => exact hr₂
      | .ok .next, hr₂ => exact hr₂.elim
      | .ok .brk, hr₂ => exact hr₂.elim
      | .ok .cont, hr₂ => exact hr₂.elim
      | .ok (.ret r), hr₂ =>
        obtain ⟨rfl, h', tk', rfl, hS', hk'⟩ := hr₂
        repeat (any_goals (first | assumption | wp_step))
        exact h _ _ hS' hk'
end
end EL

set_option Elab.async false
set_option linter.all false
set_option maxRecDepth 100000
set_option maxHeartbeats 4000000
/-! FL: runs as functions over plain data, above the hand layer. -/
namespace FL
open PySem PySem.Spec PyProof.Rows L2
/-- plain data -/
inductive D where
  | non | bl (b : Bool) | int (i : Int) | str (x : Str)
  | lst (xs : List D) | tup (xs : List D)
  | dct (kvs : List (D × D))
  | obj (C : Str) (fs : List (Str × D))
  | ty (t : String) | cn (C : Str)
/-- what a walk may lock -/
def lk : HO → Bool
  | .lst _ => true
  | .dK _ => true
  | .dT _ => true
  | .ext _ => true
  | _ => false
/-- o' is o, or o locked -/
def Lok (o o' : HO) : Prop := o' = o ∨ (lk o = true ∧ ∃ b, o' = .frz b o)
def Sm (H H' : Hp) : Prop := ∀ a o, H a = some o → ∃ o', H' a = some o' ∧ Lok o o'
theorem Lok.refl (o : HO) : Lok o o := .inl rfl
theorem Sm.refl (H : Hp) : Sm H H := fun _ o h => ⟨o, h, .inl rfl⟩
theorem Lok.trans {a b c : HO} (x : Lok a b) (y : Lok b c) : Lok a c := by
  rcases x with rfl | ⟨l, q, rfl⟩
  · exact y
  · rcases y with rfl | ⟨z, _⟩
    · exact .inr ⟨l, q, rfl⟩
    · cases z
theorem Sm.trans {H H1 H2 : Hp} (a : Sm H H1) (b : Sm H1 H2) : Sm H H2 := fun c o h => by
  obtain ⟨o1, h1, e1⟩ := a c o h
  obtain ⟨o2, h2, e2⟩ := b c o1 h1
  exact ⟨o2, h2, e1.trans e2⟩
theorem Same.sm {H H' : Hp} (e : Same H H') : Sm H H' := fun a o h => ⟨o, e a o h, .inl rfl⟩
theorem ex_rd {H H' : Hp} {a : Addr} {u : HO} (e : Sm H H') (h : Rd H a u) : Rd H' a u := by
  rcases h with h | ⟨o, h⟩
  · obtain ⟨o', h', rfl | ⟨_, b, rfl⟩⟩ := e a _ h
    · exact .inl h'
    · exact .inr ⟨b, h'⟩
  · obtain ⟨o', h', rfl | ⟨z, _⟩⟩ := e a _ h
    · exact .inr ⟨o, h'⟩
    · cases z
theorem ex_eq {H H' : Hp} {a : Addr} {u : HO} (e : Sm H H') (h : H a = some u) (l : lk u = false) : H' a = some u := by
  obtain ⟨o', h', rfl | ⟨z, _⟩⟩ := e a _ h
  · exact h'
  · rw [l] at z; cases z
theorem ex_l {K : PySem.W.Frag} {H H' : Hp} {a : Addr} {xs : List V} (e : Sm H H') (h : SqL K H a xs) : SqL K H' a xs := by
  rcases h with h | h
  · exact .inl (ex_rd e h)
  · exact Or.inr h
theorem ex_t {K : PySem.W.Frag} {H H' : Hp} {a : Addr} {xs : List V} (e : Sm H H') (h : SqT K H a xs) : SqT K H' a xs := by
  rcases h with h | h
  · exact .inl (ex_rd e h)
  · exact Or.inr h
theorem ex_rl {H H' : Hp} {a : Addr} {xs : List V} (e : Sm H H') (h : Rd H a (.lst xs)) : Rd H' a (.lst xs) := ex_rd e h
theorem ex_dK {H H' : Hp} {a : Addr} {xs : List (Key × V)} (e : Sm H H') (h : Rd H a (.dK xs)) : Rd H' a (.dK xs) := ex_rd e h
theorem ex_dT {H H' : Hp} {a : Addr} {xs : List (List Key × V)} (e : Sm H H') (h : Rd H a (.dT xs)) : Rd H' a (.dT xs) := ex_rd e h
theorem ex_ins {H H' : Hp} {a C dx : Addr} {fs : List (Str × V)} (e : Sm H H') (h : H a = some (.ins C dx fs)) : H' a = some (.ins C dx fs) := ex_eq e h rfl
theorem ex_ext {H H' : Hp} {a : Addr} {φ : Heap → Prop} (e : Sm H H') (h : Rd H a (.ext φ)) : Rd H' a (.ext φ) := ex_rd e h
/-- the written part, the program, the world -/
structure KW where
  K : PySem.W.Frag
  P : Program
  w : World
abbrev kw (X : Cx) : KW := ⟨X.K, X.prog, X.w⟩
/-- where a class of one's own stands -/
def ga (K : KW) (C : Str) : Addr := He.ga K.K C
def kD : Key → D
  | .inl i => .int i
  | .inr x => .str x
mutual
/-- data as a key of a dict -/
def nk : D → Option NestedKey
  | .non => some .none
  | .bl b => some (.num (if b = true then 1 else 0))
  | .int i => some (.num i)
  | .str x => some (.text x)
  | .tup xs => match nks xs with
    | some ks => some (.tup ks)
    | none => none
  | _ => none
def nks : List D → Option (List NestedKey)
  | [] => some []
  | x :: xs => match nk x, nks xs with
    | some k, some ks => some (k :: ks)
    | _, _ => none
end
/-- a dict whose keys are tuples -/
def DN (P : Program) (w : World) (a : Addr) (xs : List (NestedKey × Addr × V)) : HO :=
  .ext fun h => (a == sysModules) = false ∧ xs.length ≤ sizeLine ∧ ∃ ys : List (NestedKey × Addr × Value), Paired (fun (x : NestedKey × Addr × V) (y : NestedKey × Addr × Value) => x.1 = y.1 ∧ x.2.1 = y.2.1 ∧ RelV x.2.2 y.2.2) xs ys ∧
    ∃ o es ep, h.get? a = some o ∧ o.ExactDict ∧ o.data = .dict es ep ∧ es.toList = ys.map (entryOfKey (nestedKind P w)) ∧ (ys.map (·.1)).Nodup
mutual
/-- in the heap G the value v stands for the data d -/
inductive Rep (K : KW) (G : Hp) : V → D → Prop
  | non : Rep K G .non .non
  | bl (b : Bool) : Rep K G (.bl b) (.bl b)
  | int (i : Int) : Rep K G (.int i) (.int i)
  | str (x : Str) : Rep K G (.str x) (.str x)
  | ty (t : String) : Rep K G (.ty t) (.ty t)
  | cn (C : Str) : Rep K G (.ref (ga K C)) (.cn C)
  | lst {a : Addr} {vs : List V} {ds : List D} : Rd G a (.lst vs) → Reps K G vs ds → Rep K G (.ref a) (.lst ds)
  | tup {a : Addr} {vs : List V} {ds : List D} : SqT K.K G a vs → Reps K G vs ds → Rep K G (.ref a) (.tup ds)
  | dK {a : Addr} {kvs : List (Key × V)} {ds : List (D × D)} : Rd G a (.dK kvs) → ds.map (·.1) = kvs.map (fun x => kD x.1) → Reps K G (kvs.map (·.2)) (ds.map (·.2)) → Rep K G (.ref a) (.dct ds)
  | dN {a : Addr} {xs : List (NestedKey × Addr × V)} {ds : List (D × D)} : Rd G a (DN K.P K.w a xs) → (ds.map (·.1)).map nk = xs.map (fun x => some x.1) → Reps K G (xs.map fun x => .ref x.2.1) (ds.map (·.1)) → (∀ x ∈ xs, x.1.depth ≤ 8) → Reps K G (xs.map (·.2.2)) (ds.map (·.2)) → Rep K G (.ref a) (.dct ds)
  | obj {a dx : Addr} {C : Str} {fs : List (Str × V)} {ds : List (Str × D)} : G a = some (.ins (ga K C) dx fs) → ds.map (·.1) = fs.map (·.1) → Reps K G (fs.map (·.2)) (ds.map (·.2)) → Rep K G (.ref a) (.obj C ds)
inductive Reps (K : KW) (G : Hp) : List V → List D → Prop
  | nil : Reps K G [] []
  | cons {v : V} {d : D} {vs : List V} {ds : List D} : Rep K G v d → Reps K G vs ds → Reps K G (v :: vs) (d :: ds)
end
mutual
theorem Rep.mono {K : KW} {G G' : Hp} (e : Sm G G') : ∀ {v : V} {d : D}, Rep K G v d → Rep K G' v d
  | _, _, .non => .non
  | _, _, .bl b => .bl b
  | _, _, .int i => .int i
  | _, _, .str x => .str x
  | _, _, .ty x => .ty x
  | _, _, .cn x => .cn x
  | _, _, .lst h r => .lst (ex_rl e h) (Reps.mono e r)
  | _, _, .tup h r => .tup (ex_t e h) (Reps.mono e r)
  | _, _, .dK h k r => .dK (ex_dK e h) k (Reps.mono e r)
  | _, _, .dN h k q l r => .dN (ex_ext e h) k (Reps.mono e q) l (Reps.mono e r)
  | _, _, .obj h k r => .obj (ex_ins e h) k (Reps.mono e r)
theorem Reps.mono {K : KW} {G G' : Hp} (e : Sm G G') : ∀ {vs : List V} {ds : List D}, Reps K G vs ds → Reps K G' vs ds
  | _, _, .nil => .nil
  | _, _, .cons h r => .cons (Rep.mono e h) (Reps.mono e r)
end
section
variable {K : KW} {G : Hp}
theorem Reps.length : ∀ {vs : List V} {ds : List D}, Reps K G vs ds → vs.length = ds.length
  | _, _, .nil => rfl
  | _, _, .cons _ r => by simp [Reps.length r]
theorem Reps.get : ∀ {vs : List V} {ds : List D} {i : Nat} {d : D}, Reps K G vs ds → ds[i]? = some d → ∃ v, vs[i]? = some v ∧ Rep K G v d
  | _, _, _, _, .nil, e => by simp at e
  | _, _, 0, _, .cons r _, e => by simp at e; subst e; exact ⟨_, rfl, r⟩
  | _, _, i + 1, d, .cons _ t, e => by
    obtain ⟨u, h1, h2⟩ := Reps.get (i := i) (d := d) t (by simpa using e)
    exact ⟨u, by simpa using h1, h2⟩
theorem Reps.getV : ∀ {vs : List V} {ds : List D} {i : Nat} {v : V}, Reps K G vs ds → vs[i]? = some v → ∃ d, ds[i]? = some d ∧ Rep K G v d
  | _, _, _, _, .nil, e => by simp at e
  | _, _, 0, _, .cons r _, e => by simp at e; subst e; exact ⟨_, rfl, r⟩
  | _, _, i + 1, d, .cons _ t, e => by
    obtain ⟨u, h1, h2⟩ := Reps.getV (i := i) (v := d) t (by simpa using e)
    exact ⟨u, by simpa using h1, h2⟩
theorem Reps.append : ∀ {vs ws : List V} {ds es : List D}, Reps K G vs ds → Reps K G ws es → Reps K G (vs ++ ws) (ds ++ es)
  | _, _, _, _, .nil, s => s
  | _, _, _, _, .cons r t, s => .cons r (Reps.append t s)
theorem Reps.set {x : V} {u : D} (r : Rep K G x u) : ∀ {vs : List V} {ds : List D} (i : Nat), Reps K G vs ds → Reps K G (vs.set i x) (ds.set i u)
  | _, _, _, .nil => .nil
  | _, _, 0, .cons _ t => .cons r t
  | _, _, i + 1, .cons q t => .cons q (Reps.set r i t)
theorem Reps.eraseIdx : ∀ {vs : List V} {ds : List D} (i : Nat), Reps K G vs ds → Reps K G (vs.eraseIdx i) (ds.eraseIdx i)
  | _, _, _, .nil => .nil
  | _, _, 0, .cons _ t => t
  | _, _, i + 1, .cons q t => .cons q (Reps.eraseIdx i t)
theorem Reps.take : ∀ {xs : List V} {us : List D} (n : Nat), Reps K G xs us → Reps K G (xs.take n) (us.take n)
  | _, _, 0, _ => .nil
  | _, _, _ + 1, .nil => .nil
  | _, _, n + 1, .cons r t => .cons r (Reps.take n t)
theorem Reps.drop : ∀ {xs : List V} {us : List D} (n : Nat), Reps K G xs us → Reps K G (xs.drop n) (us.drop n)
  | _, _, 0, r => r
  | _, _, _ + 1, .nil => .nil
  | _, _, n + 1, .cons _ t => Reps.drop n t
theorem rep_lst {v : V} {ds : List D} (r : Rep K G v (.lst ds)) : ∃ a vs, v = .ref a ∧ SqL K.K G a vs ∧ Reps K G vs ds := by
  cases r with | lst h r => exact ⟨_, _, rfl, .inl h, r⟩
theorem rep_lstR {v : V} {ds : List D} (r : Rep K G v (.lst ds)) : ∃ a vs, v = .ref a ∧ Rd G a (.lst vs) ∧ Reps K G vs ds := by
  cases r with | lst h r => exact ⟨_, _, rfl, h, r⟩
theorem rep_tup {v : V} {ds : List D} (r : Rep K G v (.tup ds)) : ∃ a vs, v = .ref a ∧ SqT K.K G a vs ∧ Reps K G vs ds := by
  cases r with | tup h r => exact ⟨_, _, rfl, h, r⟩
end
theorem same_new {H : Hp} {p : Addr} {o : HO} (h : H p = none) : Sm H (upd H p o) := fun a u e => by
  rw [upd_ne (ne_of_none e h)]
  exact ⟨u, e, .inl rfl⟩
theorem sm_free {G H : Hp} {p : Addr} (e : Sm G H) (h : H p = none) : G p = none := by
  cases q : G p with
  | none => rfl
  | some o =>
    obtain ⟨o', h', _⟩ := e p o q
    rw [h] at h'; cases h'
/-- a frame: what is known of the still part, and stays as it grows -/
def Stab (F : Hp → Prop) : Prop := ∀ G G', Sm G G' → F G → F G'
theorem stab_and {F P : Hp → Prop} (a : Stab F) (b : Stab P) : Stab (fun G => F G ∧ P G) := fun G G' e q => ⟨a _ _ e q.1, b _ _ e q.2⟩
theorem stab_true : Stab (fun _ => True) := fun _ _ _ _ => trivial
theorem stab_rep {K : KW} (v : V) (d : D) : Stab (fun G => Rep K G v d) := fun _ _ e h => h.mono e
theorem stab_reps {K : KW} (v : List V) (d : List D) : Stab (fun G => Reps K G v d) := fun _ _ e h => h.mono e
/-- o is a dict with the keys ns and the values us -/
def DctIs (K : KW) (G : Hp) (a : Addr) (o : HO) (ns : List D) (us : List V) : Prop :=
  (∃ kvs : List (Key × V), o = .dK kvs ∧ ns = kvs.map (fun x => kD x.1) ∧ us = kvs.map (·.2)) ∨
  (∃ xs : List (NestedKey × Addr × V), o = DN K.P K.w a xs ∧ ns.map nk = xs.map (fun x => some x.1) ∧ Reps K G (xs.map fun x => .ref x.2.1) ns ∧ (∀ x ∈ xs, x.1.depth ≤ 8) ∧ us = xs.map (·.2.2))
/-- at a, in H, locked or not -/
def DctV (K : KW) (G H : Hp) (a : Addr) (ns : List D) (us : List V) : Prop :=
  (∃ kvs : List (Key × V), Rd H a (.dK kvs) ∧ ns = kvs.map (fun x => kD x.1) ∧ us = kvs.map (·.2)) ∨
  (∃ xs : List (NestedKey × Addr × V), Rd H a (DN K.P K.w a xs) ∧ ns.map nk = xs.map (fun x => some x.1) ∧ Reps K G (xs.map fun x => .ref x.2.1) ns ∧ (∀ x ∈ xs, x.1.depth ≤ 8) ∧ us = xs.map (·.2.2))
section
variable {K : KW} {G G' H H' : Hp} {p : Addr} {d : D}
theorem DctIs.mono {o : HO} {ns : List D} {us : List V} (h : DctIs K G p o ns us) (e : Sm G G') : DctIs K G' p o ns us := by
  rcases h with h | ⟨xs, h1, h2, h3, h4⟩
  · exact .inl h
  · exact .inr ⟨xs, h1, h2, h3.mono e, h4⟩
theorem DctIs.len {o : HO} {ns : List D} {us : List V} (h : DctIs K G p o ns us) : ns.length = us.length := by
  rcases h with ⟨kvs, _, rfl, rfl⟩ | ⟨xs, _, h2, _, _, rfl⟩
  · simp
  · have := congrArg List.length h2
    simpa using this
theorem DctV.len {ns : List D} {us : List V} (h : DctV K G H p ns us) : ns.length = us.length := by
  rcases h with ⟨kvs, _, rfl, rfl⟩ | ⟨xs, _, h2, _, _, rfl⟩
  · simp
  · have := congrArg List.length h2
    simpa using this
theorem DctIs.v {o : HO} {ns : List D} {us : List V} (h : DctIs K G p o ns us) (hp : H p = some o) : DctV K G H p ns us := by
  rcases h with ⟨kvs, rfl, h2⟩ | ⟨xs, rfl, h2⟩
  · exact .inl ⟨kvs, .inl hp, h2⟩
  · exact .inr ⟨xs, .inl hp, h2⟩
theorem DctV.rep {ds : List (D × D)} {us : List V} (h : DctV K G H p (ds.map (·.1)) us) (e : Sm G H) (r : Reps K G us (ds.map (·.2))) : Rep K H (.ref p) (.dct ds) := by
  rcases h with ⟨kvs, h1, h2, rfl⟩ | ⟨xs, h1, h2, h3, h4, rfl⟩
  · exact .dK h1 h2 (r.mono e)
  · exact .dN h1 h2 (h3.mono e) h4 (r.mono e)
theorem rep_dct {v : V} {ds : List (D × D)} (r : Rep K G v (.dct ds)) : ∃ p us, v = .ref p ∧ DctV K G G p (ds.map (·.1)) us ∧ Reps K G us (ds.map (·.2)) := by
  cases r with
  | dK h k r => exact ⟨_, _, rfl, .inl ⟨_, h, k, rfl⟩, r⟩
  | dN h k q l r => exact ⟨_, _, rfl, .inr ⟨_, h, k, q, l, rfl⟩, r⟩
theorem DctV.up {ns : List D} {us : List V} (h : DctV K G G p ns us) (e : Sm G H) : DctV K G H p ns us := by
  rcases h with ⟨kvs, h1, h2⟩ | ⟨xs, h1, h2⟩
  · exact .inl ⟨kvs, ex_dK e h1, h2⟩
  · exact .inr ⟨xs, ex_ext e h1, h2⟩
end
/-- in H, at p, stands d itself; its parts in the still part G -/
def At (K : KW) (G H : Hp) (p : Addr) : D → Prop
  | .lst ds => ∃ vs, H p = some (.lst vs) ∧ Reps K G vs ds
  | .dct ds => ∃ o us, H p = some o ∧ DctIs K G p o (ds.map (·.1)) us ∧ Reps K G us (ds.map (·.2))
  | .obj C ds => ∃ (dx : Addr) (fs : List (Str × V)), H p = some (.ins (ga K C) dx fs) ∧ ds.map (·.1) = fs.map (·.1) ∧ Reps K G (fs.map (·.2)) (ds.map (·.2))
  | _ => False
section
variable {K : KW} {G G' H H' : Hp} {p : Addr} {d : D}
theorem At.some (h : At K G H p d) : H p ≠ none := by
  intro z
  cases d with
  | lst => obtain ⟨vs, e, _⟩ := h; rw [z] at e; cases e
  | dct => obtain ⟨o, us, e, _⟩ := h; rw [z] at e; cases e
  | obj => obtain ⟨_, vs, e, _⟩ := h; rw [z] at e; cases e
  | _ => exact h
theorem At.mono (h : At K G H p d) (e : Sm G G') (hp : H' p = H p) : At K G' H' p d := by
  cases d with
  | lst => obtain ⟨vs, q, r⟩ := h; exact ⟨vs, hp.trans q, r.mono e⟩
  | dct => obtain ⟨o, us, q, m, r⟩ := h; exact ⟨o, us, hp.trans q, m.mono e, r.mono e⟩
  | obj => obtain ⟨dx, vs, q, m, r⟩ := h; exact ⟨dx, vs, hp.trans q, m, r.mono e⟩
  | _ => exact h
theorem At.rep (h : At K G H p d) (e : Sm G G') (hp : G' p = H p) : Rep K G' (.ref p) d := by
  cases d with
  | lst => obtain ⟨vs, q, r⟩ := h; exact .lst (.inl (hp.trans q)) (r.mono e)
  | dct =>
    obtain ⟨o, us, q, m, r⟩ := h
    have m' := (m.mono e).v (hp.trans q)
    exact m'.rep (Sm.refl _) (r.mono e)
  | obj => obtain ⟨dx, vs, q, m, r⟩ := h; exact .obj (hp.trans q) m (r.mono e)
  | _ => exact h.elim
end
/-! ### own objects -/
inductive DV where
  | d (x : D) | h (k : Nat)
inductive OO where
  | p (x : D) | l (xs : List DV) | k (kvs : List (D × DV)) | o (C : Str) (fs : List (Str × DV))
inductive OE where
  | own (c : OO) | fz (x : D) | gone
abbrev OL := List OE
abbrev VEnv := List (Option DV)
abbrev Tb := List Addr
inductive DRep (K : KW) (T : Tb) (G : Hp) : V → DV → Prop
  | d {v : V} {x : D} : Rep K G v x → DRep K T G v (.d x)
  | h {k : Nat} {p : Addr} : T[k]? = some p → DRep K T G (.ref p) (.h k)
inductive DReps (K : KW) (T : Tb) (G : Hp) : List V → List DV → Prop
  | nil : DReps K T G [] []
  | cons {v : V} {x : DV} {vs : List V} {xs : List DV} : DRep K T G v x → DReps K T G vs xs → DReps K T G (v :: vs) (x :: xs)
section
variable {K : KW} {T T' : Tb} {G G' H : Hp}
theorem pre_get {k : Nat} {p : Addr} (t : T <+: T') (h : T[k]? = some p) : T'[k]? = some p := by
  obtain ⟨r, rfl⟩ := t
  have := (List.getElem?_eq_some_iff.mp h).1
  rw [List.getElem?_append_left this]; exact h
theorem DRep.mono {v : V} {x : DV} (e : Sm G G') (t : T <+: T') (r : DRep K T G v x) : DRep K T' G' v x := by
  cases r with
  | d r => exact .d (r.mono e)
  | h r => exact .h (pre_get t r)
theorem DReps.mono (e : Sm G G') (t : T <+: T') : ∀ {v : List V} {x : List DV}, DReps K T G v x → DReps K T' G' v x
  | _, _, .nil => .nil
  | _, _, .cons a b => .cons (a.mono e t) (b.mono e t)
theorem DReps.length : ∀ {v : List V} {x : List DV}, DReps K T G v x → v.length = x.length
  | _, _, .nil => rfl
  | _, _, .cons a b => by simp [b.length]
theorem Reps.dv : ∀ {v : List V} {x : List D}, Reps K G v x → DReps K T G v (x.map DV.d)
  | _, _, .nil => .nil
  | _, _, .cons a b => .cons (.d a) (Reps.dv b)
theorem DReps.of_d : ∀ {v : List V} {x : List D}, DReps K T G v (x.map DV.d) → Reps K G v x
  | _, [], .nil => .nil
  | _, _ :: _, .cons (.d a) b => .cons a (DReps.of_d b)
theorem DReps.append : ∀ {vs us : List V} {xs ys : List DV}, DReps K T G vs xs → DReps K T G us ys → DReps K T G (vs ++ us) (xs ++ ys)
  | _, _, _, _, .nil, s => s
  | _, _, _, _, .cons a b, s => .cons a (b.append s)
end
/-- at p, in H, stands the content -/
def AtO (K : KW) (T : Tb) (G H : Hp) (p : Addr) : OO → Prop
  | .p x => At K G H p x
  | .l xs => ∃ us, H p = some (.lst us) ∧ DReps K T G us xs
  | .k kvs => ∃ o us, H p = some o ∧ DctIs K G p o (kvs.map (·.1)) us ∧ DReps K T G us (kvs.map (·.2))
  | .o C fs => ∃ (dx : Addr) (us : List (Str × V)), H p = some (.ins (ga K C) dx us) ∧ fs.map (·.1) = us.map (·.1) ∧ DReps K T G (us.map (·.2)) (fs.map (·.2))
def EAt (K : KW) (T : Tb) (G H : Hp) (p : Addr) : OE → Prop
  | .own c => AtO K T G H p c
  | .fz x => Rep K G (.ref p) x
  | .gone => True
section
variable {K : KW} {T T' : Tb} {G G' H H' : Hp} {p : Addr}
theorem AtO.some {c : OO} (h : AtO K T G H p c) : H p ≠ none := by
  cases c with
  | p x => exact At.some h
  | l xs => obtain ⟨u, e, _⟩ := h; rw [e]; exact fun z => nomatch z
  | k xs => obtain ⟨o, u, e, _⟩ := h; rw [e]; exact fun z => nomatch z
  | o C xs => obtain ⟨_, u, e, _⟩ := h; rw [e]; exact fun z => nomatch z
theorem AtO.mono {c : OO} (h : AtO K T G H p c) (e : Sm G G') (t : T <+: T') (hp : H' p = H p) : AtO K T' G' H' p c := by
  cases c with
  | p x => exact At.mono h e hp
  | l xs => obtain ⟨u, q, r⟩ := h; exact ⟨u, hp.trans q, r.mono e t⟩
  | k xs => obtain ⟨o, u, q, m, r⟩ := h; exact ⟨o, u, hp.trans q, m.mono e, r.mono e t⟩
  | o C xs => obtain ⟨dx, u, q, m, r⟩ := h; exact ⟨dx, u, hp.trans q, m, r.mono e t⟩
end
end FL

set_option Elab.async false
set_option linter.all false
set_option maxRecDepth 100000
set_option maxHeartbeats 4000000
namespace FL
open PySem PySem.Spec PyProof.Rows L2
structure SlV (K : KW) (T : Tb) (σ : L2.St) (G : Hp) (env : VEnv) : Prop where
  len : σ.length = env.length
  get : ∀ (i : Nat) (x : DV), env[i]? = some (some x) → ∃ v, σ[i]? = some (some v) ∧ DRep K T G v x
theorem SlV.mono {K : KW} {T T' : Tb} {σ : L2.St} {G G' : Hp} {env : VEnv} (h : SlV K T σ G env) (e : Sm G G') (t : T <+: T') : SlV K T' σ G' env :=
  ⟨h.len, fun i x q => let ⟨v, a, b⟩ := h.get i x q; ⟨v, a, b.mono e t⟩⟩
theorem SlV.set {K : KW} {T : Tb} {σ : L2.St} {G : Hp} {env : VEnv} {v : V} {x : DV} (h : SlV K T σ G env) (r : DRep K T G v x) (i : Nat) : SlV K T (σ.set i (some v)) G (env.set i (some x)) := by
  refine ⟨by simp [h.len], fun j e q => ?_⟩
  rw [List.getElem?_set] at q ⊢
  by_cases c : i = j
  · rw [if_pos c] at q ⊢
    subst c
    by_cases hl : i < env.length
    · rw [if_pos hl] at q
      rw [if_pos (by rw [h.len]; exact hl)]
      cases q
      exact ⟨v, rfl, r⟩
    · rw [if_neg hl] at q; cases q
  · rw [if_neg c] at q ⊢
    exact h.get j e q
/-- the frame: how many names, what is hidden, what is lent -/
structure Fra where
  n : Nat
  Z : Hp
  γ : L2.St
/-- the state: the own objects L (at T), the still part G -/
structure OkF (K : KW) (B : Fra) (T : Tb) (L : OL) (G : Hp) (σ : L2.St) (H : Hp) (env : VEnv) (F : Hp → Prop) : Prop where
  sl : SlV K T (σ ++ B.γ) G env
  nl : σ.length = B.n
  sub : Sm G H
  tl : T.length = L.length
  inj : ∀ (j k : Nat) (p : Addr) (c c' : OO), T[j]? = some p → T[k]? = some p → L[j]? = some (.own c) → L[k]? = some (.own c') → j = k
  own : ∀ (k : Nat) (p : Addr) (e : OE), T[k]? = some p → L[k]? = some e → EAt K T G H p e
  nG : ∀ (k : Nat) (p : Addr) (c : OO), T[k]? = some p → L[k]? = some (.own c) → G p = none
  hid : ∀ a o, B.Z a = some o → H a = some o ∧ G a = none ∧ ∀ (k : Nat) (c : OO), T[k]? = some a → L[k]? ≠ some (.own c)
  st : Stab F
  f : F G
section
variable {K : KW} {B : Fra} {T : Tb} {L : OL} {G : Hp} {σ : L2.St} {H : Hp} {env : VEnv} {F : Hp → Prop}
theorem OkF.push {P : Hp → Prop} (k : OkF K B T L G σ H env F) (s : Stab P) (h : P G) : OkF K B T L G σ H env (fun G => F G ∧ P G) := { k with st := stab_and k.st s, f := ⟨k.f, h⟩ }
theorem OkF.as {F' : Hp → Prop} (k : OkF K B T L G σ H env F) (s : Stab F') (h : F' G) : OkF K B T L G σ H env F' := { k with st := s, f := h }
theorem OkF.drop {P : Hp → Prop} (k : OkF K B T L G σ H env (fun G => F G ∧ P G)) (s : Stab F) : OkF K B T L G σ H env F := k.as s k.f.1
theorem OkF.se {σ' : L2.St} {env' : VEnv} (k : OkF K B T L G σ H env F) (s : SlV K T (σ' ++ B.γ) G env') (n : σ'.length = B.n) : OkF K B T L G σ' H env' F := { k with sl := s, nl := n }
theorem stab_drep (v : V) (x : DV) : Stab (fun G => DRep K T G v x) := fun _ _ e h => h.mono e (List.prefix_refl _)
theorem stab_dreps (v : List V) (x : List DV) : Stab (fun G => DReps K T G v x) := fun _ _ e h => h.mono e (List.prefix_refl _)
theorem OkF.get (k : OkF K B T L G σ H env F) {i : Nat} {x : DV} (hi : i < B.n) (h : env[i]? = some (some x)) : ∃ v, σ[i]? = some (some v) ∧ DRep K T G v x := by
  obtain ⟨v, hv, r⟩ := k.sl.get i x h
  rw [List.getElem?_append_left (by rw [k.nl]; exact hi)] at hv
  exact ⟨v, hv, r⟩
theorem OkF.set (k : OkF K B T L G σ H env F) {i : Nat} {v : V} {x : DV} (hi : i < B.n) (r : DRep K T G v x) : OkF K B T L G (σ.set i (some v)) H (env.set i (some x)) F := by
  refine k.se ?_ (by rw [List.length_set, k.nl])
  have e : σ.set i (some v) ++ B.γ = (σ ++ B.γ).set i (some v) := by rw [List.set_append_left _ _ (by rw [k.nl]; exact hi)]
  rw [e]
  exact k.sl.set r i
/-- own addresses are taken -/
theorem OkF.taken (k : OkF K B T L G σ H env F) {j : Nat} {p : Addr} {c : OO} (h1 : T[j]? = some p) (h2 : L[j]? = some (.own c)) : H p ≠ none := (k.own j p _ h1 h2 : AtO K T G H p c).some
theorem OkF.freeL (k : OkF K B T L G σ H env F) {p : Addr} (h : H p = none) {j : Nat} {c : OO} (h1 : T[j]? = some p) : L[j]? ≠ some (.own c) := fun h2 => k.taken h1 h2 h
theorem OkF.freeZ (k : OkF K B T L G σ H env F) {p : Addr} (h : H p = none) : B.Z p = none := by
  cases e : B.Z p with
  | none => rfl
  | some o => have := (k.hid p o e).1; rw [h] at this; cases this
/-- a new object, not looked at, or still from now on -/
theorem OkF.junk {p : Addr} {o : HO} (k : OkF K B T L G σ H env F) (h : H p = none) : OkF K B T L G σ (upd H p o) env F :=
  { k with
    sub := k.sub.trans (same_new h)
    own := fun j q e h1 h2 => by
      have z := k.own j q e h1 h2
      cases e with
      | own c => exact AtO.mono z (Sm.refl _) (List.prefix_refl _) (upd_ne (fun y => k.taken h1 h2 (y ▸ h)))
      | fz x => exact z
      | gone => trivial
    hid := fun a u e => by
      obtain ⟨h1, h2, h3⟩ := k.hid a u e
      exact ⟨by rw [upd_ne (ne_of_none h1 h)]; exact h1, h2, h3⟩ }
theorem OkF.new {p : Addr} {o : HO} (k : OkF K B T L G σ H env F) (h : H p = none) : OkF K B T L (upd G p o) σ (upd H p o) env F := by
  have hG := sm_free k.sub h
  have e : Sm G (upd G p o) := same_new hG
  have j := k.junk (o := o) h
  refine { j with sl := k.sl.mono e (List.prefix_refl _), sub := fun a u q => ?_, own := fun i q x h1 h2 => ?_, nG := fun i q c h1 h2 => ?_, hid := fun a u z => ?_, f := k.st _ _ e k.f }
  · by_cases c : a = p
    · subst c
      rw [upd_same] at q ⊢
      exact ⟨u, q, .inl rfl⟩
    · rw [upd_ne c] at q ⊢
      exact k.sub a u q
  · have z := j.own i q x h1 h2
    cases x with
    | own c => exact AtO.mono z e (List.prefix_refl _) rfl
    | fz x => exact Rep.mono e z
    | gone => trivial
  · have : q ≠ p := fun y => k.taken h1 h2 (y ▸ h)
    rw [upd_ne this]; exact k.nG i q c h1 h2
  · obtain ⟨a1, a2, a3⟩ := j.hid a u z
    have : a ≠ p := fun y => by rw [y, k.freeZ h] at z; cases z
    exact ⟨a1, by rw [upd_ne this]; exact a2, a3⟩
/-- a new object of one's own -/
theorem OkF.alloc {p : Addr} {o : HO} {c : OO} (k : OkF K B T L G σ H env F) (h : H p = none) (a : AtO K T G (upd H p o) p c) : OkF K B (T ++ [p]) (L ++ [.own c]) G σ (upd H p o) env F := by
  have hG := sm_free k.sub h
  have pt : T <+: T ++ [p] := List.prefix_append _ _
  have j := k.junk (o := o) h
  have hl := k.tl
  have split : ∀ {j : Nat} {q : Addr} {e : OE}, (T ++ [p])[j]? = some q → (L ++ [OE.own c])[j]? = some e → (T[j]? = some q ∧ L[j]? = some e) ∨ (j = T.length ∧ q = p ∧ e = .own c) := by
    intro j q e h1 h2
    by_cases hj : j < T.length
    · rw [List.getElem?_append_left hj] at h1
      rw [List.getElem?_append_left (by omega)] at h2
      exact .inl ⟨h1, h2⟩
    · rw [List.getElem?_append_right (by omega)] at h1 h2
      have e1 : j - T.length = 0 := by
        have := (List.getElem?_eq_some_iff.mp h1).1
        simp at this; omega
      rw [e1] at h1
      rw [show j - L.length = 0 by omega] at h2
      simp at h1 h2
      exact .inr ⟨by omega, h1.symm, h2.symm⟩
  have np : ∀ {i : Nat} {c1 : OO}, T[i]? = some p → L[i]? = some (OE.own c1) → False := fun h1 h2 => k.freeL h h1 h2
  refine { j with sl := k.sl.mono (Sm.refl _) pt, tl := by simp [hl], inj := ?_, own := ?_, nG := ?_, hid := ?_ }
  · intro i j q c1 c2 h1 h2 h3 h4
    rcases split h1 h3 with ⟨a1, a2⟩ | ⟨rfl, rfl, _⟩
    · rcases split h2 h4 with ⟨b1, b2⟩ | ⟨rfl, rfl, _⟩
      · exact k.inj i j q c1 c2 a1 b1 a2 b2
      · exact (np a1 a2).elim
    · rcases split h2 h4 with ⟨b1, b2⟩ | ⟨rfl, _, _⟩
      · exact (np b1 b2).elim
      · rfl
  · intro i q e h1 h2
    rcases split h1 h2 with ⟨a1, a2⟩ | ⟨rfl, rfl, rfl⟩
    · have z := j.own i q e a1 a2
      cases e with
      | own c' => exact AtO.mono z (Sm.refl _) pt rfl
      | fz x => exact z
      | gone => trivial
    · exact AtO.mono a (Sm.refl _) pt rfl
  · intro i q c1 h1 h2
    rcases split h1 h2 with ⟨a1, a2⟩ | ⟨rfl, rfl, _⟩
    · exact k.nG i q c1 a1 a2
    · exact hG
  · intro b u e
    obtain ⟨b1, b2, b3⟩ := j.hid b u e
    refine ⟨b1, b2, fun i c1 h1 h2 => ?_⟩
    rcases split h1 h2 with ⟨a1, a2⟩ | ⟨rfl, rfl, _⟩
    · exact b3 i c1 a1 a2
    · rw [k.freeZ h] at e; cases e
/-- one's own object is changed -/
theorem OkF.mod {j : Nat} {p : Addr} {o : HO} {c c0 : OO} (k : OkF K B T L G σ H env F) (hT : T[j]? = some p) (hL : L[j]? = some (.own c0)) (a : AtO K T G (upd H p o) p c) : OkF K B T (L.set j (.own c)) G σ (upd H p o) env F := by
  have hpG := k.nG j p c0 hT hL
  have hjl := (List.getElem?_eq_some_iff.mp hL).1
  have ol : ∀ {i : Nat} {c1 : OO}, (L.set j (.own c))[i]? = some (.own c1) → ∃ c2, L[i]? = some (.own c2) := by
    intro i c1 h
    rw [List.getElem?_set] at h
    by_cases e : j = i
    · subst e; exact ⟨c0, hL⟩
    · rw [if_neg e] at h; exact ⟨c1, h⟩
  refine { k with sub := fun b u q => ?_, tl := by simp [k.tl], inj := ?_, own := ?_, nG := ?_, hid := ?_ }
  · rw [upd_ne (ne_of_none q hpG)]
    exact k.sub b u q
  · intro i i' q c1 c2 h1 h2 h3 h4
    obtain ⟨c3, h3⟩ := ol h3
    obtain ⟨c4, h4⟩ := ol h4
    exact k.inj i i' q c3 c4 h1 h2 h3 h4
  · intro i q e h1 h2
    rw [List.getElem?_set] at h2
    by_cases c' : j = i
    · subst c'
      rw [if_pos rfl, if_pos hjl] at h2
      cases h2
      rw [hT] at h1; cases h1
      exact a
    · rw [if_neg c'] at h2
      have z := k.own i q e h1 h2
      cases e with
      | own c1 => exact AtO.mono z (Sm.refl _) (List.prefix_refl _) (upd_ne (fun y => c' (k.inj j i p c0 c1 hT (y ▸ h1) hL h2)))
      | fz x => exact z
      | gone => trivial
  · intro i q c1 h1 h2
    obtain ⟨c3, h3⟩ := ol h2
    exact k.nG i q c3 h1 h3
  · intro b u e
    obtain ⟨b1, b2, b3⟩ := k.hid b u e
    refine ⟨?_, b2, fun i c1 h1 h2 => ?_⟩
    · rw [upd_ne (fun (y : b = p) => b3 j c0 (by rw [y]; exact hT) hL)]; exact b1
    · obtain ⟨c3, h3⟩ := ol h2
      exact b3 i c3 h1 h3
end
/-! ### what own objects show -/
def stl (L : OL) : DV → Option D
  | .d x => some x
  | .h k => match L[k]? with
    | some (.fz x) => some x
    | _ => none
def stls (L : OL) : List DV → Option (List D)
  | [] => some []
  | x :: xs => match stl L x, stls L xs with
    | some a, some as => some (a :: as)
    | _, _ => none
def settle (L : OL) : OO → Option D
  | .p x => some x
  | .l xs => match stls L xs with
    | some ds => some (.lst ds)
    | none => none
  | .k kvs => match stls L (kvs.map (·.2)) with
    | some ds => some (.dct ((kvs.map (·.1)).zip ds))
    | none => none
  | .o C fs => match stls L (fs.map (·.2)) with
    | some ds => some (.obj C ((fs.map (·.1)).zip ds))
    | none => none
def see (L : OL) : DV → Option D
  | .d x => some x
  | .h k => match L[k]? with
    | some (.own c) => settle L c
    | some (.fz x) => some x
    | _ => none
/-- v shows d: the object itself in H, its parts in the still part G -/
def View (K : KW) (G H : Hp) (v : V) : D → Prop
  | .lst ds => ∃ a vs, v = .ref a ∧ Rd H a (.lst vs) ∧ Reps K G vs ds
  | .dct ds => ∃ (a : Addr) (us : List V), v = .ref a ∧ DctV K G H a (ds.map (·.1)) us ∧ Reps K G us (ds.map (·.2))
  | .obj C ds => ∃ (a dx : Addr) (fs : List (Str × V)), v = .ref a ∧ H a = some (.ins (ga K C) dx fs) ∧ ds.map (·.1) = fs.map (·.1) ∧ Reps K G (fs.map (·.2)) (ds.map (·.2))
  | d => Rep K G v d
section
variable {K : KW} {B : Fra} {T : Tb} {L : OL} {G G' : Hp} {σ : L2.St} {H : Hp} {env : VEnv} {F : Hp → Prop}
theorem Rep.view {v : V} {d : D} (r : Rep K G v d) (e : Sm G H) : View K G H v d := by
  cases r with
  | lst h r => exact ⟨_, _, rfl, ex_rl e h, r⟩
  | tup h r => exact Rep.tup h r
  | dK h k r => exact ⟨_, _, rfl, .inl ⟨_, ex_dK e h, k, rfl⟩, r⟩
  | dN h k q l r => exact ⟨_, _, rfl, .inr ⟨_, ex_ext e h, k, q, l, rfl⟩, r⟩
  | obj h k r => exact ⟨_, _, _, rfl, ex_ins e h, k, r⟩
  | non => exact Rep.non
  | bl b => exact Rep.bl b
  | int b => exact Rep.int b
  | str b => exact Rep.str b
  | ty v => exact Rep.ty v
  | cn v => exact Rep.cn v
theorem View.rep {v : V} {d : D} (r : View K G H v d) (e : Sm G H) : Rep K H v d := by
  cases d with
  | lst ds => obtain ⟨a, vs, rfl, h, r⟩ := r; exact .lst h (r.mono e)
  | tup ds => exact Rep.mono e r
  | dct ds => obtain ⟨a, us, rfl, h, r⟩ := r; exact h.rep e r
  | obj C ds => obtain ⟨a, dx, vs, rfl, h, k, r⟩ := r; exact .obj h k (r.mono e)
  | non => exact Rep.mono e r
  | bl b => exact Rep.mono e r
  | int b => exact Rep.mono e r
  | str b => exact Rep.mono e r
  | ty v => exact Rep.mono e r
  | cn v => exact Rep.mono e r
theorem At.view {p : Addr} {d : D} (a : At K G H p d) : View K G H (.ref p) d := by
  cases d with
  | lst ds => obtain ⟨vs, h, r⟩ := a; exact ⟨p, vs, rfl, .inl h, r⟩
  | dct ds => obtain ⟨o, us, h, k, r⟩ := a; exact ⟨p, us, rfl, k.v h, r⟩
  | obj C ds => obtain ⟨dx, vs, h, k, r⟩ := a; exact ⟨p, dx, vs, rfl, h, k, r⟩
  | _ => exact a.elim
theorem OkF.stl (o : OkF K B T L G σ H env F) {v : V} {x : DV} {d : D} (r : DRep K T G v x) (h : stl L x = some d) : Rep K G v d := by
  cases r with
  | d r => cases h; exact r
  | h hk =>
    rename_i k p
    simp only [FL.stl] at h
    split at h
    · rename_i x hx
      cases h
      exact o.own k p _ hk hx
    · cases h
theorem OkF.stls (o : OkF K B T L G σ H env F) : ∀ {vs : List V} {xs : List DV} {ds : List D}, DReps K T G vs xs → stls L xs = some ds → Reps K G vs ds
  | _, _, _, .nil, h => by cases h; exact .nil
  | _, _, _, .cons a b, h => by
    simp only [FL.stls] at h
    split at h
    · rename_i h1 h2
      cases h
      exact .cons (o.stl a h1) (o.stls b h2)
    · cases h
theorem zip_fst {α β : Type} : ∀ {xs : List α} {ys : List β}, xs.length = ys.length → (xs.zip ys).map (·.1) = xs
  | [], [], _ => rfl
  | [], _ :: _, h => by cases h
  | _ :: _, [], h => by cases h
  | x :: xs, y :: ys, h => by simp [zip_fst (xs := xs) (ys := ys) (by simpa using h)]
theorem zip_snd {α β : Type} : ∀ {xs : List α} {ys : List β}, xs.length = ys.length → (xs.zip ys).map (·.2) = ys
  | [], [], _ => rfl
  | [], _ :: _, h => by cases h
  | _ :: _, [], h => by cases h
  | x :: xs, y :: ys, h => by simp [zip_snd (xs := xs) (ys := ys) (by simpa using h)]
theorem OkF.settle (o : OkF K B T L G σ H env F) {p : Addr} {c : OO} {d : D} (a : AtO K T G H p c) (h : settle L c = some d) : At K G H p d := by
  cases c with
  | p x => cases h; exact a
  | l xs =>
    obtain ⟨us, hp, r⟩ := a
    simp only [FL.settle] at h
    split at h
    · rename_i ds hs; cases h; exact ⟨us, hp, o.stls r hs⟩
    · cases h
  | k xs =>
    simp only [FL.settle] at h
    split at h
    · rename_i ds hs
      cases h
      obtain ⟨ho, us, hp, m, r⟩ := a
      have r' := o.stls r hs
      have e : (xs.map (·.1)).length = ds.length := by rw [← r'.length, m.len]
      exact ⟨ho, us, hp, by rw [zip_fst e]; exact m, by rw [zip_snd e]; exact r'⟩
    · cases h
  | o C xs =>
    obtain ⟨dx, us, hp, m, r⟩ := a
    simp only [FL.settle] at h
    split at h
    · rename_i ds hs
      cases h
      have r' := o.stls r hs
      have e : (xs.map (·.1)).length = ds.length := by
        rw [← r'.length, m]; simp
      exact ⟨dx, us, hp, by rw [zip_fst e]; exact m, by rw [zip_snd e]; exact r'⟩
    · cases h
theorem OkF.see (o : OkF K B T L G σ H env F) {v : V} {x : DV} {d : D} (r : DRep K T G v x) (h : see L x = some d) : View K G H v d := by
  cases r with
  | d r => cases h; exact Rep.view r o.sub
  | h hk =>
    rename_i k p
    simp only [FL.see] at h
    split at h
    · rename_i c hc
      exact At.view (o.settle (o.own k p _ hk hc : AtO K T G H p c) h)
    · rename_i x hx
      cases h
      exact Rep.view (o.own k p _ hk hx : Rep K G (.ref p) _) o.sub
    · cases h
/-- one's own object is still from now on -/
theorem OkF.freeze {j : Nat} {c : OO} {d : D} (k : OkF K B T L G σ H env F) (hL : L[j]? = some (.own c)) (hs : FL.settle L c = some d) : ∃ G', Sm G G' ∧ OkF K B T (L.set j (.fz d)) G' σ H env F := by
  have hj : j < T.length := by rw [k.tl]; exact (List.getElem?_eq_some_iff.mp hL).1
  have hT : T[j]? = some T[j] := List.getElem?_eq_getElem hj
  generalize T[j] = p at hT
  have hjl := (List.getElem?_eq_some_iff.mp hL).1
  have a0 : AtO K T G H p c := k.own j p _ hT hL
  have a : At K G H p d := k.settle a0 hs
  have hp : G p = none := k.nG j p c hT hL
  cases eo : H p with
  | none => exact absurd eo a.some
  | some o =>
    have e : Sm G (upd G p o) := same_new hp
    have ol : ∀ {i : Nat} {c1 : OO}, (L.set j (.fz d))[i]? = some (OE.own c1) → i ≠ j ∧ L[i]? = some (OE.own c1) := by
      intro i c1 h
      rw [List.getElem?_set] at h
      by_cases e : j = i
      · subst e
        rw [if_pos rfl, if_pos hjl] at h; cases h
      · rw [if_neg e] at h; exact ⟨fun z => e z.symm, h⟩
    refine ⟨upd G p o, e, { k with sl := k.sl.mono e (List.prefix_refl _), sub := fun b u q => ?_, tl := by simp [k.tl], inj := ?_, own := ?_, nG := ?_, hid := ?_, f := k.st _ _ e k.f }⟩
    · by_cases cb : b = p
      · subst cb
        rw [upd_same] at q
        exact ⟨u, by rw [eo]; exact q, .inl rfl⟩
      · rw [upd_ne cb] at q
        exact k.sub b u q
    · intro i i' q c1 c2 h1 h2 h3 h4
      exact k.inj i i' q c1 c2 h1 h2 (ol h3).2 (ol h4).2
    · intro i q x h1 h2
      rw [List.getElem?_set] at h2
      by_cases c' : j = i
      · subst c'
        rw [if_pos rfl, if_pos hjl] at h2
        cases h2
        rw [hT] at h1; cases h1
        exact a.rep e (by rw [upd_same, eo])
      · rw [if_neg c'] at h2
        have z := k.own i q x h1 h2
        cases x with
        | own c1 => exact AtO.mono z e (List.prefix_refl _) rfl
        | fz x => exact Rep.mono e z
        | gone => trivial
    · intro i q c1 h1 h2
      obtain ⟨h3, h4⟩ := ol h2
      have : q ≠ p := fun y => h3 (k.inj i j p c1 c (y ▸ h1) hT h4 hL)
      rw [upd_ne this]; exact k.nG i q c1 h1 h4
    · intro b u z
      obtain ⟨b1, b2, b3⟩ := k.hid b u z
      have : b ≠ p := fun y => b3 j c (y ▸ hT) hL
      exact ⟨b1, by rw [upd_ne this]; exact b2, fun i c1 h1 h2 => b3 i c1 h1 (ol h2).2⟩
end
/-- freeze: a value becomes plain data (what it holds first) -/
def frzs (fr : OL → DV → Option (OL × D)) : OL → List DV → Option (OL × List D)
  | L, [] => some (L, [])
  | L, x :: xs => match fr L x with
    | some (L1, a) => match frzs fr L1 xs with
      | some (L2, as) => some (L2, a :: as)
      | none => none
    | none => none
def kids : OO → List DV
  | .p _ => []
  | .l xs => xs
  | .k kvs => kvs.map (·.2)
  | .o _ fs => fs.map (·.2)
def frz : Nat → OL → DV → Option (OL × D)
  | _, L, .d x => some (L, x)
  | 0, _, .h _ => none
  | n + 1, L, .h k => match L[k]? with
    | some (.fz x) => some (L, x)
    | some (.own (.p x)) => some (L.set k (.fz x), x)
    | some (.own c) => match frzs (frz n) L (kids c) with
      | some (L1, _) => match L1[k]? with
        | some (.own c1) => match settle L1 c1 with
          | some x => some (L1.set k (.fz x), x)
          | none => none
        | _ => none
      | none => none
    | _ => none
section
variable {K : KW} {B : Fra} {T : Tb} {L : OL} {G G' : Hp} {σ : L2.St} {H : Hp} {env : VEnv} {F : Hp → Prop}
theorem fz_get {L : OL} {k : Nat} {x : D} (h : k < L.length) : (L.set k (OE.fz x))[k]? = some (OE.fz x) := by
  rw [List.getElem?_set, if_pos rfl, if_pos h]
theorem frzs_ok {fr : OL → DV → Option (OL × D)} (hfr : ∀ (L : OL) (G : Hp) (x : DV) (L' : OL) (d : D), OkF K B T L G σ H env F → fr L x = some (L', d) → ∃ G', Sm G G' ∧ OkF K B T L' G' σ H env F ∧ ∀ v, DRep K T G v x → Rep K G' v d) :
    ∀ (xs : List DV) (L : OL) (G : Hp) (L' : OL) (ds : List D), OkF K B T L G σ H env F → frzs fr L xs = some (L', ds) → ∃ G', Sm G G' ∧ OkF K B T L' G' σ H env F ∧ ∀ vs, DReps K T G vs xs → Reps K G' vs ds
  | [], L, G, L', ds, k, h => by
    cases h
    exact ⟨G, Sm.refl _, k, fun vs r => by cases r; exact .nil⟩
  | x :: xs, L, G, L', ds, k, h => by
    simp only [frzs] at h
    split at h
    · rename_i L1 a h1
      split at h
      · rename_i L2 as h2
        cases h
        obtain ⟨G1, s1, k1, r1⟩ := hfr L G x L1 a k h1
        obtain ⟨G2, s2, k2, r2⟩ := frzs_ok hfr xs L1 G1 _ _ k1 h2
        refine ⟨G2, s1.trans s2, k2, fun vs r => ?_⟩
        cases r with
        | cons a b => exact .cons ((r1 _ a).mono s2) (r2 _ (b.mono s1 (List.prefix_refl _)))
      · cases h
    · cases h
theorem frz_ok : ∀ (n : Nat) (L : OL) (G : Hp) (x : DV) (L' : OL) (d : D), OkF K B T L G σ H env F → frz n L x = some (L', d) → ∃ G', Sm G G' ∧ OkF K B T L' G' σ H env F ∧ ∀ v, DRep K T G v x → Rep K G' v d := by
  intro n
  induction n with
  | zero =>
    intro L G x L' d k h
    cases x with
    | d x => cases h; exact ⟨G, Sm.refl _, k, fun v r => by cases r with | d r => exact r⟩
    | h j => cases h
  | succ n ih =>
    intro L G x L' d k h
    cases x with
    | d x => cases h; exact ⟨G, Sm.refl _, k, fun v r => by cases r with | d r => exact r⟩
    | h j =>
      unfold frz at h
      have fin : ∀ {L1 : OL} {G1 : Hp} {c1 : OO} {x : D}, Sm G G1 → OkF K B T L1 G1 σ H env F → L1[j]? = some (.own c1) → settle L1 c1 = some x → ∃ G', Sm G G' ∧ OkF K B T (L1.set j (.fz x)) G' σ H env F ∧ ∀ v, DRep K T G v (.h j) → Rep K G' v x := by
        intro L1 G1 c1 x s1 k1 h1 h2
        obtain ⟨G2, s2, k2⟩ := k1.freeze h1 h2
        refine ⟨G2, s1.trans s2, k2, fun v r => ?_⟩
        cases r with
        | h hk => exact k2.own j _ _ hk (fz_get (List.getElem?_eq_some_iff.mp h1).1)
      split at h
      · rename_i x hx
        cases h
        exact ⟨G, Sm.refl _, k, fun v r => by cases r with | h hk => exact k.own j _ _ hk hx⟩
      · rename_i x hx
        cases h
        exact fin (Sm.refl _) k hx rfl
      · rename_i c _ hc
        split at h
        · rename_i L1 as ha
          split at h
          · rename_i c1 h1
            split at h
            · rename_i x hx
              cases h
              obtain ⟨G1, s1, k1, _⟩ := frzs_ok (fun L G x L' d k h => ih L G x L' d k h) (kids c) L G L1 as k ha
              exact fin s1 k1 h1 hx
            · cases h
          · cases h
        · cases h
      · cases h
end
/-! ### the own objects, numbered anew -/
def idx : List Nat → Nat → Option Nat
  | [], _ => none
  | a :: r, k => match Nat.beq a k with
    | true => some 0
    | false => match idx r k with
      | some j => some (j + 1)
      | none => none
theorem idx_get : ∀ {ks : List Nat} {k j : Nat}, idx ks k = some j → ks[j]? = some k
  | [], _, _, h => by cases h
  | a :: r, k, j, h => by
    simp only [idx] at h
    split at h
    · rename_i e; cases h; rw [Nat.eq_of_beq_eq_true e]; rfl
    · split at h
      · rename_i i hi
        cases h
        have := idx_get hi
        simpa using this
      · cases h
def renV (ks : List Nat) (L : OL) : DV → Option DV
  | .d x => some (.d x)
  | .h k => match L[k]? with
    | some (.fz x) => some (.d x)
    | some (.own _) => match idx ks k with
      | some j => some (.h j)
      | none => none
    | _ => none
def renVs (ks : List Nat) (L : OL) : List DV → Option (List DV)
  | [] => some []
  | x :: xs => match renV ks L x, renVs ks L xs with
    | some a, some as => some (a :: as)
    | _, _ => none
def plains : List DV → Option (List D)
  | [] => some []
  | .d x :: xs => match plains xs with
    | some ds => some (x :: ds)
    | none => none
  | .h _ :: _ => none
theorem plains_eq : ∀ {xs : List DV} {ds : List D}, plains xs = some ds → xs = ds.map DV.d
  | [], _, h => by cases h; rfl
  | .d x :: xs, ds, h => by
    simp only [plains] at h
    split at h
    · rename_i es he
      cases h
      rw [plains_eq he]; rfl
    · cases h
  | .h _ :: _, _, h => by cases h
def lstOO (xs : List DV) : OO := match plains xs with
  | some ds => .p (.lst ds)
  | none => .l xs
def kOO (ns : List D) (xs : List DV) : OO := match plains xs with
  | some ds => .p (.dct (ns.zip ds))
  | none => .k (ns.zip xs)
def oOO (C : Str) (ns : List Str) (xs : List DV) : OO := match plains xs with
  | some ds => .p (.obj C (ns.zip ds))
  | none => .o C (ns.zip xs)
def renO (ks : List Nat) (L : OL) : OO → Option OO
  | .p x => some (.p x)
  | .l xs => match renVs ks L xs with
    | some ys => some (lstOO ys)
    | none => none
  | .k kvs => match renVs ks L (kvs.map (·.2)) with
    | some ys => some (kOO (kvs.map (·.1)) ys)
    | none => none
  | .o C fs => match renVs ks L (fs.map (·.2)) with
    | some ys => some (oOO C (fs.map (·.1)) ys)
    | none => none
def renL1 (ks : List Nat) (L : OL) (k : Nat) : OE := match L[k]? with
  | some (.own c) => match renO ks L c with
    | some c' => .own c'
    | none => .gone
  | some (.fz x) => .fz x
  | _ => .gone
def renL (ks : List Nat) (L : OL) : OL := ks.map (renL1 ks L)
def renS (ks : List Nat) (L : OL) : Option DV → Option DV
  | none => none
  | some x => renV ks L x
def renE (ks : List Nat) (L : OL) (env : VEnv) : VEnv := env.map (renS ks L)
/-- what is lent keeps its place, frozen or not -/
def renP1 (ks : List Nat) : Option DV → Option DV
  | some (.h k) => match idx ks k with
    | some j => some (.h j)
    | none => none
  | _ => none
def renP (ks : List Nat) (env : VEnv) : VEnv := env.map (renP1 ks)
def renN (ks : List Nat) (L : OL) : Nat → VEnv → VEnv
  | 0, env => renP ks env
  | _ + 1, [] => []
  | n + 1, s :: r => renS ks L s :: renN ks L n r
def hnds : List DV → List Nat
  | [] => []
  | .d _ :: r => hnds r
  | .h k :: r => k :: hnds r
def hndE : VEnv → List Nat
  | [] => []
  | some (.h k) :: r => k :: hndE r
  | _ :: r => hndE r
def has : List Nat → Nat → Bool
  | [], _ => false
  | a :: r, k => Nat.beq a k || has r k
theorem has_mem : ∀ {ks : List Nat} {k : Nat}, has ks k = false → k ∉ ks
  | [], _, _ => List.not_mem_nil
  | a :: r, k, h => by
    simp only [has, Bool.or_eq_false_iff] at h
    rintro (_ | ⟨_, z⟩)
    · exact absurd h.1 (by simp)
    · exact has_mem h.2 (by assumption)
def reach : Nat → OL → List Nat → List Nat → List Nat
  | 0, _, _, acc => acc
  | _ + 1, _, [], acc => acc
  | n + 1, L, k :: todo, acc => match L[k]?, has acc k with
    | some (.own c), false => reach n L (todo ++ hnds (kids c)) (acc ++ [k])
    | _, _ => reach n L todo acc
theorem reach_nodup : ∀ (n : Nat) (L : OL) (todo acc : List Nat), acc.Nodup → (reach n L todo acc).Nodup
  | 0, _, _, _, h => h
  | _ + 1, _, [], _, h => h
  | n + 1, L, k :: todo, acc, h => by
    unfold reach
    split
    · rename_i hc
      exact reach_nodup n L _ _ (List.nodup_append.mpr ⟨h, by simp, fun a ha b hb => by
        rcases List.mem_singleton.mp hb with rfl
        exact fun z => has_mem hc (z ▸ ha)⟩)
    · exact reach_nodup n L _ _ h
def pinK (L : OL) : List Nat → List Nat → List Nat
  | [], acc => acc
  | k :: r, acc => match L[k]?, has acc k with
    | some _, false => pinK L r (acc ++ [k])
    | _, _ => pinK L r acc
theorem pinK_nodup {L : OL} : ∀ (l acc : List Nat), acc.Nodup → (pinK L l acc).Nodup
  | [], _, h => h
  | k :: r, acc, h => by
    unfold pinK
    split
    · rename_i hc
      exact pinK_nodup r _ (List.nodup_append.mpr ⟨h, by simp, fun a ha b hb => by
        rcases List.mem_singleton.mp hb with rfl
        exact fun z => has_mem hc (z ▸ ha)⟩)
    · exact pinK_nodup r _ h
def kidsK (L : OL) : List Nat → List Nat
  | [] => []
  | k :: r => match L[k]? with
    | some (.own c) => hnds (kids c) ++ kidsK L r
    | _ => kidsK L r
/-- those that are lent, and what they hold -/
def pinR (L : OL) (pins : VEnv) : List Nat := reach 200 L (kidsK L (pinK L (hndE pins) [])) (pinK L (hndE pins) [])
theorem pinR_nodup {L : OL} {pins : VEnv} : (pinR L pins).Nodup := reach_nodup _ _ _ _ (pinK_nodup _ _ List.nodup_nil)
/-- those that the lent ones hold first -/
def keysOf (n : Nat) (L : OL) (env : VEnv) : List Nat := reach 200 L (hndE (env.take n)) (pinR L (env.drop n))
theorem keysOf_nodup {n : Nat} {L : OL} {env : VEnv} : (keysOf n L env).Nodup := reach_nodup _ _ _ _ pinR_nodup
section
variable {K : KW} {B : Fra} {T : Tb} {L : OL} {G : Hp} {σ : L2.St} {H : Hp} {env : VEnv} {F : Hp → Prop} {ks : List Nat}
def renT (ks : List Nat) (T : Tb) : Tb := ks.map fun k => (T[k]?).getD 0
theorem renT_get {j k : Nat} {p : Addr} (h : ks[j]? = some k) (hp : T[k]? = some p) : (renT ks T)[j]? = some p := by
  unfold renT
  rw [List.getElem?_map, h]
  simp [hp]
theorem OkF.renV (o : OkF K B T L G σ H env F) {v : V} {x y : DV} (r : DRep K T G v x) (h : renV ks L x = some y) : DRep K (renT ks T) G v y := by
  cases r with
  | d r => cases h; exact .d r
  | h hk =>
    rename_i k p
    simp only [FL.renV] at h
    split at h
    · rename_i x hx
      cases h
      exact .d (o.own k p _ hk hx)
    · split at h
      · rename_i j hj
        cases h
        exact .h (renT_get (idx_get hj) hk)
      · cases h
    · cases h
theorem OkF.renVs (o : OkF K B T L G σ H env F) : ∀ {vs : List V} {xs ys : List DV}, DReps K T G vs xs → renVs ks L xs = some ys → DReps K (renT ks T) G vs ys
  | _, _, _, .nil, h => by cases h; exact .nil
  | _, _, _, .cons a b, h => by
    simp only [FL.renVs] at h
    split at h
    · rename_i h1 h2
      cases h
      exact .cons (o.renV a h1) (o.renVs b h2)
    · cases h
theorem lst_at {K : KW} {T : Tb} {G H : Hp} {p : Addr} {us : List V} {xs : List DV} (h : H p = some (.lst us)) (r : DReps K T G us xs) : AtO K T G H p (lstOO xs) := by
  unfold lstOO
  split
  · rename_i ds hd
    rw [plains_eq hd] at r
    exact ⟨us, h, r.of_d⟩
  · exact ⟨us, h, r⟩
theorem k_at {K : KW} {T : Tb} {G H : Hp} {p : Addr} {o : HO} {us : List V} {ns : List D} {xs : List DV} (hp : H p = some o) (h : DctIs K G p o ns us) (r : DReps K T G us xs) : AtO K T G H p (kOO ns xs) := by
  have hl : ns.length = xs.length := by rw [← r.length, h.len]
  unfold kOO
  split
  · rename_i ds hd
    rw [plains_eq hd] at r hl
    rw [List.length_map] at hl
    exact ⟨o, us, hp, by rw [zip_fst hl]; exact h, by rw [zip_snd hl]; exact r.of_d⟩
  · exact ⟨o, us, hp, by rw [zip_fst hl]; exact h, by rw [zip_snd hl]; exact r⟩
theorem o_at {K : KW} {T : Tb} {G H : Hp} {p dx : Addr} {C : Str} {us : List (Str × V)} {ns : List Str} {xs : List DV} (h : H p = some (.ins (ga K C) dx us)) (hn : ns = us.map (·.1)) (r : DReps K T G (us.map (·.2)) xs) : AtO K T G H p (oOO C ns xs) := by
  have hl : ns.length = xs.length := by rw [← r.length, hn]; simp
  unfold oOO
  split
  · rename_i ds hd
    rw [plains_eq hd] at r hl
    rw [List.length_map] at hl
    exact ⟨dx, us, h, by rw [zip_fst hl]; exact hn, by rw [zip_snd hl]; exact r.of_d⟩
  · exact ⟨dx, us, h, by rw [zip_fst hl]; exact hn, by rw [zip_snd hl]; exact r⟩
theorem OkF.renO (o : OkF K B T L G σ H env F) {p : Addr} {c c' : OO} (a : AtO K T G H p c) (h : renO ks L c = some c') : AtO K (renT ks T) G H p c' := by
  cases c with
  | p x => cases h; exact a
  | l xs =>
    obtain ⟨us, hp, r⟩ := a
    simp only [FL.renO] at h
    split at h
    · rename_i ys hy; cases h; exact lst_at hp (o.renVs r hy)
    · cases h
  | k xs =>
    obtain ⟨ho, us, hp, hd, r⟩ := a
    simp only [FL.renO] at h
    split at h
    · rename_i ys hy; cases h; exact k_at hp hd (o.renVs r hy)
    · cases h
  | o C xs =>
    obtain ⟨dx, us, hp, m, r⟩ := a
    simp only [FL.renO] at h
    split at h
    · rename_i ys hy; cases h; exact o_at hp m (o.renVs r hy)
    · cases h
theorem ren_back {j : Nat} {p : Addr} {c : OO} (tl : T.length = L.length) (h1 : (renT ks T)[j]? = some p) (h2 : (renL ks L)[j]? = some (.own c)) : ∃ (k : Nat) (c0 : OO), ks[j]? = some k ∧ T[k]? = some p ∧ L[k]? = some (.own c0) ∧ FL.renO ks L c0 = some c := by
  unfold renT at h1
  unfold renL at h2
  rw [List.getElem?_map] at h1 h2
  cases hk : ks[j]? with
  | none => rw [hk] at h1; cases h1
  | some k =>
    rw [hk] at h1 h2
    simp only [Option.map_some, Option.some.injEq] at h1 h2
    unfold renL1 at h2
    split at h2
    · rename_i c0 hc
      split at h2
      · rename_i c1 hr
        cases h2
        have hkT : k < T.length := by rw [tl]; exact (List.getElem?_eq_some_iff.mp hc).1
        have e := List.getElem?_eq_getElem hkT
        rw [e] at h1
        simp only [Option.getD_some] at h1
        exact ⟨k, c0, rfl, by rw [e, h1], hc, hr⟩
      · cases h2
    · cases h2
    · cases h2
theorem ren_fz {j : Nat} {p : Addr} {x : D} (tl : T.length = L.length) (h1 : (renT ks T)[j]? = some p) (h2 : (renL ks L)[j]? = some (.fz x)) : ∃ k : Nat, T[k]? = some p ∧ L[k]? = some (OE.fz x) := by
  unfold renT at h1
  unfold renL at h2
  rw [List.getElem?_map] at h1 h2
  cases hk : ks[j]? with
  | none => rw [hk] at h2; cases h2
  | some k =>
    rw [hk] at h1 h2
    simp only [Option.map_some, Option.some.injEq] at h1 h2
    unfold renL1 at h2
    split at h2
    · split at h2 <;> cases h2
    · rename_i x0 hc
      cases h2
      have hkT : k < T.length := by rw [tl]; exact (List.getElem?_eq_some_iff.mp hc).1
      have e := List.getElem?_eq_getElem hkT
      rw [e] at h1
      simp only [Option.getD_some] at h1
      exact ⟨k, by rw [e, h1], hc⟩
    · cases h2
/-- into another frame with the objects ks -/
theorem OkF.ren' {B' : Fra} {σ' : L2.St} {env' : VEnv} {F' : Hp → Prop} (o : OkF K B T L G σ H env F) (nd : ks.Nodup) (sl : SlV K (renT ks T) (σ' ++ B'.γ) G env') (nl : σ'.length = B'.n)
    (hid : ∀ a u, B'.Z a = some u → H a = some u ∧ G a = none ∧ ∀ k ∈ ks, ∀ c, T[k]? = some a → L[k]? ≠ some (.own c)) (st : Stab F') (f : F' G) : OkF K B' (renT ks T) (renL ks L) G σ' H env' F' := by
  refine ⟨sl, nl, o.sub, by simp [renT, renL], ?_, ?_, ?_, ?_, st, f⟩
  · intro i j p c c' h1 h2 h3 h4
    obtain ⟨k1, c1, a1, a2, a3, _⟩ := ren_back o.tl h1 h3
    obtain ⟨k2, c2, b1, b2, b3, _⟩ := ren_back o.tl h2 h4
    have e := o.inj k1 k2 p c1 c2 a2 b2 a3 b3
    subst e
    obtain ⟨l1, e1⟩ := List.getElem?_eq_some_iff.mp a1
    obtain ⟨l2, e2⟩ := List.getElem?_eq_some_iff.mp b1
    exact (List.getElem_inj nd).mp (e1.trans e2.symm)
  · intro j p e h1 h2
    cases e with
    | own c =>
      obtain ⟨k, c0, _, h3, h4, h5⟩ := ren_back o.tl h1 h2
      exact o.renO (o.own k p _ h3 h4 : AtO K T G H p c0) h5
    | fz x =>
      obtain ⟨k, h3, h4⟩ := ren_fz o.tl h1 h2
      exact o.own k p _ h3 h4
    | gone => trivial
  · intro j p c h1 h2
    obtain ⟨k, c0, _, h3, h4, h5⟩ := ren_back o.tl h1 h2
    exact o.nG k p c0 h3 h4
  · intro a u z
    obtain ⟨h1, h2, h3⟩ := hid a u z
    refine ⟨h1, h2, fun j c a1 a2 => ?_⟩
    obtain ⟨k, c0, hk, h5, h6, _⟩ := ren_back o.tl a1 a2
    exact h3 k (List.mem_of_getElem? hk) c0 h5 h6
theorem OkF.renSl {σ' : L2.St} {env' : VEnv} (o : OkF K B T L G σ H env F) (s : SlV K T σ' G env') : SlV K (renT ks T) σ' G (renE ks L env') := by
  refine ⟨by simp [renE, s.len], fun i x hx => ?_⟩
  unfold renE at hx
  rw [List.getElem?_map] at hx
  cases he : env'[i]? with
  | none => rw [he] at hx; cases hx
  | some s' =>
    rw [he] at hx
    simp only [Option.map_some, Option.some.injEq] at hx
    cases s' with
    | none => cases hx
    | some y =>
      obtain ⟨v, hv, r⟩ := s.get i y he
      exact ⟨v, hv, o.renV r hx⟩
theorem OkF.renSlP {σ' : L2.St} {env' : VEnv} (s : SlV K T σ' G env') : SlV K (renT ks T) σ' G (renP ks env') := by
  refine ⟨by simp [renP, s.len], fun i x hx => ?_⟩
  unfold renP at hx
  rw [List.getElem?_map] at hx
  cases he : env'[i]? with
  | none => rw [he] at hx; cases hx
  | some s' =>
    rw [he] at hx
    simp only [Option.map_some, Option.some.injEq] at hx
    unfold renP1 at hx
    split at hx
    · rename_i k
      split at hx
      · rename_i j hj
        cases hx
        obtain ⟨v, hv, r⟩ := s.get i _ he
        cases r with
        | h hk => exact ⟨_, hv, .h (renT_get (idx_get hj) hk)⟩
      · cases hx
    · cases hx
theorem renN_len : ∀ (n : Nat) (env : VEnv), (renN ks L n env).length = env.length
  | 0, env => by simp [renN, renP]
  | n + 1, [] => rfl
  | n + 1, s :: r => by simp only [renN, List.length_cons, renN_len n r]
theorem renN_get : ∀ (n : Nat) (env : VEnv) (i : Nat), (renN ks L n env)[i]? = (renE ks L env)[i]? ∨ (renN ks L n env)[i]? = (renP ks env)[i]?
  | 0, env, i => .inr rfl
  | n + 1, [], i => .inl rfl
  | n + 1, s :: r, 0 => .inl rfl
  | n + 1, s :: r, i + 1 => by
    have := renN_get n r i
    simpa [renN, renE, renP] using this
theorem OkF.renSlN {σ' : L2.St} {env' : VEnv} (o : OkF K B T L G σ H env F) (n : Nat) (s : SlV K T σ' G env') : SlV K (renT ks T) σ' G (renN ks L n env') := by
  refine ⟨by rw [renN_len, s.len], fun i x hx => ?_⟩
  rcases renN_get (ks := ks) (L := L) n env' i with e | e
  · exact (o.renSl s).get i x (e ▸ hx)
  · exact (OkF.renSlP s).get i x (e ▸ hx)
theorem OkF.ren (o : OkF K B T L G σ H env F) (nd : ks.Nodup) : OkF K B (renT ks T) (renL ks L) G σ H (renE ks L env) F :=
  o.ren' nd (o.renSl o.sl) o.nl (fun a u z => let ⟨h1, h2, h3⟩ := o.hid a u z; ⟨h1, h2, fun k _ c => h3 k c⟩) o.st o.f
/-- numbered anew -/
def cmL (n : Nat) (L : OL) (env : VEnv) : OL := renL (keysOf n L env) L
def cmE (n : Nat) (L : OL) (env : VEnv) : VEnv := renN (keysOf n L env) L n env
theorem OkF.cm (o : OkF K B T L G σ H env F) (n : Nat) : ∃ T', OkF K B T' (cmL n L env) G σ H (cmE n L env) F := ⟨_, o.ren' keysOf_nodup (o.renSlN n o.sl) o.nl (fun a u z => let ⟨h1, h2, h3⟩ := o.hid a u z; ⟨h1, h2, fun k _ c => h3 k c⟩) o.st o.f⟩
end
end FL

set_option Elab.async false
set_option linter.all false
set_option maxRecDepth 100000
set_option maxHeartbeats 4000000
namespace FL
open PySem PySem.Spec PyProof.Rows L2
/-! ### what expressions come to -/
structure XD where
  C : Str
  fs : List (Str × D)
def XRep (K : KW) (G H : Hp) (cls : Value) (d : Option Addr) (x : XD) : Prop :=
  cls = .ref (ga K x.C) ∧ match d with
    | none => x.fs = []
    | some dx => ∃ us : List (Str × V), H dx = some (exd dx us) ∧ x.fs.map (·.1) = us.map (·.1) ∧ Reps K G (us.map (·.2)) (x.fs.map (·.2))
inductive Out (α : Type) where
  | val (L : OL) (a : α) | exc (L : OL) (x : XD)
abbrev Mo (α : Type) := Option (Out α)
def bnd {α β : Type} (m : Mo α) (k : OL → α → Mo β) : Mo β := match m with
  | some (.val L a) => k L a
  | some (.exc L x) => some (.exc L x)
  | none => none
def opt {α : Type} (L : OL) (o : Option α) : Mo α := match o with
  | some a => some (.val L a)
  | none => none
/-- by a truth value -/
def br {α : Type} (b : Bool) (x y : Option α) : Option α := match b with
  | true => x
  | false => y
def post {α : Type} (m : Mo α) (Q : OL → α → Prop) (Ex : OL → XD → Prop) : Prop := match m with
  | some (.val L a) => Q L a
  | some (.exc L x) => Ex L x
  | none => False
theorem post_bnd {α β : Type} {m : Mo α} {k : OL → α → Mo β} {Q : OL → β → Prop} {Ex : OL → XD → Prop} (h : post (bnd m k) Q Ex) : post m (fun L a => post (k L a) Q Ex) Ex := by
  cases m with
  | none => exact h
  | some o => cases o <;> exact h
theorem post_opt {α : Type} {L : OL} {o : Option α} {Q : OL → α → Prop} {Ex : OL → XD → Prop} (h : post (opt L o) Q Ex) : ∃ a, o = some a ∧ Q L a := by
  cases o with
  | none => exact h.elim
  | some a => exact ⟨a, rfl, h⟩
theorem post_bopt {α β : Type} {L : OL} {o : Option α} {k : OL → α → Mo β} {Q : OL → β → Prop} {Ex : OL → XD → Prop} (h : post (bnd (opt L o) k) Q Ex) : ∃ a, o = some a ∧ post (k L a) Q Ex := post_opt (post_bnd h)
abbrev Ev := OL → VEnv → Mo DV
abbrev Et := OL → VEnv → Mo Bool
abbrev Ea := OL → VEnv → Mo (List DV)
abbrev QV := OL → DV → Prop
abbrev QB := OL → Bool → Prop
abbrev QA := OL → List DV → Prop
abbrev XQ := OL → XD → Prop
def mE (X : Cx) (e : Expr) : TE := fun σ H R => ∀ pins s, Inv X pins σ H s → wpAny (model X.prog X.w) X.A (eval e X.env) (EP X pins σ R) X.xe s
def mT (X : Cx) (e : Expr) : TT := fun σ H R => ∀ pins s, Inv X pins σ H s → wpAny (model X.prog X.w) X.A (isTrue e X.env (eval e X.env)) (TP X pins σ R) X.xe s
def mW (X : Cx) (e : Expr) : TT := fun σ H R => ∀ whole pins s, Inv X pins σ H s → wpAny (model X.prog X.w) X.A (isTrue e X.env whole) (TP X pins σ R) X.xe s
def mA (X : Cx) (es : List Expr) : TA := fun σ H R => ∀ pos pins s, Inv X pins σ H s → wpAny (model X.prog X.w) X.A (spliced (backTo pos (starEach es X.env))) (AP X pins σ R) X.xe s
section
variable {X : Cx} {e : Expr} {es : List Expr} {σ : L2.St} {H : Hp}
theorem pe_max : PE X e (mE X e) := ⟨fun pins s σ H Q I h => h pins s I⟩
theorem pt_max : PT X e (mT X e) := ⟨fun pins s σ H Q I h => h pins s I⟩
theorem pw_max : PW X e (mW X e) := ⟨fun wh pins s σ H Q I h => h wh pins s I⟩
theorem pa_max : PA X es (mA X es) := ⟨fun pos pins s σ H Q I h => h pos pins s I⟩
theorem mE_of {t : TE} {R : VK} (p : PE X e t) (h : t σ H R) : mE X e σ H R := fun pins s I => p.run pins s σ H R I h
theorem mT_of {t : TT} {R : Bool → Hp → Prop} (p : PT X e t) (h : t σ H R) : mT X e σ H R := fun pins s I => p.run pins s σ H R I h
theorem mW_of {t : TT} {R : Bool → Hp → Prop} (p : PW X e t) (h : t σ H R) : mW X e σ H R := fun wh pins s I => p.run wh pins s σ H R I h
theorem mA_of {t : TA} {R : List V → Hp → Prop} (p : PA X es t) (h : t σ H R) : mA X es σ H R := fun pos pins s I => p.run pos pins s σ H R I h
end
section
variable (K : KW) (B : Fra) (T : Tb) (σ : L2.St) (env : VEnv) (F : Hp → Prop)
def Nrm (Q : QV) (R : VK) : Prop := ∀ T' L' G' H' v x, Q L' x → T <+: T' → OkF K B T' L' G' σ H' env (fun G => F G ∧ DRep K T' G v x) → R v H'
def NrmB (Q : QB) (R : Bool → Hp → Prop) : Prop := ∀ T' L' G' H' b, Q L' b → T <+: T' → OkF K B T' L' G' σ H' env F → R b H'
def NrmA (Q : QA) (R : List V → Hp → Prop) : Prop := ∀ T' L' G' H' vs xs, Q L' xs → T <+: T' → OkF K B T' L' G' σ H' env (fun G => F G ∧ DReps K T' G vs xs) → R vs H'
def Xc (Ex : XQ) (W : WX) : Prop := ∀ T' L' G' H' cls d x, Ex L' x → T <+: T' → OkF K B T' L' G' σ H' env F → XRep K G' H' cls d x → W cls d σ H'
end
section
variable {K : KW} {B : Fra} {T T' : Tb} {σ : L2.St} {env : VEnv} {F P : Hp → Prop} {Ex : XQ} {W : WX} {Q : QV} {QB' : QB} {R : VK} {RB : Bool → Hp → Prop}
theorem Xc.more (h : Xc K B T σ env F Ex W) (t : T <+: T') (s : Stab F) : Xc K B T' σ env (fun G => F G ∧ P G) Ex W :=
  fun T2 L' G' H' cls d x hx t2 o r => h T2 L' G' H' cls d x hx (t.trans t2) (o.drop s) r
theorem Xc.on (h : Xc K B T σ env F Ex W) (t : T <+: T') : Xc K B T' σ env F Ex W :=
  fun T2 L' G' H' cls d x hx t2 o r => h T2 L' G' H' cls d x hx (t.trans t2) o r
theorem Nrm.on (n : Nrm K B T σ env F Q R) (t : T <+: T') : Nrm K B T' σ env F Q R := fun T2 L' G' H' v x q t2 o => n T2 L' G' H' v x q (t.trans t2) o
theorem NrmB.on (n : NrmB K B T σ env F QB' RB) (t : T <+: T') : NrmB K B T' σ env F QB' RB := fun T2 L' G' H' v q t2 o => n T2 L' G' H' v q (t.trans t2) o
end
/-- what holds of the run of e -/
structure RE (X : Cx) (e : Expr) (ev : Ev) : Prop where
  ok : ∀ {L env Q Ex}, post (ev L env) Q Ex → ∀ {W B T G σ H R F}, B.n = X.N.length → Takes X W → OkF (kw X) B T L G σ H env F → Nrm (kw X) B T σ env F Q R → Xc (kw X) B T σ env F Ex W → mE X e σ H R
structure RT (X : Cx) (e : Expr) (ev : Et) : Prop where
  ok : ∀ {L env Q Ex}, post (ev L env) Q Ex → ∀ {W B T G σ H R F}, B.n = X.N.length → Takes X W → OkF (kw X) B T L G σ H env F → NrmB (kw X) B T σ env F Q R → Xc (kw X) B T σ env F Ex W → mT X e σ H R
structure RW (X : Cx) (e : Expr) (ev : Et) : Prop where
  ok : ∀ {L env Q Ex}, post (ev L env) Q Ex → ∀ {W B T G σ H R F}, B.n = X.N.length → Takes X W → OkF (kw X) B T L G σ H env F → NrmB (kw X) B T σ env F Q R → Xc (kw X) B T σ env F Ex W → mW X e σ H R
structure RA (X : Cx) (es : List Expr) (ev : Ea) : Prop where
  ok : ∀ {L env Q Ex}, post (ev L env) Q Ex → ∀ {W B T G σ H R F}, B.n = X.N.length → Takes X W → OkF (kw X) B T L G σ H env F → NrmA (kw X) B T σ env F Q R → Xc (kw X) B T σ env F Ex W → mA X es σ H R
def slot : VEnv → Nat → Option DV
  | [], _ => none
  | x :: _, 0 => x
  | _ :: xs, n + 1 => slot xs n
theorem slot_get : ∀ {env : VEnv} {i : Nat} {x : DV}, slot env i = some x → env[i]? = some (some x)
  | [], _, _, h => by cases h
  | a :: _, 0, x, h => by have h : a = some x := h; subst h; rfl
  | _ :: xs, n + 1, x, h => by
    have := slot_get (env := xs) (i := n) h
    simpa using this
def boolOf : DV → Option Bool
  | .d (.bl b) => some b
  | _ => none
/-- the outcome of an operation on data -/
inductive Res where
  | val (d : D) | tup (ds : List D) | lst (ds : List D) | dct (kvs : List (D × D))
def FinR (K : KW) (G H : Hp) : Res → VK → Prop
  | .val d, R => ∀ v, Rep K G v d → R v H
  | .tup ds, R => (∀ v, Rep K G v (.tup ds) → R v H) ∧ ∀ p vs, H p = none → Reps K G vs ds → R (.ref p) (upd H p (.tup vs))
  | .lst ds, R => ∀ p vs, H p = none → Reps K G vs ds → R (.ref p) (upd H p (.lst vs))
  | .dct kvs, R => ∀ p o us, H p = none → DctIs K G p o (kvs.map (·.1)) us → Reps K G us (kvs.map (·.2)) → R (.ref p) (upd H p o)
def fin (L : OL) (r : Option Res) : Mo DV := match r with
  | some (.val d) => some (.val L (.d d))
  | some (.tup ds) => some (.val L (.d (.tup ds)))
  | some (.lst ds) => some (.val (L ++ [.own (.p (.lst ds))]) (.h L.length))
  | some (.dct kvs) => some (.val (L ++ [.own (.p (.dct kvs))]) (.h L.length))
  | none => none
section
variable {K : KW} {B : Fra} {T : Tb} {L : OL} {G : Hp} {σ : L2.St} {H : Hp} {env : VEnv} {F : Hp → Prop} {Q : QV} {R : VK} {Ex : XQ}
theorem OkF.hnd (o : OkF K B T L G σ H env F) {p : Addr} : (T ++ [p])[L.length]? = some p := by
  rw [← o.tl]; simp
theorem Nrm.d (n : Nrm K B T σ env F Q R) (o : OkF K B T L G σ H env F) {v : V} {d : D} (q : Q L (.d d)) (r : Rep K G v d) : R v H :=
  n T L G H v (.d d) q (List.prefix_refl _) (o.push (stab_drep _ _) (.d r))
theorem Nrm.own (n : Nrm K B T σ env F Q R) (o : OkF K B T L G σ H env F) {p : Addr} {c : OO} {h : HO} (hp : H p = none) (q : Q (L ++ [.own c]) (.h L.length)) (a : AtO K T G (upd H p h) p c) : R (.ref p) (upd H p h) :=
  n (T ++ [p]) (L ++ [.own c]) G _ (.ref p) (.h L.length) q (List.prefix_append _ _) ((o.alloc hp a).push (stab_drep _ _) (.h o.hnd))
theorem fin_ok {o : Option Res} (k : OkF K B T L G σ H env F) (h : post (fin L o) Q Ex) (n : Nrm K B T σ env F Q R) : ∃ res, o = some res ∧ FinR K G H res R := by
  cases o with
  | none => exact h.elim
  | some res =>
    refine ⟨res, rfl, ?_⟩
    cases res with
    | val d => exact fun v r => n.d k h r
    | tup ds =>
      refine ⟨fun v r => n.d k h r, fun p vs hp r => ?_⟩
      have o1 := k.new (o := .tup vs) hp
      exact n T L _ _ (.ref p) (.d (.tup ds)) h (List.prefix_refl _) (o1.push (stab_drep _ _) (.d (.tup (SqT.of upd_same) (r.mono (same_new (sm_free k.sub hp))))))
    | lst ds => exact fun p vs hp r => n.own k hp h ⟨vs, upd_same, r⟩
    | dct ds => exact fun p o us hp m r => n.own k hp h ⟨o, us, upd_same, m, r⟩
end
section
variable {X : Cx} {e ea eb ec : Expr} {es rest : List Expr} {pos : Pos} {fa fb fc : Ev} {ta tb : Et} {as bs : Ea}
def eVar (i : Nat) : Ev := fun L env => opt L (slot env i)
theorem re_var {i : Nat} {x : Str} (p : PE X e (tVar i)) (hi : X.N[i]? = some x) : RE X e (eVar i) := ⟨fun {L env Q Ex} h {W B T G σ H R F} hn tk o n xc => by
  obtain ⟨x, hx, q⟩ := post_opt h
  obtain ⟨v, hv, r⟩ := o.get (by rw [hn]; exact (List.getElem?_eq_some_iff.mp hi).1) (slot_get hx)
  exact mE_of p ⟨v, hv, n T L G H v x q (List.prefix_refl _) (o.push (stab_drep _ _) r)⟩⟩
def eCst (d : D) : Ev := fun L _ => some (.val L (.d d))
theorem re_cst {v : V} {d : D} (p : PE X e (tC v)) (r : ∀ G, Rep (kw X) G v d) : RE X e (eCst d) := ⟨fun {L env Q Ex} h {W B T G σ H R F} hn tk o n xc => mE_of p (n.d o h (r G))⟩
theorem re_int {i : Int} {j : Nat} : RE X (.Constant (.int i) j pos) (eCst (.int i)) := re_cst pe_int fun _ => .int i
theorem re_str {i : Str} {j : Nat} : RE X (.Constant (.str i) j pos) (eCst (.str i)) := re_cst pe_str fun _ => .str i
theorem re_bl {i : Bool} {j : Nat} : RE X (.Constant (.bool i) j pos) (eCst (.bl i)) := re_cst pe_bl fun _ => .bl i
theorem re_non {j : Nat} : RE X (.Constant .none j pos) (eCst .non) := re_cst pe_non fun _ => .non
/-! ### operators -/
def mOp (X : Cx) (f : Value → Value → Sem Value) : R2 := fun x y H R => ∀ pins s σ v u, Inv X pins σ H s → RelV x v → RelV y u → wpAny (model X.prog X.w) X.A (f v u) (EP X pins σ R) X.xe s
theorem op_max {f : Value → Value → Sem Value} : OpR X f (mOp X f) := fun pins s σ H x y v u Q I rx ry h => h pins s σ v u I rx ry
theorem mOp_of {f : Value → Value → Sem Value} {r : R2} (o : OpR X f r) {x y : V} {H : Hp} {R : VK} (h : r x y H R) : mOp X f x y H R := fun pins s σ v u I rx ry => o pins s σ H x y v u R I rx ry h
def OpV (X : Cx) (f : Value → Value → Sem Value) (fn : D → D → Option Res) : Prop :=
  ∀ {G H x y a b res R}, View (kw X) G H x a → View (kw X) G H y b → Sm G H → fn a b = some res → FinR (kw X) G H res R → mOp X f x y H R
def app2 {α β γ : Type} (f : α → β → Option γ) : Option α → Option β → Option γ
  | some a, some b => f a b
  | _, _ => none
theorem app2_some {α β γ : Type} {f : α → β → Option γ} {o : Option α} {u : Option β} {c : γ} (h : app2 f o u = some c) : ∃ a b, o = some a ∧ u = some b ∧ f a b = some c := by
  cases o <;> cases u <;> first | (cases h; done) | exact ⟨_, _, rfl, rfl, h⟩
def eOp (fn : D → D → Option Res) (a b : Ev) : Ev := fun L env => bnd (a L env) fun L1 x => bnd (b L1 env) fun L2 y => fin L2 (app2 fn (see L2 x) (see L2 y))
theorem ok2 {f : Value → Value → Sem Value} {fn : D → D → Option Res} (op : OpV X f fn) (a : RE X ea fa) (b : RE X eb fb) {L : OL} {env : VEnv} {Q : QV} {Ex : XQ} (h : post (eOp fn fa fb L env) Q Ex) {W : WX} {B : Fra} {T : Tb} {G : Hp} {σ : L2.St} {H : Hp} {R : VK} {F : Hp → Prop} (hn : B.n = X.N.length) (tk : Takes X W) (o : OkF (kw X) B T L G σ H env F) (n : Nrm (kw X) B T σ env F Q R) (xc : Xc (kw X) B T σ env F Ex W) :
    tOp (mOp X f) (mE X ea) (mE X eb) σ H R :=
  a.ok (post_bnd h) hn tk o (fun T1 L1 G1 H1 v x q1 t1 o1 => b.ok (post_bnd q1) hn tk o1 (fun T2 L2 G2 H2 u y q2 t2 o2 => by
    have o3 := o2.as o.st o2.f.1.1
    have rx := (o2.f.1.2 : DRep (kw X) T1 G2 v x).mono (Sm.refl _) t2
    have ry := (o2.f.2 : DRep (kw X) T2 G2 u y)
    obtain ⟨res, hr, q⟩ := fin_ok o3 q2 (n.on (t1.trans t2))
    obtain ⟨a, b, ha, hb, hr⟩ := app2_some hr
    exact op (o3.see rx ha) (o3.see ry hb) o3.sub hr q) (xc.more t1 o.st)) xc
theorem re_op {op : Operator} {fn : D → D → Option Res} (f : OpV X (binaryOp op) fn) (a : RE X ea fa) (b : RE X eb fb) : RE X (.BinOp ea op eb pos) (eOp fn fa fb) :=
  ⟨fun h _ _ _ _ _ _ _ _ hn tk o n xc => mE_of (pe_op op_max pe_max pe_max) (ok2 f a b h hn tk o n xc)⟩
theorem re_cmp {op : CmpOp} {fn : D → D → Option Res} (f : OpV X (compareOp op) fn) (a : RE X ea fa) (b : RE X eb fb) (hm : behindInMarks op eb = false := by rfl) : RE X (.Compare ea [op] [eb] pos) (eOp fn fa fb) :=
  ⟨fun h _ _ _ _ _ _ _ _ hn tk o n xc => mE_of (pe_cmpR op_max pe_max pe_max hm) (ok2 f a b h hn tk o n xc)⟩
/-! ### and, or, not, if -/
theorem bool_of {K : KW} {T : Tb} {G : Hp} {v : V} {x : DV} {b : Bool} (r : DRep K T G v x) (h : boolOf x = some b) : v = .bl b := by
  cases r with
  | d r =>
    cases r <;> first | (cases h; rfl) | cases h
  | h => cases h
def eAnd (a b : Ev) : Ev := fun L env => bnd (a L env) fun L1 x => bnd (opt L1 (boolOf x)) fun L1 c => br c (b L1 env) (some (.val L1 (.d (.bl false))))
def eOr (a b : Ev) : Ev := fun L env => bnd (a L env) fun L1 x => bnd (opt L1 (boolOf x)) fun L1 c => br c (some (.val L1 (.d (.bl true)))) (b L1 env)
def eNot (a : Ev) : Ev := fun L env => bnd (a L env) fun L1 x => bnd (opt L1 (boolOf x)) fun L1 c => some (.val L1 (.d (.bl (!c))))
def eIf (c : Et) (a b : Ev) : Ev := fun L env => bnd (c L env) fun L1 k => br k (a L1 env) (b L1 env)
theorem re_and (a : RE X ea fa) (b : RE X (.BoolOp .And (eb :: rest) pos) fb) : RE X (.BoolOp .And (ea :: eb :: rest) pos) (eAnd fa fb) :=
  ⟨fun {L env Q Ex} h {W B T G σ H R F} hn tk o n xc => mE_of (pe_and pe_max pe_max) (a.ok (post_bnd h) hn tk o (fun T1 L1 G1 H1 v x q t1 o1 => by
    obtain ⟨c, hc, q⟩ := post_bopt q
    refine ⟨c, bool_of o1.f.2 hc, ?_⟩
    cases c with
    | true => exact b.ok q hn tk (o1.drop o.st) (n.on t1) (xc.on t1)
    | false => exact (n.on t1).d (o1.drop o.st) q (.bl _)) xc)⟩
theorem re_or (a : RE X ea fa) (b : RE X (.BoolOp .Or (eb :: rest) pos) fb) : RE X (.BoolOp .Or (ea :: eb :: rest) pos) (eOr fa fb) :=
  ⟨fun {L env Q Ex} h {W B T G σ H R F} hn tk o n xc => mE_of (pe_or pe_max pe_max) (a.ok (post_bnd h) hn tk o (fun T1 L1 G1 H1 v x q t1 o1 => by
    obtain ⟨c, hc, q⟩ := post_bopt q
    refine ⟨c, bool_of o1.f.2 hc, ?_⟩
    cases c with
    | true => exact (n.on t1).d (o1.drop o.st) q (.bl _)
    | false => exact b.ok q hn tk (o1.drop o.st) (n.on t1) (xc.on t1)) xc)⟩
theorem re_one {op : BoolOp} (a : RE X ea fa) : RE X (.BoolOp op [ea] pos) fa :=
  ⟨fun h _ _ _ _ _ _ _ _ hn tk o n xc => mE_of (pe_one pe_max) (a.ok h hn tk o n xc)⟩
theorem re_not (a : RE X ea fa) : RE X (.UnaryOp .Not ea pos) (eNot fa) :=
  ⟨fun {L env Q Ex} h {W B T G σ H R F} hn tk o n xc => mE_of (pe_not pe_max) (a.ok (post_bnd h) hn tk o (fun T1 L1 G1 H1 v x q t1 o1 => by
    obtain ⟨c, hc, q⟩ := post_bopt q
    exact ⟨c, bool_of o1.f.2 hc, (n.on t1).d (o1.drop o.st) q (.bl _)⟩) xc)⟩
theorem re_if {tc : Et} (c : RT X ec tc) (a : RE X ea fa) (b : RE X eb fb) : RE X (.IfExp ec ea eb pos) (eIf tc fa fb) :=
  ⟨fun {L env Q Ex} h {W B T G σ H R F} hn tk o n xc => mE_of (pe_ifExp pt_max pe_max pe_max) (c.ok (post_bnd h) hn tk o (fun T1 L1 G1 H1 k q t1 o1 => by
    cases k with
    | true => exact a.ok q hn tk o1 (n.on t1) (xc.on t1)
    | false => exact b.ok q hn tk o1 (n.on t1) (xc.on t1)) xc)⟩
/-! ### tests -/
def tVal (a : Ev) : Et := fun L env => bnd (a L env) fun L1 x => opt L1 (boolOf x)
def tNot (a : Et) : Et := fun L env => bnd (a L env) fun L1 c => some (.val L1 (!c))
def tAnd (a b : Et) : Et := fun L env => bnd (a L env) fun L1 c => br c (b L1 env) (some (.val L1 false))
def tOr (a b : Et) : Et := fun L env => bnd (a L env) fun L1 c => br c (some (.val L1 true)) (b L1 env)
theorem rt_val (a : RE X ea fa) (he : ∀ whole, isTrue ea X.env whole = (do let v ← whole; standAt ea.pos; holding [v] (truthy v)) := by intro _; rfl) : RT X ea (tVal fa) :=
  ⟨fun {L env Q Ex} h {W B T G σ H R F} hn tk o n xc => mT_of (pt_val pe_max he) (a.ok (post_bnd h) hn tk o (fun T1 L1 G1 H1 v x q t1 o1 => by
    obtain ⟨c, hc, q⟩ := post_opt q
    exact ⟨c, bool_of o1.f.2 hc, n T1 L1 G1 H1 c q t1 (o1.drop o.st)⟩) xc)⟩
theorem rt_cmp {op : CmpOp} {fn : D → D → Option Res} (f : OpV X (compareOp op) fn) (a : RE X ea fa) (b : RE X eb fb) (hm : behindInMarks op eb = false := by rfl) : RT X (.Compare ea [op] [eb] pos) (tVal (eOp fn fa fb)) :=
  ⟨fun {L env Q Ex} h {W B T G σ H R F} hn tk o n xc => mT_of (pt_cmpR op_max pe_max pe_max hm) (ok2 f a b (post_bnd h) hn tk o (fun T1 L1 G1 H1 v x q t1 o1 => by
    obtain ⟨c, hc, q⟩ := post_opt q
    exact ⟨c, bool_of o1.f.2 hc, n T1 L1 G1 H1 c q t1 (o1.drop o.st)⟩) xc)⟩
theorem rt_not (a : RT X ea ta) : RT X (.UnaryOp .Not ea pos) (tNot ta) :=
  ⟨fun {L env Q Ex} h {W B T G σ H R F} hn tk o n xc => mT_of (pt_not pt_max) (a.ok (post_bnd h) hn tk o (fun T1 L1 G1 H1 c q t1 o1 => n T1 L1 G1 H1 (!c) q t1 o1) xc)⟩
theorem rw_and1 (a : RT X ea ta) : RW X (.BoolOp .And [ea] pos) ta := ⟨fun h _ _ _ _ _ _ _ _ hn tk o n xc => mW_of (pw_and1 pt_max) (a.ok h hn tk o n xc)⟩
theorem rw_or1 (a : RT X ea ta) : RW X (.BoolOp .Or [ea] pos) ta := ⟨fun h _ _ _ _ _ _ _ _ hn tk o n xc => mW_of (pw_or1 pt_max) (a.ok h hn tk o n xc)⟩
theorem rw_and (a : RT X ea ta) (b : RW X (.BoolOp .And (eb :: rest) pos) tb) : RW X (.BoolOp .And (ea :: eb :: rest) pos) (tAnd ta tb) :=
  ⟨fun {L env Q Ex} h {W B T G σ H R F} hn tk o n xc => mW_of (pw_and pt_max pw_max) (a.ok (post_bnd h) hn tk o (fun T1 L1 G1 H1 c q t1 o1 => by
    cases c with
    | true => exact b.ok q hn tk o1 (n.on t1) (xc.on t1)
    | false => exact n T1 L1 G1 H1 false q t1 o1) xc)⟩
theorem rw_or (a : RT X ea ta) (b : RW X (.BoolOp .Or (eb :: rest) pos) tb) : RW X (.BoolOp .Or (ea :: eb :: rest) pos) (tOr ta tb) :=
  ⟨fun {L env Q Ex} h {W B T G σ H R F} hn tk o n xc => mW_of (pw_or pt_max pw_max) (a.ok (post_bnd h) hn tk o (fun T1 L1 G1 H1 c q t1 o1 => by
    cases c with
    | true => exact n T1 L1 G1 H1 true q t1 o1
    | false => exact b.ok q hn tk o1 (n.on t1) (xc.on t1)) xc)⟩
theorem rt_w (a : RW X ea ta) : RT X ea ta := ⟨fun h _ _ _ _ _ _ _ _ hn tk o n xc pins s I => a.ok h hn tk o n xc _ pins s I⟩
/-! ### arguments, displays -/
def aNil : Ea := fun L _ => some (.val L [])
def aCons (a : Ev) (b : Ea) : Ea := fun L env => bnd (a L env) fun L1 x => bnd (b L1 env) fun L2 xs => some (.val L2 (x :: xs))
theorem ra_nil : RA X [] aNil := ⟨fun {L env Q Ex} h {W B T G σ H R F} hn tk o n xc => mA_of pa_nil (n T L G H [] [] h (List.prefix_refl _) (o.push (stab_dreps _ _) .nil))⟩
theorem ra_cons (a : RE X ea fa) (b : RA X es bs) (hs : starEach (ea :: es) X.env = (false, eval ea X.env) :: starEach es X.env := by rfl) : RA X (ea :: es) (aCons fa bs) :=
  ⟨fun {L env Q Ex} h {W B T G σ H R F} hn tk o n xc => mA_of (pa_cons pe_max pa_max hs) (a.ok (post_bnd h) hn tk o (fun T1 L1 G1 H1 v x q1 t1 o1 =>
    b.ok (post_bnd q1) hn tk o1 (fun T2 L2 G2 H2 vs xs q2 t2 o2 =>
      n T2 L2 G2 H2 (v :: vs) (x :: xs) q2 (t1.trans t2) (o2.as (stab_and o.st (stab_dreps _ _)) ⟨o2.f.1.1, .cons ((o2.f.1.2 : DRep (kw X) T1 G2 v x).mono (Sm.refl _) t2) o2.f.2⟩)) (xc.more t1 o.st)) xc)⟩
/-- all become plain -/
def Fzs (L : OL) (xs : List DV) : Mo (List D) := match frzs (frz 8) L xs with
  | some (L2, ds) => some (.val L2 ds)
  | none => none
def Fz (L : OL) (x : DV) : Mo D := match frz 8 L x with
  | some (L2, d) => some (.val L2 d)
  | none => none
theorem post_fzs {L : OL} {xs : List DV} {Q : OL → List D → Prop} {Ex : XQ} (h : post (Fzs L xs) Q Ex) : ∃ L2 ds, frzs (frz 8) L xs = some (L2, ds) ∧ Q L2 ds := by
  unfold Fzs at h
  cases e : frzs (frz 8) L xs with
  | none => rw [e] at h; exact h.elim
  | some r => rw [e] at h; exact ⟨r.1, r.2, rfl, h⟩
theorem post_fz {L : OL} {x : DV} {Q : OL → D → Prop} {Ex : XQ} (h : post (Fz L x) Q Ex) : ∃ L2 d, frz 8 L x = some (L2, d) ∧ Q L2 d := by
  unfold Fz at h
  cases e : frz 8 L x with
  | none => rw [e] at h; exact h.elim
  | some r => rw [e] at h; exact ⟨r.1, r.2, rfl, h⟩
theorem OkF.fzs {K : KW} {B : Fra} {T : Tb} {L L9 : OL} {G : Hp} {σ : L2.St} {H : Hp} {env : VEnv} {F : Hp → Prop} {xs : List DV} {ds : List D} (o : OkF K B T L G σ H env F) (h : frzs (frz 8) L xs = some (L9, ds)) : ∃ G', Sm G G' ∧ OkF K B T L9 G' σ H env F ∧ ∀ vs, DReps K T G vs xs → Reps K G' vs ds :=
  frzs_ok (fun L G x L' d k h => frz_ok 8 L G x L' d k h) xs L G L9 ds o h
theorem OkF.fz {K : KW} {B : Fra} {T : Tb} {L L9 : OL} {G : Hp} {σ : L2.St} {H : Hp} {env : VEnv} {F : Hp → Prop} {x : DV} {d : D} (o : OkF K B T L G σ H env F) (h : frz 8 L x = some (L9, d)) : ∃ G', Sm G G' ∧ OkF K B T L9 G' σ H env F ∧ ∀ v, DRep K T G v x → Rep K G' v d := frz_ok 8 L G x L9 d o h
/-- a size in bounds -/
def szB (n : Nat) : Bool := Nat.ble n 16000000
theorem szB_le {n : Nat} (h : szB n = true) : n ≤ sizeLine := Nat.le_trans (Nat.le_of_ble_eq_true h) (by decide)
theorem szB_lt {n : Nat} (h : szB n = true) : n < sizeLine := Nat.lt_of_le_of_lt (Nat.le_of_ble_eq_true h) (by decide)
def eTup (a : Ea) : Ev := fun L env => bnd (a L env) fun L1 xs => bnd (Fzs L1 xs) fun L2 ds => br (szB ds.length) (some (.val L2 (.d (.tup ds)))) none
def eLst (a : Ea) : Ev := fun L env => bnd (a L env) fun L1 xs => br (szB xs.length) (some (.val (L1 ++ [.own (lstOO xs)]) (.h L1.length))) none
theorem post_br {α : Type} {b : Bool} {m : Mo α} {Q : OL → α → Prop} {Ex : XQ} (h : post (br b m none) Q Ex) : b = true ∧ post m Q Ex := by
  cases b with
  | true => exact ⟨rfl, h⟩
  | false => exact h.elim
theorem re_tup {x1} (a : RA X es as) : RE X (.Tuple es x1 pos) (eTup as) :=
  ⟨fun {L env Q Ex} h {W B T G σ H R F} hn tk o n xc => mE_of (pe_tup pa_max) (a.ok (post_bnd h) hn tk o (fun T1 L1 G1 H1 vs xs q t1 o1 => by
    obtain ⟨L2, ds, hf, q⟩ := post_fzs (post_bnd q)
    obtain ⟨hl, q⟩ := post_br q
    obtain ⟨G2, s2, o2, r2⟩ := (o1.drop o.st).fzs hf
    have r := r2 vs o1.f.2
    refine ⟨by rw [r.length]; exact szB_le hl, fun p hp => ?_⟩
    have o3 := o2.new (o := .tup vs) hp
    exact n T1 L2 _ _ (.ref p) (.d (.tup ds)) q t1 (o3.push (stab_drep _ _) (.d (.tup (SqT.of upd_same) (r.mono (same_new (sm_free o2.sub hp))))))) xc)⟩
theorem re_lst (a : RA X es as) : RE X (.List es pos) (eLst as) :=
  ⟨fun {L env Q Ex} h {W B T G σ H R F} hn tk o n xc => mE_of (pe_lst pa_max) (a.ok (post_bnd h) hn tk o (fun T1 L1 G1 H1 vs xs q t1 o1 => by
    obtain ⟨hl, q⟩ := post_br q
    refine ⟨by rw [(o1.f.2 : DReps (kw X) T1 G1 vs xs).length]; exact szB_le hl, fun p hp => ?_⟩
    exact (n.on t1).own (o1.drop o.st) hp q (lst_at upd_same o1.f.2)) xc)⟩
end
end FL

set_option Elab.async false
set_option linter.all false
set_option maxRecDepth 100000
set_option maxHeartbeats 4000000
namespace FL
open PySem PySem.Spec PyProof.Rows L2
/-! ### statements -/
inductive So where
  | nx (L : OL) (env : VEnv) | rt (L : OL) (x : DV) (env : VEnv) | bk (L : OL) (env : VEnv) | ct (L : OL) (env : VEnv) | ex (L : OL) (env : VEnv) (x : XD)
abbrev Sv := OL → VEnv → Option So
structure ZV where
  nx : OL → VEnv → Prop
  rt : OL → DV → VEnv → Prop
  bk : OL → VEnv → Prop
  ct : OL → VEnv → Prop
  ex : OL → VEnv → XD → Prop
def spost (o : Option So) (Z : ZV) : Prop := match o with
  | some (.nx L e) => Z.nx L e
  | some (.rt L x e) => Z.rt L x e
  | some (.bk L e) => Z.bk L e
  | some (.ct L e) => Z.ct L e
  | some (.ex L e x) => Z.ex L e x
  | none => False
/-- an expression, then more of a statement -/
def sb {α : Type} (env : VEnv) (m : Mo α) (k : OL → α → Option So) : Option So := match m with
  | some (.val L a) => k L a
  | some (.exc L x) => some (.ex L env x)
  | none => none
theorem post_sb {α : Type} {env : VEnv} {m : Mo α} {k : OL → α → Option So} {Z : ZV} (h : spost (sb env m k) Z) : post m (fun L a => spost (k L a) Z) (fun L x => Z.ex L env x) := by
  cases m with
  | none => exact h
  | some o => cases o <;> exact h
theorem post_sopt {α : Type} {env : VEnv} {L : OL} {o : Option α} {k : OL → α → Option So} {Z : ZV} (h : spost (sb env (opt L o) k) Z) : ∃ a, o = some a ∧ spost (k L a) Z := by
  cases o with
  | none => exact h.elim
  | some a => exact ⟨a, rfl, h⟩
theorem spost_br {b : Bool} {m : Option So} {Z : ZV} (h : spost (br b m none) Z) : b = true ∧ spost m Z := by
  cases b with
  | true => exact ⟨rfl, h⟩
  | false => exact h.elim
/-- a statement, then more -/
def sq (m : Option So) (k : OL → VEnv → Option So) : Option So := match m with
  | some (.nx L e) => k L e
  | o => o
theorem post_sq {m : Option So} {k : OL → VEnv → Option So} {Z : ZV} (h : spost (sq m k) Z) : spost m { Z with nx := fun L e => spost (k L e) Z } := by
  cases m with
  | none => exact h
  | some o => cases o <;> exact h
def mS (X : Cx) (st : Stmt) : TS := fun De σ H => ∀ pins s, Inv X pins σ H s → wpAny (model X.prog X.w) X.A (exec st X.env) (SP X pins De) X.xe s
def mSs (X : Cx) (st : List Stmt) : TS := fun De σ H => ∀ pins s, Inv X pins σ H s → wpAny (model X.prog X.w) X.A (execs st X.env) (SP X pins De) X.xe s
def mG (X : Cx) (tg : Expr) : TG := fun v σ H R => ∀ pins s u, Inv X pins σ H s → RelV v u → wpAny (model X.prog X.w) X.A (assign tg X.env u) (fun _ s' => ∃ σ' H', Inv X pins σ' H' s' ∧ R σ' H') X.xe s
def mGs (X : Cx) (tgs : List Expr) : TGs := fun vs σ H R => ∀ pins s us, Inv X pins σ H s → Vals vs us → wpAny (model X.prog X.w) X.A (assignInOrder ((assignEach tgs X.env).map (·.2)) us) (fun _ s' => ∃ σ' H', Inv X pins σ' H' s' ∧ R σ' H') X.xe s
def mI (X : Cx) (tg it : Expr) : TI := fun σ H R => ∀ pins s, Inv X pins σ H s → wpAny (model X.prog X.w) X.A (eval it X.env) (fun v s1 => wpAny (model X.prog X.w) X.A (pyIter v) (PIE X pins σ tg R) X.xe s1) X.xe s
section
variable {X : Cx} {st : Stmt} {sts : List Stmt} {tg it : Expr} {tgs : List Expr} {σ : L2.St} {H : Hp}
theorem ps_max : PS X st (mS X st) := ⟨fun pins s σ H D I h => h pins s I⟩
theorem pss_max : PSs X sts (mSs X sts) := ⟨fun pins s σ H D I h => h pins s I⟩
theorem pg_max : PG X tg (mG X tg) := ⟨fun pins s σ H v u Q I r h => h pins s u I r⟩
theorem pgs_max : PGs X tgs (mGs X tgs) := ⟨fun pins s σ H v u Q I r h => h pins s u I r⟩
theorem pi_max : PI X tg it (mI X tg it) := ⟨fun pins s σ H R I h => h pins s I⟩
theorem mS_of {t : TS} {D : Ends} (p : PS X st t) (h : t D σ H) : mS X st D σ H := fun pins s I => p.run pins s σ H D I h
theorem mSs_of {t : TS} {D : Ends} (p : PSs X sts t) (h : t D σ H) : mSs X sts D σ H := fun pins s I => p.run pins s σ H D I h
theorem mG_of {t : TG} {v : V} {R : L2.St → Hp → Prop} (p : PG X tg t) (h : t v σ H R) : mG X tg v σ H R := fun pins s u I r => p.run pins s σ H v u R I r h
theorem mGs_of {t : TGs} {v : List V} {R : L2.St → Hp → Prop} (p : PGs X tgs t) (h : t v σ H R) : mGs X tgs v σ H R := fun pins s u I r => p.run pins s σ H v u R I r h
theorem mI_of {t : TI} {R : It → Hp → Prop} (p : PI X tg it t) (h : t σ H R) : mI X tg it σ H R := fun pins s I => p.run pins s σ H R I h
end
section
variable (K : KW) (B : Fra) (F : Hp → Prop)
def NxV (Z : OL → VEnv → Prop) (R : L2.St → Hp → Prop) : Prop := ∀ T' L' G' σ' H' env', Z L' env' → OkF K B T' L' G' σ' H' env' F → R σ' H'
def RtV (Q : OL → DV → VEnv → Prop) (R : VK) : Prop := ∀ T' L' G' σ' H' env' v x, Q L' x env' → OkF K B T' L' G' σ' H' env' (fun G => F G ∧ DRep K T' G v x) → R v H'
def XsV (Ex : OL → VEnv → XD → Prop) (W : WX) : Prop := ∀ T' L' G' σ' H' env' cls d x, Ex L' env' x → OkF K B T' L' G' σ' H' env' F → XRep K G' H' cls d x → W cls d σ' H'
structure EnV (Z : ZV) (De : Ends) (W : WX) : Prop where
  nx : NxV K B F Z.nx De.nx
  rt : RtV K B F Z.rt De.rt
  bk : NxV K B F Z.bk De.bk
  ct : NxV K B F Z.ct De.ct
  ex : XsV K B F Z.ex W
end
section
variable {K : KW} {B : Fra} {F P : Hp → Prop}
theorem NxV.more {Z : OL → VEnv → Prop} {R : L2.St → Hp → Prop} (h : NxV K B F Z R) (s : Stab F) : NxV K B (fun G => F G ∧ P G) Z R := fun T' L' G' σ' H' env' z o => h T' L' G' σ' H' env' z (o.drop s)
theorem RtV.more {Z : OL → DV → VEnv → Prop} {R : VK} (h : RtV K B F Z R) (s : Stab F) : RtV K B (fun G => F G ∧ P G) Z R := fun T' L' G' σ' H' env' v x z o => h T' L' G' σ' H' env' v x z (o.as (stab_and s (stab_drep _ _)) ⟨o.f.1.1, o.f.2⟩)
theorem XsV.more {Z : OL → VEnv → XD → Prop} {R : WX} (h : XsV K B F Z R) (s : Stab F) : XsV K B (fun G => F G ∧ P G) Z R := fun T' L' G' σ' H' env' c d x z o r => h T' L' G' σ' H' env' c d x z (o.drop s) r
theorem EnV.xc {Z : ZV} {De : Ends} {W : WX} {T : Tb} {σ : L2.St} {env : VEnv} (z : EnV K B F Z De W) : Xc K B T σ env F (fun L x => Z.ex L env x) W :=
  fun T' L' G' H' cls d x hx _ o r => z.ex T' L' G' σ H' env cls d x hx o r
end
structure RS (X : Cx) (st : Stmt) (sv : Sv) : Prop where
  ok : ∀ {L env Z}, spost (sv L env) Z → ∀ {W B T G σ H De F}, B.n = X.N.length → Takes X W → OkF (kw X) B T L G σ H env F → EnV (kw X) B F Z De W → mS X st De σ H
structure RSs (X : Cx) (st : List Stmt) (sv : Sv) : Prop where
  ok : ∀ {L env Z}, spost (sv L env) Z → ∀ {W B T G σ H De F}, B.n = X.N.length → Takes X W → OkF (kw X) B T L G σ H env F → EnV (kw X) B F Z De W → mSs X st De σ H
abbrev Gv := OL → DV → VEnv → Option VEnv
abbrev Gvs := OL → List DV → VEnv → Option VEnv
structure RG (X : Cx) (tg : Expr) (vs : List Nat) (fn : Gv) : Prop where
  ok : ∀ {L x env env'}, fn L x env = some env' → ∀ {B T G σ H v R F} (us : List Nat), B.n = X.N.length → (∀ i ∈ vs, i ∈ us) → OkF (kw X) B T L G σ H env F → DRep (kw X) T G v x → (∀ σ', wipe σ' us = wipe σ us → OkF (kw X) B T L G σ' H env' F → R σ' H) → mG X tg v σ H R
structure RGs (X : Cx) (tgs : List Expr) (vs : List Nat) (fn : Gvs) : Prop where
  ok : ∀ {L xs env env'}, fn L xs env = some env' → ∀ {B T G σ H ws R F} (us : List Nat), B.n = X.N.length → (∀ i ∈ vs, i ∈ us) → OkF (kw X) B T L G σ H env F → DReps (kw X) T G ws xs → (∀ σ', wipe σ' us = wipe σ us → OkF (kw X) B T L G σ' H env' F → R σ' H) → mGs X tgs ws σ H R
/-- a walk over the items xs -/
structure ItOk (K : KW) (J : It) (xs : List D) (Fi : Hp → Prop) : Prop where
  st : Stab Fi
  go : ∀ G H i, Fi G → Sm G H → i < xs.length → J.go i H
  yld : ∀ G H i x H', Fi G → Sm G H → i < xs.length → J.yld i H x H' → ∃ d, xs[i]? = some d ∧ ((H' = H ∧ Rep K G x d) ∨ ∃ p vs ds, H p = none ∧ H' = upd H p (.tup vs) ∧ x = .ref p ∧ d = .tup ds ∧ Reps K G vs ds)
  stop : ∀ G H, Fi G → Sm G H → J.stop xs.length H
abbrev Ei := OL → VEnv → Mo (List D)
structure RI (X : Cx) (tg it : Expr) (ev : Ei) : Prop where
  ok : ∀ {L env Q Ex}, post (ev L env) Q Ex → ∀ {W B T G σ H} {R : It → Hp → Prop} {F}, B.n = X.N.length → Takes X W → OkF (kw X) B T L G σ H env F → (∀ T1 L1 G1 H1 xs J Fi, Q L1 xs → T <+: T1 → OkF (kw X) B T1 L1 G1 σ H1 env (fun G => F G ∧ Fi G) → ItOk (kw X) J xs Fi → R J H1) → Xc (kw X) B T σ env F Ex W → mI X tg it σ H R
section
variable {X : Cx} {st : Stmt} {sts sta stb : List Stmt} {e ec tg it : Expr} {tgs : List Expr} {pos : Pos} {fa : Ev} {tc : Et} {sa sb' : Sv}
def sNil : Sv := fun L env => some (.nx L env)
def sCons (a b : Sv) : Sv := fun L env => sq (a L env) b
theorem rss_nil : RSs X [] sNil := ⟨fun h _ _ _ _ _ _ _ _ hn tk o z => mSs_of pss_nil (z.nx _ _ _ _ _ _ h o)⟩
theorem rss_one (a : RS X st sa) : RSs X [st] sa := ⟨fun h _ _ _ _ _ _ _ _ hn tk o z => mSs_of (pss_one ps_max) (a.ok h hn tk o z)⟩
theorem rss_cons (a : RS X st sa) (b : RSs X sts sb') : RSs X (st :: sts) (sCons sa sb') :=
  ⟨fun {L env Z} h {W B T G σ H De F} hn tk o z => mSs_of (pss_cons ps_max pss_max) (a.ok (post_sq h) (De := { De with nx := mSs X sts De }) hn tk o
    ⟨fun T1 L1 G1 σ1 H1 e1 q o1 => b.ok q hn tk o1 z, z.rt, z.bk, z.ct, z.ex⟩)⟩
theorem rs_pass : RS X (.Pass pos) sNil := ⟨fun h _ _ _ _ _ _ _ _ hn tk o z => mS_of ps_pass (z.nx _ _ _ _ _ _ h o)⟩
theorem rs_doc {x : Str} {j : Nat} {pos' : Pos} : RS X (.Expr (.Constant (.str x) j pos) pos') sNil := ⟨fun h _ _ _ _ _ _ _ _ hn tk o z => mS_of ps_doc (z.nx _ _ _ _ _ _ h o)⟩
def sBreak : Sv := fun L env => some (.bk L env)
def sCont : Sv := fun L env => some (.ct L env)
theorem rs_break : RS X (.Break pos) sBreak := ⟨fun h _ _ _ _ _ _ _ _ hn tk o z => mS_of ps_break (z.bk _ _ _ _ _ _ h o)⟩
theorem rs_cont : RS X (.Continue pos) sCont := ⟨fun h _ _ _ _ _ _ _ _ hn tk o z => mS_of ps_continue (z.ct _ _ _ _ _ _ h o)⟩
/-- a statement that no run comes to -/
def sNever : Sv := fun _ _ => none
theorem rs_never : RS X st sNever := ⟨fun h => h.elim⟩
def sExpr (a : Ev) : Sv := fun L env => sb env (a L env) fun L1 _ => some (.nx L1 env)
theorem rs_expr (a : RE X e fa) (hs : swapsWith e none pos.line X.env = pure false := by rfl) : RS X (.Expr e pos) (sExpr fa) :=
  ⟨fun {L env Z} h {W B T G σ H De F} hn tk o z => mS_of (ps_expr pe_max hs) (a.ok (post_sb h) hn tk o (fun T1 L1 G1 H1 v x q t1 o1 => z.nx T1 L1 G1 σ H1 env q (o1.drop o.st)) z.xc)⟩
def sRet (a : Ev) : Sv := fun L env => sb env (a L env) fun L1 x => some (.rt L1 x env)
theorem rs_ret (a : RE X e fa) : RS X (.Return (some e) pos) (sRet fa) :=
  ⟨fun {L env Z} h {W B T G σ H De F} hn tk o z => mS_of (ps_ret pe_max) (a.ok (post_sb h) hn tk o (fun T1 L1 G1 H1 v x q t1 o1 => z.rt T1 L1 G1 σ H1 env v x q o1) z.xc)⟩
def sRetN : Sv := fun L env => some (.rt L (.d .non) env)
theorem rs_retN : RS X (.Return none pos) sRetN :=
  ⟨fun {L env Z} h {W B T G σ H De F} hn tk o z => mS_of ps_retN (z.rt T L G σ H env .non (.d .non) h (o.push (stab_drep _ _) (.d .non)))⟩
def sIf (c : Et) (a b : Sv) : Sv := fun L env => sb env (c L env) fun L1 k => br k (a L1 env) (b L1 env)
theorem rs_if (c : RT X ec tc) (a : RSs X sta sa) (b : RSs X stb sb') : RS X (.If ec sta stb pos) (sIf tc sa sb') :=
  ⟨fun {L env Z} h {W B T G σ H De F} hn tk o z => mS_of (ps_if pt_max pss_max pss_max) (c.ok (post_sb h) hn tk o (fun T1 L1 G1 H1 k q t1 o1 => by
    cases k with
    | true => exact a.ok q hn tk o1 z
    | false => exact b.ok q hn tk o1 z) z.xc)⟩
/-! ### targets -/
theorem wipe_len (σ : L2.St) : ∀ vs, (wipe σ vs).length = σ.length
  | [] => rfl
  | v :: vs => by show ((wipe σ vs).set v none).length = _; rw [List.length_set, wipe_len σ vs]
theorem wipe_get (σ : L2.St) (i : Nat) : ∀ vs, (wipe σ vs)[i]? = if i ∈ vs ∧ i < σ.length then some none else σ[i]?
  | [] => by simp [wipe]
  | v :: vs => by
    show ((wipe σ vs).set v none)[i]? = _
    rw [List.getElem?_set, wipe_get σ i vs, wipe_len]
    by_cases c : v = i
    · subst c
      by_cases l : v < σ.length
      · simp [l]
      · simp [l]
    · have c' : i ≠ v := fun z => c z.symm
      simp [c, c']
theorem wipe_set {σ : L2.St} {j : Nat} {x : Option V} {vs : List Nat} (h : j ∈ vs) : wipe (σ.set j x) vs = wipe σ vs := by
  apply List.ext_getElem?
  intro i
  rw [wipe_get, wipe_get, List.length_set]
  by_cases c : i ∈ vs ∧ i < σ.length
  · rw [if_pos c, if_pos c]
  · rw [if_neg c, if_neg c, List.getElem?_set]
    by_cases e : j = i
    · subst e
      have l : ¬ j < σ.length := fun l => c ⟨h, l⟩
      rw [if_pos rfl, if_neg l]
      rw [List.getElem?_eq_none (by omega)]
    · rw [if_neg e]
theorem wipe_wipe (σ : L2.St) (vs : List Nat) : wipe (wipe σ vs) vs = wipe σ vs := by
  apply List.ext_getElem?
  intro i
  rw [wipe_get, wipe_get, wipe_len]
  by_cases c : i ∈ vs ∧ i < σ.length
  · rw [if_pos c, if_pos c]
  · rw [if_neg c]
def gName (i : Nat) : Gv := fun _ x env => some (env.set i (some x))
theorem rg_name {i : Nat} {y : Str} (p : PG X tg (L2.gName i)) (hi : X.N[i]? = some y) : RG X tg [i] (gName i) :=
  ⟨fun {L x env env'} h {B T G σ H v R F} us hn hu o r c => by
    cases h
    exact mG_of p (c _ (wipe_set (hu i (by simp))) (o.set (by rw [hn]; exact (List.getElem?_eq_some_iff.mp hi).1) r))⟩
def gNil : Gvs := fun _ xs env => match xs with
  | [] => some env
  | _ => none
theorem rgs_nil : RGs X [] [] gNil :=
  ⟨fun {L xs env env'} h {B T G σ H v R F} us hn hu o r c => by
    cases r with
    | nil => cases h; exact mGs_of pgs_nil ⟨rfl, c σ rfl o⟩
    | cons a b => cases h⟩
def gCons (a : Gv) (b : Gvs) : Gvs := fun L xs env => match xs with
  | [] => none
  | x :: xs => match a L x env with
    | some e1 => b L xs e1
    | none => none
theorem rgs_cons {ts : List Expr} {va vb : List Nat} {ga' : Gv} {gb : Gvs} (a : RG X tg va ga') (b : RGs X ts vb gb) (hs : (assignEach (tg :: ts) X.env).map (·.2) = assign tg X.env :: (assignEach ts X.env).map (·.2) := by rfl) : RGs X (tg :: ts) (va ++ vb) (gCons ga' gb) :=
  ⟨fun {L xs env env'} h {B T G σ H vs R F} us hn hu o r c => by
    cases r with
    | nil => cases h
    | cons r1 r2 =>
      rename_i v x vs xs
      have h' : (match ga' L x env with | some e1 => gb L xs e1 | none => none) = some env' := h
      split at h'
      · rename_i e1 h1
        refine mGs_of (pgs_cons pg_max pgs_max hs) ⟨v, vs, rfl, a.ok h1 (F := fun G => F G ∧ DReps (kw X) T G vs xs) us hn (fun i hi => hu i (List.mem_append_left _ hi)) (o.push (stab_dreps _ _) r2) r1 fun σ1 e1 o1 => ?_⟩
        exact b.ok h' us hn (fun i hi => hu i (List.mem_append_right _ hi)) (o1.drop o.st) o1.f.2 fun σ2 e2 => c σ2 (e2.trans e1)
      · cases h'⟩
def gTup (n : Nat) (a : Gvs) : Gv := fun L x env => match x with
  | .d (.tup ds) => match Nat.beq ds.length n with
    | true => a L (ds.map DV.d) env
    | false => none
  | _ => none
theorem rg_tup {k : Nat} {n : Nat} {va : List Nat} {gs : Gvs} (a : RGs X tgs va gs) (hc : X.calm = true) (hn : (assignEach tgs X.env).length = n := by rfl) (hst : (assignEach tgs X.env).findIdx? (·.1) = none := by rfl) : RG X (.Tuple tgs k pos) va (gTup n gs) :=
  ⟨fun {L x env env'} h {B T G σ H v R F} us hB hu o r c => by
    cases r with
    | h => cases h
    | d r =>
      rename_i x
      cases x with
      | tup ds =>
        obtain ⟨p, vs, rfl, h1, h2⟩ := rep_tup r
        have h' : (match Nat.beq ds.length n with | true => gs L (ds.map DV.d) env | false => none) = some env' := h
        split at h'
        · rename_i hl
          exact mG_of (pg_tup hc pgs_max hn hst) ⟨p, vs, rfl, ex_t o.sub h1, h2.length.trans (Nat.eq_of_beq_eq_true hl), a.ok h' us hB hu o (Reps.dv h2) c⟩
        · cases h'
      | _ => cases h⟩
def sAsg (a : Ev) (g : Gv) : Sv := fun L env => sb env (a L env) fun L1 x => sb env (opt L1 (g L1 x env)) fun L1 e1 => some (.nx L1 e1)
theorem rs_asg {vs : List Nat} {g' : Gv} (a : RE X e fa) (g : RG X tg vs g') (hs : swapsWithSole [tg] e pos.line X.env = pure false := by rfl) (hw : swappedStores [tg] e X.env = pure none := by rfl)
    (h1 : (assignEach [tg] X.env).map (·.2) = [assign tg X.env] := by rfl) : RS X (.Assign [tg] e pos) (sAsg fa g') :=
  ⟨fun {L env Z} h {W B T G σ H De F} hn tk o z => mS_of (ps_asg pe_max pg_max hs hw h1) (a.ok (post_sb h) hn tk o (fun T1 L1 G1 H1 v x q t1 o1 => by
    obtain ⟨e1, he, q⟩ := post_sopt q
    exact g.ok he vs hn (fun _ h => h) (o1.drop o.st) o1.f.2 fun σ' _ o' => z.nx T1 L1 G1 σ' H1 e1 q o') z.xc)⟩
def sSet (i : Nat) (a : Ev) : Sv := fun L env => sb env (a L env) fun L1 x => some (.nx L1 (env.set i (some x)))
theorem rs_set {i : Nat} {x : Str} {pos' : Pos} (hN : X.N.Nodup) (hi : X.N[i]? = some x) (hx : Loc X.env.scope x) (a : RE X e fa) (hs : swapsWith e (some (.Name x pos')) pos.line X.env = pure false := by rfl) (hf : X.fn x = true ∨ X.env.scope.names.lookup x = some .local := by first | exact .inl rfl | exact .inr rfl | assumption) : RS X (.Assign [.Name x pos'] e pos) (sSet i fa) :=
  ⟨fun {L env Z} h {W B T G σ H De F} hn tk o z => mS_of (ps_set hN hi hx pe_max hs hf) (a.ok (post_sb h) hn tk o (fun T1 L1 G1 H1 v x q t1 o1 =>
    z.nx T1 L1 G1 _ H1 _ q ((o1.drop o.st).set (by rw [hn]; exact (List.getElem?_eq_some_iff.mp hi).1) o1.f.2)) z.xc)⟩
/-! ### for -/
def forS (n : Nat) (g : Gv) (body : Sv) : List D → Sv
  | [], L, env => some (.nx L env)
  | x :: xs, L, env => match g L (.d x) env with
    | some e1 => match body L e1 with
      | some (.nx L e) => forS n g body xs (cmL n L e) (cmE n L e)
      | some (.ct L e) => forS n g body xs (cmL n L e) (cmE n L e)
      | some (.bk L e) => some (.nx L e)
      | o => o
    | none => none
theorem post_for {n : Nat} {g : Gv} {body : Sv} {x : D} {xs : List D} {L : OL} {env : VEnv} {Z : ZV} (h : spost (forS n g body (x :: xs) L env) Z) :
    ∃ e1, g L (.d x) env = some e1 ∧ spost (body L e1) { Z with nx := fun L e => spost (forS n g body xs (cmL n L e) (cmE n L e)) Z, ct := fun L e => spost (forS n g body xs (cmL n L e) (cmE n L e)) Z, bk := Z.nx } := by
  unfold forS at h
  split at h
  · rename_i e1 he
    refine ⟨e1, he, ?_⟩
    split at h <;> rename_i hb <;> simp only [spost, hb] at h ⊢ <;> first | exact h | skip
    cases hq : body L e1 with
    | none => rw [hq] at h; exact h.elim
    | some o => cases o <;> simp_all [spost]
  · exact h.elim
theorem OkF.yld {K : KW} {B : Fra} {T : Tb} {L : OL} {G : Hp} {σ : L2.St} {H H' : Hp} {env : VEnv} {F Fi : Hp → Prop} {J : It} {xs : List D} {i : Nat} {x : V} (jo : ItOk K J xs Fi) (o : OkF K B T L G σ H env (fun G => F G ∧ Fi G)) (hi : i < xs.length) (y : J.yld i H x H') :
    ∃ d G', xs[i]? = some d ∧ Sm G G' ∧ OkF K B T L G' σ H' env (fun G => F G ∧ Fi G) ∧ Rep K G' x d := by
  obtain ⟨d, hd, z⟩ := jo.yld G H i x H' o.f.2 o.sub hi y
  rcases z with ⟨rfl, r⟩ | ⟨p, vs, ds, hT, rfl, rfl, rfl, r⟩
  · exact ⟨d, G, hd, Sm.refl _, o, r⟩
  · exact ⟨_, _, hd, same_new (sm_free o.sub hT), o.new hT, .tup (SqT.of upd_same) (r.mono (same_new (sm_free o.sub hT)))⟩
def sFor (n : Nat) (i : Ei) (g : Gv) (b : Sv) : Sv := fun L env => sb env (i L env) fun L1 xs => forS n g b xs (cmL n L1 env) (cmE n L1 env)
theorem rs_for {n : Nat} {vs : List Nat} {ei : Ei} {g' : Gv} (hp : PassesOwn (model X.prog X.w) X.A X.env X.xe) (hc : X.calm = true) (i : RI X tg it ei) (g : RG X tg vs g') (b : RSs X sts sa) (hs : ∀ x, foldedSetIterable it X.env x = pure x := by intro _; rfl) : RS X (.For tg it sts [] pos) (sFor n ei g' sa) :=
  ⟨fun {L env Z} h {W B T G σ H De F} hn tk o z => mS_of (ps_for hp hc pi_max pg_max pss_max hs) (i.ok (post_sb h) hn tk o (fun T1 L1 G1 H1 xs J Fi q t1 o1 jo => by
    have start : ∃ T2 L2 G2 e2, spost (forS n g' sa (xs.drop 0) L2 e2) Z ∧ OkF (kw X) B T2 L2 G2 σ H1 e2 (fun G => F G ∧ Fi G) := by
      obtain ⟨T2, o2⟩ := o1.cm n
      exact ⟨T2, _, G1, _, q, o2⟩
    refine ⟨fun i m σ' H' => m = xs.length - i ∧ i ≤ xs.length ∧ ∃ T2 L2 G2 e2, spost (forS n g' sa (xs.drop i) L2 e2) Z ∧ OkF (kw X) B T2 L2 G2 σ' H' e2 (fun G => F G ∧ Fi G), ⟨xs.length, by simp, Nat.zero_le _, start⟩, ?_⟩
    rintro i m σ' H' ⟨rfl, hi, T2, L2, G2, e2, iv, o2⟩
    by_cases hlt : i < xs.length
    · refine .inr ⟨jo.go G2 H' i o2.f.2 o2.sub hlt, fun σ3 H3 => ∃ T2 L2 G2 e2, spost (forS n g' sa (xs.drop (i + 1)) L2 e2) Z ∧ OkF (kw X) B T2 L2 G2 σ3 H3 e2 (fun G => F G ∧ Fi G), fun σ3 H3 y => ⟨xs.length - (i + 1), by omega, rfl, hlt, y⟩, fun x H3 y => ?_⟩
      obtain ⟨d, G3, hd, sm, o3, r⟩ := o2.yld jo hlt y
      have ed : xs.drop i = d :: xs.drop (i + 1) := by
        obtain ⟨l, e⟩ := List.getElem?_eq_some_iff.mp hd
        rw [← e]; exact List.drop_eq_getElem_cons l
      rw [ed] at iv
      obtain ⟨e3, hg, iv⟩ := post_for iv
      have nn : NxV (kw X) B (fun G => F G ∧ Fi G) (fun L e => spost (forS n g' sa (xs.drop (i + 1)) (cmL n L e) (cmE n L e)) Z) (fun σ3 H3 => ∃ T2 L2 G2 e2, spost (forS n g' sa (xs.drop (i + 1)) L2 e2) Z ∧ OkF (kw X) B T2 L2 G2 σ3 H3 e2 (fun G => F G ∧ Fi G)) := fun T5 L5 G5 σ5 H5 e5 q5 o5 => by
        obtain ⟨T6, o6⟩ := o5.cm n
        exact ⟨T6, _, G5, _, q5, o6⟩
      refine g.ok hg vs hn (fun _ h => h) o3 (.d r) fun σ4 _ o4 => ?_
      exact b.ok iv (De := { De with nx := _, ct := _, bk := De.nx }) hn tk o4 ⟨nn, z.rt.more o.st, z.nx.more o.st, nn, z.ex.more o.st⟩
    · have e : i = xs.length := by omega
      subst e
      rw [List.drop_length] at iv
      exact .inl ⟨jo.stop G2 H' o2.f.2 o2.sub, z.nx _ _ _ _ _ _ iv (o2.drop o.st)⟩) z.xc)⟩
/-! ### while -/
def whF (n : Nat) (c : Et) (body : Sv) : Nat → Sv
  | 0, _, _ => none
  | m + 1, L, env => match c L env with
    | some (.val L1 true) => match body L1 env with
      | some (.nx L e) => whF n c body m (cmL n L e) (cmE n L e)
      | some (.ct L e) => whF n c body m (cmL n L e) (cmE n L e)
      | some (.bk L e) => some (.nx L e)
      | o => o
    | some (.val L1 false) => some (.nx L1 env)
    | some (.exc L x) => some (.ex L env x)
    | none => none
theorem post_wh {n m : Nat} {c : Et} {body : Sv} {L : OL} {env : VEnv} {Z : ZV} (h : spost (whF n c body (m + 1) L env) Z) :
    post (c L env) (fun L1 k => match k with
      | true => spost (body L1 env) { Z with nx := fun L e => spost (whF n c body m (cmL n L e) (cmE n L e)) Z, ct := fun L e => spost (whF n c body m (cmL n L e) (cmE n L e)) Z, bk := Z.nx }
      | false => Z.nx L1 env) (fun L x => Z.ex L env x) := by
  unfold whF at h
  cases hc : c L env with
  | none => rw [hc] at h; exact h
  | some o =>
    rw [hc] at h
    cases o with
    | exc L1 x => exact h
    | val L1 k =>
      cases k with
      | false => exact h
      | true =>
        show spost (body L1 env) _
        have h : spost (match body L1 env with
          | some (.nx L e) => whF n c body m (cmL n L e) (cmE n L e)
          | some (.ct L e) => whF n c body m (cmL n L e) (cmE n L e)
          | some (.bk L e) => some (.nx L e)
          | o => o) Z := h
        cases hb : body L1 env with
        | none => rw [hb] at h; exact h
        | some o => rw [hb] at h; cases o <;> exact h
def sWhile (n fuel : Nat) (c : Et) (b : Sv) : Sv := fun L env => whF n c b fuel (cmL n L env) (cmE n L env)
theorem rs_while {n fuel : Nat} (hp : PassesOwn (model X.prog X.w) X.A X.env X.xe) (c : RT X ec tc) (b : RSs X sts sa) : RS X (.While ec sts [] pos) (sWhile n fuel tc sa) :=
  ⟨fun {L env Z} h {W B T G σ H De F} hn tk o z => mS_of (ps_while hp pt_max pss_max) (by
    refine ⟨fun m σ' H' => ∃ T2 L2 G2 e2, spost (whF n tc sa m L2 e2) Z ∧ OkF (kw X) B T2 L2 G2 σ' H' e2 F, ⟨fuel, ?_⟩, ?_⟩
    · obtain ⟨T2, o2⟩ := o.cm n
      exact ⟨T2, _, G, _, h, o2⟩
    · rintro m σ' H' ⟨T2, L2, G2, e2, iv, o2⟩
      cases m with
      | zero => exact iv.elim
      | succ m =>
        refine c.ok (post_wh iv) hn tk o2 (fun T3 L3 G3 H3 k q t3 o3 => ?_) z.xc
        cases k with
        | true =>
          refine ⟨fun σ4 H4 => ∃ T2 L2 G2 e2, spost (whF n tc sa m L2 e2) Z ∧ OkF (kw X) B T2 L2 G2 σ4 H4 e2 F, fun σ4 H4 y => ⟨m, Nat.lt_succ_self m, y⟩, ?_⟩
          have nn : NxV (kw X) B F (fun L e => spost (whF n tc sa m (cmL n L e) (cmE n L e)) Z) (fun σ4 H4 => ∃ T2 L2 G2 e2, spost (whF n tc sa m L2 e2) Z ∧ OkF (kw X) B T2 L2 G2 σ4 H4 e2 F) := fun T5 L5 G5 σ5 H5 e5 q5 o5 => by
            obtain ⟨T6, o6⟩ := o5.cm n
            exact ⟨T6, _, G5, _, q5, o6⟩
          exact b.ok q (De := { De with nx := _, ct := _, bk := De.nx }) hn tk o3 ⟨nn, z.rt, z.nx, nn, z.ex⟩
        | false => exact z.nx _ _ _ _ _ _ q o3)⟩
end
end FL

set_option Elab.async false
set_option linter.all false
set_option maxRecDepth 100000
set_option maxHeartbeats 4000000
namespace FL
open PySem PySem.Spec PyProof.Rows L2
/-! ### what is walked -/
section
variable {K : KW}
theorem itok_list {a : Addr} {vs : List V} {ds : List D} : ItOk K (Itl K.K a) ds (fun G => SqL K.K G a vs ∧ Reps K G vs ds) := by
  refine ⟨fun G G' e z => ⟨ex_l e z.1, z.2.mono e⟩, ?_, ?_, ?_⟩
  · intro G H i f s hi
    rw [← f.2.length] at hi
    exact ⟨vs, vs[i], ex_l s f.1, List.getElem?_eq_getElem hi⟩
  · rintro G H i x H' f s hi ⟨rfl, hy⟩
    obtain ⟨d, hd, r⟩ := f.2.getV (hy vs (ex_l s f.1))
    exact ⟨d, hd, .inl ⟨rfl, r⟩⟩
  · intro G H f s
    exact ⟨vs, ex_l s f.1, by rw [f.2.length]; exact Nat.le_refl _⟩
theorem itok_tup {a : Addr} {vs : List V} {ds : List D} : ItOk K (Itt K.K a) ds (fun G => SqT K.K G a vs ∧ Reps K G vs ds) := by
  refine ⟨fun G G' e z => ⟨ex_t e z.1, z.2.mono e⟩, ?_, ?_, ?_⟩
  · intro G H i f s hi
    rw [← f.2.length] at hi
    exact ⟨vs, vs[i], ex_t s f.1, List.getElem?_eq_getElem hi⟩
  · rintro G H i x H' f s hi ⟨rfl, hy⟩
    obtain ⟨d, hd, r⟩ := f.2.getV (hy vs (ex_t s f.1))
    exact ⟨d, hd, .inl ⟨rfl, r⟩⟩
  · intro G H f s
    exact ⟨vs, ex_t s f.1, by rw [f.2.length]; exact Nat.le_refl _⟩
def rangeD (lo : Int) (n : Nat) : List D := (List.range n).map fun (i : Nat) => D.int (lo + (i : Int))
theorem rangeD_length (lo : Int) (n : Nat) : (rangeD lo n).length = n := by simp [rangeD]
theorem rangeD_get {lo : Int} {n i : Nat} (h : i < n) : (rangeD lo n)[i]? = some (.int (lo + (i : Int))) := by simp [rangeD, h]
theorem itok_range (lo : Int) (n : Nat) : ItOk K (Itr lo n) (rangeD lo n) (fun _ => True) := by
  refine ⟨fun _ _ _ _ => trivial, fun G H i _ _ hi => ?_, ?_, fun G H _ _ => ?_⟩
  · rw [rangeD_length] at hi; exact hi
  · rintro G H i x H' _ _ hi ⟨rfl, rfl⟩
    rw [rangeD_length] at hi
    exact ⟨_, rangeD_get hi, .inl ⟨rfl, .int _⟩⟩
  · show n ≤ _
    rw [rangeD_length]; exact Nat.le_refl _
def enumD (xs : List D) : List D := xs.zipIdx.map fun p => D.tup [.int ((p.2 : Nat) : Int), p.1]
theorem enumD_length (xs : List D) : (enumD xs).length = xs.length := by simp [enumD]
theorem enumD_get {xs : List D} {i : Nat} {d : D} (h : xs[i]? = some d) : (enumD xs)[i]? = some (.tup [.int ((i : Nat) : Int), d]) := by simp [enumD, h]
theorem itok_enum {a : Addr} {vs : List V} {ds : List D} : ItOk K (Ite K.K a) (enumD ds) (fun G => SqL K.K G a vs ∧ Reps K G vs ds) := by
  refine ⟨fun G G' e z => ⟨ex_l e z.1, z.2.mono e⟩, ?_, ?_, ?_⟩
  · intro G H i f s hi
    rw [enumD_length, ← f.2.length] at hi
    exact ⟨vs, vs[i], ex_l s f.1, List.getElem?_eq_getElem hi⟩
  · rintro G H i x H' f s hi ⟨T, y, rfl, hT, rfl, hy⟩
    obtain ⟨d, hd, r⟩ := f.2.getV (hy vs (ex_l s f.1))
    exact ⟨_, enumD_get hd, .inr ⟨T, _, _, hT, rfl, rfl, rfl, .cons (.int _) (.cons r .nil)⟩⟩
  · intro G H f s
    exact ⟨vs, ex_l s f.1, by rw [enumD_length, f.2.length]; exact Nat.le_refl _⟩
def zipD (xs ys : List D) : List D := (xs.zip ys).map fun p => D.tup [p.1, p.2]
theorem zipD_length (xs ys : List D) : (zipD xs ys).length = min xs.length ys.length := by simp [zipD]
theorem zipD_get {xs ys : List D} {i : Nat} {x y : D} (h : xs[i]? = some x) (h' : ys[i]? = some y) : (zipD xs ys)[i]? = some (.tup [x, y]) := by
  simp [zipD, List.getElem?_zip_eq_some, h, h']
theorem itok_zip {a b : Addr} {us vs : List V} {xs ys : List D} : ItOk K (Itz K.K a b) (zipD xs ys) (fun G => (SqL K.K G a us ∧ Reps K G us xs) ∧ SqL K.K G b vs ∧ Reps K G vs ys) := by
  refine ⟨fun G G' e z => ⟨⟨ex_l e z.1.1, z.1.2.mono e⟩, ex_l e z.2.1, z.2.2.mono e⟩, ?_, ?_, ?_⟩
  · intro G H i f s hi
    rw [zipD_length, ← f.1.2.length, ← f.2.2.length] at hi
    exact ⟨us, vs, us[i], vs[i], ex_l s f.1.1, ex_l s f.2.1, List.getElem?_eq_getElem (by omega), List.getElem?_eq_getElem (by omega)⟩
  · rintro G H i x H' f s hi ⟨T, y, z, rfl, hT, rfl, hy, hz⟩
    obtain ⟨d, hd, r⟩ := f.1.2.getV (hy us (ex_l s f.1.1))
    obtain ⟨d', hd', r'⟩ := f.2.2.getV (hz vs (ex_l s f.2.1))
    exact ⟨_, zipD_get hd hd', .inr ⟨T, _, _, hT, rfl, rfl, rfl, .cons r (.cons r' .nil)⟩⟩
  · intro G H f s
    refine ⟨us, vs, ex_l s f.1.1, ex_l s f.2.1, ?_⟩
    rw [zipD_length, f.1.2.length, f.2.2.length]
    omega
theorem itok_zipT {a b : Addr} {us vs : List V} {xs ys : List D} : ItOk K (RZ.ItzT K.K a b) (zipD xs ys) (fun G => (SqT K.K G a us ∧ Reps K G us xs) ∧ SqT K.K G b vs ∧ Reps K G vs ys) := by
  refine ⟨fun G G' e z => ⟨⟨ex_t e z.1.1, z.1.2.mono e⟩, ex_t e z.2.1, z.2.2.mono e⟩, ?_, ?_, ?_⟩
  · intro G H i f s hi
    rw [zipD_length, ← f.1.2.length, ← f.2.2.length] at hi
    exact ⟨us, vs, us[i], vs[i], ex_t s f.1.1, ex_t s f.2.1, List.getElem?_eq_getElem (by omega), List.getElem?_eq_getElem (by omega)⟩
  · rintro G H i x H' f s hi ⟨T, y, z, rfl, hT, rfl, hy, hz⟩
    obtain ⟨d, hd, r⟩ := f.1.2.getV (hy us (ex_t s f.1.1))
    obtain ⟨d', hd', r'⟩ := f.2.2.getV (hz vs (ex_t s f.2.1))
    exact ⟨_, zipD_get hd hd', .inr ⟨T, _, _, hT, rfl, rfl, rfl, .cons r (.cons r' .nil)⟩⟩
  · intro G H f s
    refine ⟨us, vs, ex_t s f.1.1, ex_t s f.2.1, ?_⟩
    rw [zipD_length, f.1.2.length, f.2.2.length]
    omega

end
section
variable {X : Cx} {tg e e1 e2 : Expr} {p pos : Pos} {σ : L2.St} {H : Hp} {R : It → Hp → Prop} {pins : List (Addr × Obj)} {s : Shared} {fa : Ev} {as : Ea}
theorem fp_new (I : Inv X pins σ H s) : ∀ b ∈ [s.heap.objs.size], FpOk X pins H b := fun b hb => by
  obtain rfl := List.mem_singleton.mp hb
  exact I.fpOk (Nat.le_refl _) (I.hok.fresh (Nat.le_refl _))
theorem it_lst {a : Addr} {xs : List V} (I : Inv X pins σ H s) (hq : SqL X.K H a xs) (q : R (Itl X.K a) H) : wpAny (model X.prog X.w) X.A (pyIter (.ref a)) (PIE X pins σ tg R) X.xe s := by
  have ⟨its, rv, il, hz⟩ := I.list hq
  exact wpAny_pyIter_list il.isList ⟨_, [_], _, _, H, rfl, I.kept (t' := s.toks) (fun _ _ y => Heap.get?_push_of_some _ y), turn_list a _, ⟨_, Heap.get?_push_size _ rfl, rfl, rfl⟩, fp_new I, q⟩
theorem it_tup {a : Addr} {xs : List V} (I : Inv X pins σ H s) (hq : SqT X.K H a xs) (q : R (Itt X.K a) H) : wpAny (model X.prog X.w) X.A (pyIter (.ref a)) (PIE X pins σ tg R) X.xe s := by
  have ⟨its, rv, il, hz⟩ := I.tuple hq
  exact wpAny_pyIter_tuple (show s.heap.IsTuple a its.toArray from il) ⟨_, [_], _, _, H, rfl, I.kept (t' := s.toks) (fun _ _ y => Heap.get?_push_of_some _ y), turn_tuple a _, ⟨_, Heap.get?_push_size _ rfl, rfl, rfl⟩, fp_new I, q⟩
/-- a list or a tuple, as it comes -/
def iSeq (X : Cx) (tg e : Expr) : TI := fun σ H R => mE X e σ H fun x H1 => ∃ a xs, x = .ref a ∧ ((SqL X.K H1 a xs ∧ R (Itl X.K a) H1) ∨ (SqT X.K H1 a xs ∧ R (Itt X.K a) H1))
theorem pi_seq : PI X tg e (iSeq X tg e) := ⟨fun pins s σ H R I h => thn (h pins s I) fun u s1 ⟨x, H1, I1, r, a, xs, ex, q⟩ => by
  subst ex
  cases r
  rcases q with ⟨hq, q⟩ | ⟨hq, q⟩
  · exact it_lst I1 hq q
  · exact it_tup I1 hq q⟩
def seqOf : D → Option (List D)
  | .lst ds => some ds
  | .tup ds => some ds
  | _ => none
def iSeqE (a : Ev) : Ei := fun L env => bnd (a L env) fun L1 x => bnd (Fz L1 x) fun L2 d => opt L2 (seqOf d)
theorem ri_seq (a : RE X e fa) : RI X tg e (iSeqE fa) :=
  ⟨fun {L env Q Ex} h {W B T G σ H R F} hn tk o n xc => mI_of pi_seq (a.ok (post_bnd h) hn tk o (fun T1 L1 G1 H1 v x q t1 o1 => by
    obtain ⟨L2, d, hf, q⟩ := post_fz (post_bnd q)
    obtain ⟨xs, hs, q⟩ := post_opt q
    obtain ⟨G2, s2, o2, r2⟩ := (o1.drop o.st).fz hf
    have r := r2 v o1.f.2
    cases d with
    | lst ds =>
      cases hs
      obtain ⟨b, vs, rfl, h1, h2⟩ := rep_lst r
      exact ⟨b, vs, rfl, .inl ⟨ex_l o2.sub h1, n T1 L2 G2 H1 _ _ _ q t1 (o2.push itok_list.st ⟨h1, h2⟩) itok_list⟩⟩
    | tup ds =>
      cases hs
      obtain ⟨b, vs, rfl, h1, h2⟩ := rep_tup r
      exact ⟨b, vs, rfl, .inr ⟨ex_t o2.sub h1, n T1 L2 G2 H1 _ _ _ q t1 (o2.push itok_tup.st ⟨h1, h2⟩) itok_tup⟩⟩
    | _ => cases hs) xc)⟩
def intOf : DV → Option Int
  | .d (.int i) => some i
  | _ => none
theorem int_of {K : KW} {T : Tb} {G : Hp} {v : V} {x : DV} {b : Int} (r : DRep K T G v x) (h : intOf x = some b) : v = .int b := by
  cases r with
  | d r => cases r <;> first | (cases h; rfl) | cases h
  | h => cases h
def int1 : List DV → Option Int
  | [x] => intOf x
  | _ => none
def int2 : List DV → Option (Int × Int)
  | [x, y] => match intOf x, intOf y with
    | some i, some j => some (i, j)
    | _, _ => none
  | _ => none
theorem int1_of {K : KW} {T : Tb} {G : Hp} {vs : List V} {xs : List DV} {i : Int} (r : DReps K T G vs xs) (h : int1 xs = some i) : vs = [.int i] := by
  cases r with
  | nil => cases h
  | cons a b =>
    cases b with
    | nil => rw [int_of a h]
    | cons _ _ => cases h
theorem int2_of {K : KW} {T : Tb} {G : Hp} {vs : List V} {xs : List DV} {i j : Int} (r : DReps K T G vs xs) (h : int2 xs = some (i, j)) : vs = [.int i, .int j] := by
  cases r with
  | nil => cases h
  | cons a b =>
    cases b with
    | nil => cases h
    | cons b c =>
      cases c with
      | nil =>
        simp only [int2] at h
        split at h
        · rename_i h1 h2
          cases h
          rw [int_of a h1, int_of b h2]
        · cases h
      | cons _ _ => cases h
/-- a whole number in bounds -/
def inB (i : Int) : Bool := decide (-4611686018427387904 ≤ i) && decide (i < 4611686018427387904)
theorem inB_of {i : Int} (h : inB i = true) : -(2 ^ 62) ≤ i ∧ i < 2 ^ 62 := by
  unfold inB at h
  rw [Bool.and_eq_true] at h
  exact ⟨of_decide_eq_true h.1, of_decide_eq_true h.2⟩
def iRange1 (a : Ea) : Ei := fun L env => bnd (a L env) fun L1 xs => bnd (opt L1 (int1 xs)) fun L1 n => br (inB n) (some (.val L1 (rangeD 0 n.toNat))) none
def iRange2 (a : Ea) : Ei := fun L env => bnd (a L env) fun L1 xs => bnd (opt L1 (int2 xs)) fun L1 n => br (inB n.1 && inB n.2) (some (.val L1 (rangeD n.1 (n.2 - n.1).toNat))) none
theorem ri_range1 (hg : Gl X "range") (hm : X.mg "range" = none) (a : RA X [e] as) (hs : starEach [e] X.env = [(false, eval e X.env)] := by rfl) : RI X tg (.Call (.Name "range" p) [e] [] pos) (iRange1 as) :=
  ⟨fun {L env Q Ex} h {W B T G σ H R F} hn tk o n xc => mI_of (pi_range1 hg hm pa_max hs) (a.ok (post_bnd h) hn tk o (fun T1 L1 G1 H1 vs xs q t1 o1 => by
    obtain ⟨k, hk, q⟩ := post_bopt q
    obtain ⟨hb, q⟩ := post_br q
    obtain ⟨k1, k2⟩ := inB_of hb
    exact ⟨k, int1_of o1.f.2 hk, k1, k2, n T1 L1 G1 H1 _ _ _ q t1 ((o1.drop o.st).push stab_true trivial) (itok_range 0 _)⟩) xc)⟩
theorem ri_range2 (hg : Gl X "range") (hm : X.mg "range" = none) (a : RA X [e1, e2] as) (hs : starEach [e1, e2] X.env = [(false, eval e1 X.env), (false, eval e2 X.env)] := by rfl) (hs2 : starEach [e2] X.env = [(false, eval e2 X.env)] := by rfl) : RI X tg (.Call (.Name "range" p) [e1, e2] [] pos) (iRange2 as) :=
  ⟨fun {L env Q Ex} h {W B T G σ H R F} hn tk o n xc => mI_of (pi_range2 hg hm pa_max hs hs2) (a.ok (post_bnd h) hn tk o (fun T1 L1 G1 H1 vs xs q t1 o1 => by
    obtain ⟨⟨i, j⟩, hk, q⟩ := post_bopt q
    obtain ⟨hb, q⟩ := post_br q
    rw [Bool.and_eq_true] at hb
    exact ⟨i, j, int2_of o1.f.2 hk, ⟨(inB_of hb.1).1, (inB_of hb.1).2, (inB_of hb.2).1, (inB_of hb.2).2⟩, n T1 L1 G1 H1 _ _ _ q t1 ((o1.drop o.st).push stab_true trivial) (itok_range i _)⟩) xc)⟩
def lst1 : List D → Option (List D)
  | [.lst ds] => some ds
  | _ => none
theorem lst1_eq {ds es : List D} (h : lst1 ds = some es) : ds = [.lst es] := by
  unfold lst1 at h
  split at h
  · cases h; rfl
  · cases h
def iEnumL (a : Ea) : Ei := fun L env => bnd (a L env) fun L1 xs => bnd (Fzs L1 xs) fun L2 ds => bnd (opt L2 (lst1 ds)) fun L2 ds => some (.val L2 (enumD ds))
theorem ri_enum {tpos : Pos} {elts : List Expr} {kk : Nat} (hg : Gl X "enumerate") (hm : X.mg "enumerate" = none) (a : RA X [e] as) (hs : starEach [e] X.env = [(false, eval e X.env)] := by rfl) : RI X (.Tuple elts kk tpos) (.Call (.Name "enumerate" p) [e] [] pos) (iEnumL as) :=
  ⟨fun {L env Q Ex} h {W B T G σ H R F} hn tk o n xc => mI_of (pi_enum hg hm pa_max hs) (a.ok (post_bnd h) hn tk o (fun T1 L1 G1 H1 vs xs q t1 o1 => by
    obtain ⟨L2, ds, hf, q⟩ := post_fzs (post_bnd q)
    obtain ⟨es, he, q⟩ := post_bopt q
    obtain ⟨G2, s2, o2, r2⟩ := (o1.drop o.st).fzs hf
    have r := r2 vs o1.f.2
    obtain rfl := lst1_eq he
    cases r with
    | cons r1 r3 =>
      cases r3
      obtain ⟨b, us, rfl, h1, h2⟩ := rep_lst r1
      exact ⟨b, us, rfl, ex_l o2.sub h1, n T1 L2 G2 H1 _ _ _ q t1 (o2.push itok_enum.st ⟨h1, h2⟩) itok_enum⟩) xc)⟩
def zip2 : List D → Option (List D × List D)
  | [.lst xs, .lst ys] => some (xs, ys)
  | [.tup xs, .tup ys] => some (xs, ys)
  | _ => none
theorem zip2_eq {ds xs ys : List D} (h : zip2 ds = some (xs, ys)) : ds = [.lst xs, .lst ys] ∨ ds = [.tup xs, .tup ys] := by
  unfold zip2 at h
  split at h
  · cases h; exact .inl rfl
  · cases h; exact .inr rfl
  · cases h
theorem reps2 {K : KW} {G : Hp} {us : List V} {a b : D} (h : Reps K G us [a, b]) : ∃ x y, us = [x, y] ∧ Rep K G x a ∧ Rep K G y b := by
  cases h with
  | cons r t => cases t with
    | cons r' t' => cases t'; exact ⟨_, _, rfl, r, r'⟩
def iZip (a : Ea) : Ei := fun L env => bnd (a L env) fun L1 xs => bnd (Fzs L1 xs) fun L2 ds => bnd (opt L2 (zip2 ds)) fun L2 ds => some (.val L2 (zipD ds.1 ds.2))
theorem ri_zip {tpos : Pos} {elts : List Expr} {kk : Nat} (hg : Gl X "zip") (hm : X.mg "zip" = none) (a : RA X [e1, e2] as) (hs : starEach [e1, e2] X.env = (false, eval e1 X.env) :: starEach [e2] X.env := by rfl) (hpl : (backTo pos (starEach [e2] X.env)).any (·.1) = false := by rfl) : RI X (.Tuple elts kk tpos) (.Call (.Name "zip" p) [e1, e2] [] pos) (iZip as) :=
  ⟨fun {L env Q Ex} h {W B T G σ H R F} hn tk o n xc => mI_of (RZ.pi_zipA hg hm pa_max hs hpl) (a.ok (post_bnd h) hn tk o (fun T1 L1 G1 H1 vs xs q t1 o1 => by
    obtain ⟨L2, ds, hf, q⟩ := post_fzs (post_bnd q)
    obtain ⟨⟨es, fs⟩, he, q⟩ := post_bopt q
    obtain ⟨G2, s2, o2, r2⟩ := (o1.drop o.st).fzs hf
    have r := r2 vs o1.f.2
    rcases zip2_eq he with rfl | rfl
    · obtain ⟨x, y, rfl, r1, r3⟩ := reps2 r
      obtain ⟨b, us, rfl, h1, h2⟩ := rep_lst r1
      obtain ⟨c, ws, rfl, h3, h4⟩ := rep_lst r3
      exact ⟨b, c, us, ws, rfl, .inl ⟨ex_l o2.sub h1, ex_l o2.sub h3, n T1 L2 G2 H1 _ _ _ q t1 (o2.push itok_zip.st ⟨⟨h1, h2⟩, h3, h4⟩) itok_zip⟩⟩
    · obtain ⟨x, y, rfl, r1, r3⟩ := reps2 r
      obtain ⟨b, us, rfl, h1, h2⟩ := rep_tup r1
      obtain ⟨c, ws, rfl, h3, h4⟩ := rep_tup r3
      exact ⟨b, c, us, ws, rfl, .inr ⟨ex_t o2.sub h1, ex_t o2.sub h3, n T1 L2 G2 H1 _ _ _ q t1 (o2.push itok_zipT.st ⟨⟨h1, h2⟩, h3, h4⟩) itok_zipT⟩⟩) xc)⟩
end
end FL

set_option Elab.async false
set_option linter.all false
set_option maxRecDepth 100000
set_option maxHeartbeats 4000000
namespace FL
open PySem PySem.Spec PyProof.Rows L2
/-! ### list comprehensions -/
def wipeV (e : VEnv) : List Nat → VEnv
  | [] => e
  | v :: vs => (wipeV e vs).set v none
theorem wipeV_len (σ : VEnv) : ∀ vs, (wipeV σ vs).length = σ.length
  | [] => rfl
  | v :: vs => by show ((wipeV σ vs).set v none).length = _; rw [List.length_set, wipeV_len σ vs]
theorem wipeV_get (σ : VEnv) (i : Nat) : ∀ vs, (wipeV σ vs)[i]? = if i ∈ vs ∧ i < σ.length then some none else σ[i]?
  | [] => by simp [wipeV]
  | v :: vs => by
    show ((wipeV σ vs).set v none)[i]? = _
    rw [List.getElem?_set, wipeV_get σ i vs, wipeV_len]
    by_cases c : v = i
    · subst c
      by_cases l : v < σ.length
      · simp [l]
      · simp [l]
    · have c' : i ≠ v := fun z => c z.symm
      simp [c, c']
theorem SlV.wipe {K : KW} {T : Tb} {σ γ : L2.St} {G : Hp} {env : VEnv} (h : SlV K T (σ ++ γ) G env) (vs : List Nat) : SlV K T (L2.wipe σ vs ++ γ) G (wipeV env vs) := by
  have hl := h.len
  rw [List.length_append] at hl
  refine ⟨by rw [List.length_append, wipe_len, wipeV_len, hl], fun i x q => ?_⟩
  rw [wipeV_get] at q
  by_cases c : i ∈ vs ∧ i < env.length
  · rw [if_pos c] at q; cases q
  · rw [if_neg c] at q
    obtain ⟨v, hv, r⟩ := h.get i x q
    refine ⟨v, ?_, r⟩
    by_cases hi : i < σ.length
    · rw [List.getElem?_append_left (by rw [wipe_len]; exact hi), wipe_get, if_neg (fun z => c ⟨z.1, by omega⟩)]
      rw [List.getElem?_append_left hi] at hv; exact hv
    · rw [List.getElem?_append_right (by rw [wipe_len]; omega), wipe_len]
      rw [List.getElem?_append_right (by omega)] at hv; exact hv
theorem stab_slv {K : KW} {T : Tb} (σ : L2.St) (env : VEnv) : Stab (fun G => SlV K T σ G env) := fun _ _ e h => h.mono e (List.prefix_refl _)
def low (m : Nat) : List DV → Bool
  | [] => true
  | .d _ :: r => low m r
  | .h k :: r => Nat.blt k m && low m r
def cut1 (m : Nat) : OE → OE
  | .own c => match low m (kids c) with
    | true => .own c
    | false => .gone
  | e => e
def cutL (m : Nat) (L : OL) : OL := (L.take m).map (cut1 m)
section
variable {K : KW} {B : Fra} {T : Tb} {L : OL} {G : Hp} {σ : L2.St} {H : Hp} {env : VEnv} {F : Hp → Prop}
theorem low_dreps {m : Nat} : ∀ {us : List V} {xs : List DV}, DReps K T G us xs → low m xs = true → DReps K (T.take m) G us xs
  | _, _, .nil, _ => .nil
  | _, _, .cons (.d r) b, h => .cons (.d r) (low_dreps b h)
  | _, _, .cons (.h hk) b, h => by
    simp only [low, Bool.and_eq_true] at h
    refine .cons (.h ?_) (low_dreps b h.2)
    rw [List.getElem?_take, if_pos (by have := h.1; simpa using this)]
    exact hk
theorem low_at {m : Nat} {p : Addr} {c : OO} (a : AtO K T G H p c) (h : low m (kids c) = true) : AtO K (T.take m) G H p c := by
  cases c with
  | p x => exact a
  | l xs => obtain ⟨us, hp, r⟩ := a; exact ⟨us, hp, low_dreps r h⟩
  | k xs => obtain ⟨o, us, hp, q, r⟩ := a; exact ⟨o, us, hp, q, low_dreps r h⟩
  | o C xs => obtain ⟨dx, us, hp, q, r⟩ := a; exact ⟨dx, us, hp, q, low_dreps r h⟩
theorem OkF.cut {σ' : L2.St} {env' : VEnv} (o : OkF K B T L G σ H env F) (m : Nat) (s : SlV K (T.take m) (σ' ++ B.γ) G env') (nl : σ'.length = B.n) : OkF K B (T.take m) (cutL m L) G σ' H env' F := by
  have back : ∀ {j : Nat} {e : OE}, (cutL m L)[j]? = some e → ∃ e0, L[j]? = some e0 ∧ j < m ∧ cut1 m e0 = e := by
    intro j e h
    unfold cutL at h
    rw [List.getElem?_map, List.getElem?_take] at h
    by_cases c : j < m
    · rw [if_pos c] at h
      cases hk : L[j]? with
      | none => rw [hk] at h; cases h
      | some e0 => rw [hk] at h; exact ⟨e0, rfl, c, by simpa using h⟩
    · rw [if_neg c] at h; cases h
  have backT : ∀ {j : Nat} {p : Addr}, (T.take m)[j]? = some p → T[j]? = some p := by
    intro j p h
    rw [List.getElem?_take] at h
    split at h
    · exact h
    · cases h
  have ow : ∀ {j : Nat} {c : OO}, (cutL m L)[j]? = some (.own c) → L[j]? = some (.own c) ∧ low m (kids c) = true := by
    intro j c h
    obtain ⟨e0, h1, h2, h3⟩ := back h
    cases e0 with
    | own c0 =>
      simp only [cut1] at h3
      split at h3
      · rename_i hl; cases h3; exact ⟨h1, hl⟩
      · cases h3
    | fz x => cases h3
    | gone => cases h3
  refine { o with sl := s, nl := nl, tl := by simp [cutL, o.tl], inj := ?_, own := ?_, nG := ?_, hid := ?_ }
  · intro i j p c c' h1 h2 h3 h4
    exact o.inj i j p c c' (backT h1) (backT h2) (ow h3).1 (ow h4).1
  · intro j p e h1 h2
    cases e with
    | own c =>
      obtain ⟨h3, h4⟩ := ow h2
      exact low_at (o.own j p _ (backT h1) h3 : AtO K T G H p c) h4
    | fz x =>
      obtain ⟨e0, h3, h4, h5⟩ := back h2
      cases e0 with
      | own c0 =>
        simp only [cut1] at h5
        split at h5 <;> cases h5
      | fz y => cases h5; exact o.own j p _ (backT h1) h3
      | gone => cases h5
    | gone => trivial
  · intro j p c h1 h2
    exact o.nG j p c (backT h1) (ow h2).1
  · intro a u z
    obtain ⟨h1, h2, h3⟩ := o.hid a u z
    exact ⟨h1, h2, fun j c a1 a2 => h3 j c (backT a1) (ow a2).1⟩
end
def accOf (n : Nat) (L : OL) : Option (List D) := match L[n]? with
  | some (.own (.p (.lst acc))) => some acc
  | _ => none
/-- no exception leaves -/
def bn {α β : Type} (m : Mo α) (k : OL → α → Mo β) : Mo β := match m with
  | some (.val L a) => k L a
  | _ => none
def noX : XQ := fun _ _ => False
theorem post_bn {α β : Type} {m : Mo α} {k : OL → α → Mo β} {Q : OL → β → Prop} {Ex : OL → XD → Prop} (h : post (bn m k) Q Ex) : post m (fun L a => post (k L a) Q Ex) noX := by
  cases m with
  | none => exact h
  | some o => cases o <;> exact h
def lcF (n : Nat) (g : Gv) (tt : Et) (te : Ev) (env : VEnv) : List D → OL → Mo Unit
  | [], L => some (.val L ())
  | x :: xs, L => match g L (.d x) env with
    | none => none
    | some e1 => bn (tt L e1) fun L1 b => br b
      (bn (te L1 e1) fun L2 y => bn (Fz L2 y) fun L3 d => match accOf n L3 with
        | none => none
        | some acc => br (szB acc.length) (lcF n g tt te env xs (cutL (n + 1) (L3.set n (.own (.p (.lst (acc ++ [d]))))))) none)
      (lcF n g tt te env xs (cutL (n + 1) L1))
theorem post_lc {n : Nat} {g : Gv} {tt : Et} {te : Ev} {env : VEnv} {x : D} {xs : List D} {L : OL} {Q : OL → Unit → Prop} {Ex : XQ} (h : post (lcF n g tt te env (x :: xs) L) Q Ex) :
    ∃ e1, g L (.d x) env = some e1 ∧ post (tt L e1) (fun L1 b => match b with
      | true => post (te L1 e1) (fun L2 y => ∃ L3 d acc, frz 8 L2 y = some (L3, d) ∧ accOf n L3 = some acc ∧ szB acc.length = true ∧ post (lcF n g tt te env xs (cutL (n + 1) (L3.set n (.own (.p (.lst (acc ++ [d]))))))) Q Ex) noX
      | false => post (lcF n g tt te env xs (cutL (n + 1) L1)) Q Ex) noX := by
  unfold lcF at h
  split at h
  · exact h.elim
  · rename_i e1 he
    refine ⟨e1, he, ?_⟩
    have h := post_bn h
    cases ht : tt L e1 with
    | none => rw [ht] at h; exact h
    | some o =>
      rw [ht] at h
      cases o with
      | exc L x => exact h
      | val L1 b =>
        cases b with
        | false => exact h
        | true =>
          have h := post_bn (show post (bn (te L1 e1) _) Q Ex from h)
          show post (te L1 e1) _ noX
          cases hq : te L1 e1 with
          | none => rw [hq] at h; exact h
          | some o =>
            rw [hq] at h
            cases o with
            | exc L x => exact h
            | val L2 y =>
              have h := post_bn (show post (bn (Fz L2 y) _) Q Ex from h)
              obtain ⟨L3, d, hf, h⟩ := post_fz h
              cases ha : accOf n L3 with
              | none => rw [ha] at h; exact h.elim
              | some acc =>
                rw [ha] at h
                obtain ⟨hs, h⟩ := post_br h
                exact ⟨L3, d, acc, hf, ha, hs, h⟩
/-- the tests of a comprehension -/
structure RTs (X : Cx) (es : List Expr) (ev : Et) : Prop where
  ok : ∀ {L env Q Ex}, post (ev L env) Q Ex → ∀ {W B T G σ H R F}, B.n = X.N.length → Takes X W → OkF (kw X) B T L G σ H env F → NrmB (kw X) B T σ env F Q R → Xc (kw X) B T σ env F Ex W → ∀ pins s, Inv X pins σ H s → ∃ t, PTs X es t ∧ t σ H R
def tYesE : Et := fun L _ => some (.val L true)
theorem rts_nil {X : Cx} : RTs X [] tYesE := ⟨fun {L env Q Ex} h {W B T G σ H R F} hn tk o n xc pins s I => ⟨tYes, pts_nil, n T L G H true h (List.prefix_refl _) o⟩⟩
theorem rts_one {X : Cx} {e : Expr} {te : Et} (a : RT X e te) : RTs X [e] te := ⟨fun h _ _ _ _ _ _ _ _ hn tk o n xc pins s I => ⟨mT X e, pts_one pt_max, a.ok h hn tk o n xc⟩⟩
section
variable {X : Cx} {elt tg iter : Expr} {ifs : List Expr} {scope : Scope} {own : List (Str × Nat)} {pos : Pos}
abbrev Blk (X : Cx) (scope : Scope) (x : Shared × Hp × Addr × List (Str × Addr) × List Addr) : Cx := X.blk x.1 x.2.1 scope (compEnvC scope x.2.2.2.1 x.2.2.1 X.env) x.2.2.2.2
def mGb (X : Cx) (scope : Scope) (tg : Expr) : TG := fun v σ H R => ∀ x, mG (Blk X scope x) tg v σ H R
def mEb (X : Cx) (scope : Scope) (e : Expr) : TE := fun σ H R => ∀ x, mE (Blk X scope x) e σ H R
def mTb (X : Cx) (scope : Scope) (es : List Expr) : TT := fun σ H R => ∀ x pins s, Inv (Blk X scope x) pins σ H s → ∃ t, PTs (Blk X scope x) es t ∧ t σ H R
theorem cut_take {T T2 : Tb} (h : T <+: T2) : T2.take T.length = T := by
  obtain ⟨r, rfl⟩ := h
  simp
def eLc (vs : List Nat) (i : Ei) (g : Gv) (t : Et) (b : Ev) : Ev := fun L env => bnd (i L env) fun L1 xs => bnd (lcF L1.length g t b (wipeV env vs) xs (L1 ++ [.own (.p (.lst []))])) fun L2 _ => some (.val L2 (.h L1.length))
theorem lc_ok {ei : Ei} {gf : Gv} {tf : Et} {bf : Ev} {ws : List Nat} (i : RI X tg iter ei) (g : ∀ x, RG (Blk X scope x) tg ws gf) (t : ∀ x, RTs (Blk X scope x) ifs tf) (b : ∀ x, RE (Blk X scope x) elt bf) {vs : List Nat} (hv : ∀ j ∈ ws, j ∈ vs)
    {L : OL} {env : VEnv} {Q : QV} {Ex : XQ} (h : post (eLc vs ei gf tf bf L env) Q Ex)
    {W : WX} {B : Fra} {T : Tb} {G : Hp} {σ : L2.St} {H : Hp} {R : VK} {F : Hp → Prop} (hB : B.n = X.N.length) (tk : Takes X W) (o : OkF (kw X) B T L G σ H env F) (n : Nrm (kw X) B T σ env F Q R) (xc : Xc (kw X) B T σ env F Ex W) :
    tLc (mI X tg iter) (mGb X scope tg) (mTb X scope ifs) (mEb X scope elt) vs σ H R := by
  refine i.ok (post_bnd h) hB tk o (fun T1 L1 G1 H1 xs J Fi q t1 o1 jo p hp => ?_) xc
  have q := post_bnd q
  have o0 := o1.alloc (c := .p (.lst [])) hp ⟨[], upd_same, .nil⟩
  have hl1 : T1.length = L1.length := o1.tl
  generalize hT0 : T1 ++ [p] = T0 at o0
  have l0 : T0.length = L1.length + 1 := by rw [← hT0]; simp [hl1]
  have p0 : T0[L1.length]? = some p := by rw [← hT0, ← hl1]; simp
  have t0 : T1 <+: T0 := by rw [← hT0]; exact List.prefix_append _ _
  have sF : Stab (fun G => (F G ∧ SlV (kw X) T0 (σ ++ B.γ) G env) ∧ Fi G) := stab_and (stab_and o.st (stab_slv _ _)) jo.st
  have wl : (wipe σ vs).length = B.n := by rw [wipe_len]; exact o.nl
  generalize hn : L1.length = m at q l0 p0
  have key : ∀ (k : Nat) (L2 : OL), post (lcF m gf tf bf (wipeV env vs) (xs.drop k) L2) (fun L2 _ => post (some (.val L2 (.h m)) : Mo DV) Q Ex) Ex → post (lcF m gf tf bf (wipeV env vs) (xs.drop k) L2) (fun L2 _ => Q L2 (.h m)) Ex := fun _ _ z => z
  refine ⟨fun i k H' => k = xs.length - i ∧ i ≤ xs.length ∧ ∃ L2 G2, post (lcF m gf tf bf (wipeV env vs) (xs.drop i) L2) (fun L2 _ => Q L2 (.h m)) Ex ∧ OkF (kw X) B T0 L2 G2 (wipe σ vs) H' (wipeV env vs) (fun G => (F G ∧ SlV (kw X) T0 (σ ++ B.γ) G env) ∧ Fi G),
    ⟨xs.length, by simp, Nat.zero_le _, _, G1, q, (o0.as sF ⟨⟨o0.f.1, o0.sl⟩, o0.f.2⟩).se (o0.sl.wipe vs) wl⟩, ?_⟩
  rintro i k H' ⟨rfl, hi, L2, G2, iv, o2⟩
  by_cases hlt : i < xs.length
  · refine .inr ⟨jo.go G2 H' i o2.f.2 o2.sub hlt, fun H3 => ∃ L2 G2, post (lcF m gf tf bf (wipeV env vs) (xs.drop (i + 1)) L2) (fun L2 _ => Q L2 (.h m)) Ex ∧ OkF (kw X) B T0 L2 G2 (wipe σ vs) H3 (wipeV env vs) (fun G => (F G ∧ SlV (kw X) T0 (σ ++ B.γ) G env) ∧ Fi G), fun H3 z => ⟨xs.length - (i + 1), by omega, rfl, hlt, z⟩, fun x H3 y => ?_⟩
    obtain ⟨d, G3, hd, sm, o3, r⟩ := o2.yld jo hlt y
    have ed : xs.drop i = d :: xs.drop (i + 1) := by
      obtain ⟨l, e⟩ := List.getElem?_eq_some_iff.mp hd
      rw [← e]; exact List.drop_eq_getElem_cons l
    rw [ed] at iv
    obtain ⟨e1, hg, iv⟩ := post_lc iv
    have done : ∀ {T5 : Tb} {L5 : OL} {G5 : Hp} {σ5 : List (Option V)} {H5 : Hp} {e5 : VEnv}, T0 <+: T5 → OkF (kw X) B T5 L5 G5 σ5 H5 e5 (fun G => (F G ∧ SlV (kw X) T0 (σ ++ B.γ) G env) ∧ Fi G) → OkF (kw X) B T0 (cutL (m + 1) L5) G5 (wipe σ vs) H5 (wipeV env vs) (fun G => (F G ∧ SlV (kw X) T0 (σ ++ B.γ) G env) ∧ Fi G) := by
      intro T5 L5 G5 σ5 H5 e5 t5 o5
      have et := cut_take t5
      rw [l0] at et
      have s5 : SlV (kw X) (T5.take (m + 1)) (wipe σ vs ++ B.γ) G5 (wipeV env vs) := by rw [et]; exact o5.f.1.2.wipe vs
      have o6 := o5.cut (m + 1) s5 wl
      rw [et] at o6
      exact o6
    intro c
    refine (g c).ok hg vs hB hv o3 (.d r) fun σ4 ew o4 => ⟨ew.trans (wipe_wipe σ vs), ?_⟩
    intro c2 pins s I
    refine (t c2).ok iv hB takes0 o4 (fun T5 L5 G5 H5 b5 q5 t5 o5 => ?_) (fun _ _ _ _ _ _ _ z => z.elim) pins s I
    cases b5 with
    | false => exact ⟨_, G5, q5, done t5 o5⟩
    | true =>
      intro c3
      refine (b c3).ok q5 hB takes0 o5 (fun T6 L6 G6 H6 v x q6 t6 o6 => ?_) (fun _ _ _ _ _ _ _ z => z.elim)
      obtain ⟨L7, y7, acc, hf, ha, hlen, q7⟩ := q6
      obtain ⟨G7, s7, o7, r7⟩ := (o6.drop sF).fz hf
      have rv := r7 v o6.f.2
      have hL7 : L7[m]? = some (.own (.p (.lst acc))) := by
        unfold accOf at ha
        split at ha
        · rename_i h; cases ha; exact h
        · cases ha
      have pT : T6[m]? = some p := pre_get (t5.trans t6) p0
      obtain ⟨us, hu, ru⟩ := (o7.own m p _ pT hL7 : AtO (kw X) T6 G7 H6 p (.p (.lst acc)))
      refine ⟨us, hu, by rw [ru.length]; exact szB_lt hlen, _, G7, q7, done (t5.trans t6) (o7.mod (o := .lst (us ++ [v])) (c := .p (.lst (acc ++ [y7]))) pT hL7 ⟨us ++ [v], upd_same, ru.append (.cons rv .nil)⟩)⟩
  · have e : i = xs.length := by omega
    subst e
    rw [List.drop_length] at iv
    refine .inl ⟨jo.stop G2 H' o2.f.2 o2.sub, ?_⟩
    have o8 := o2.se o2.f.1.2 o.nl
    exact n T0 L2 G2 H' (.ref p) (.h m) iv (t1.trans t0) ((o8.as o.st o8.f.1.1).push (stab_drep _ _) (.h p0))
theorem re_lc {ei : Ei} {gf : Gv} {tf : Et} {bf : Ev} {ws : List Nat} (hc : X.calm = true) (hN : X.N.Nodup) (bo : BlkOk X.N X.env.scope scope own) (i : RI X tg iter ei) (g : ∀ x, RG (Blk X scope x) tg ws gf) (t : ∀ x, RTs (Blk X scope x) ifs tf) (b : ∀ x, RE (Blk X scope x) elt bf)
    (hv : ∀ j ∈ ws, j ∈ own.map (·.2) := by decide) (hs : ∀ x, foldedSetIterable iter X.env x = pure x := by intro _; rfl) :
    RE X (.ListComp elt [⟨tg, iter, ifs, 0⟩] scope pos) (eLc (own.map (·.2)) ei gf tf bf) :=
  ⟨fun {L env Q Ex} h {W B T G σ H R F} hn tk o n xc => mE_of (pe_lc (own := own) hc hN pi_max bo (fun s H C cl fp => ⟨fun pins s' σ H' v u Q I r hh => hh (s, H, C, cl, fp) pins s' u I r⟩)
    (fun s H C cl fp => ⟨fun pins s' σ H' Q I hh => by obtain ⟨t, pt, ht⟩ := hh (s, H, C, cl, fp) pins s' I; exact pt.run pins s' σ H' Q I ht⟩) (fun s H C cl fp => ⟨fun pins s' σ H' Q I hh => hh (s, H, C, cl, fp) pins s' I⟩) hs) (lc_ok i g t b hv h hn tk o n xc)⟩
end
end FL

set_option Elab.async false
set_option linter.all false
set_option maxRecDepth 100000
set_option maxHeartbeats 4000000
namespace FL
open PySem PySem.Spec PyProof.Rows L2
/-! ### defs as functions: what is lent, the arguments; what is lent and new behind it, the value -/
abbrev Fn := OL → List DV → Mo DV
abbrev B0 (Z : Hp) : Fra := ⟨0, Z, []⟩
def SpF (K : KW) (m : Fn) : Sp := fun vs H Q E => ∃ (Z : Hp) (T0 : Tb) (L0 : OL) (G : Hp) (xs : List DV) (Qd : QV) (Ed : XQ), OkF K (B0 Z) T0 L0 G [] H [] (fun G => DReps K T0 G vs xs) ∧ post (m L0 xs) Qd Ed ∧
  (∀ T' L' G' H' v x, Qd L' x → T0 <+: T' → Sm G G' → OkF K (B0 Z) T' L' G' [] H' [] (fun G => DRep K T' G v x) → Q v H') ∧
  (∀ T' L' G' H' cls d x, Ed L' x → T0 <+: T' → Sm G G' → OkF K (B0 Z) T' L' G' [] H' [] (fun _ => True) → XRep K G' H' cls d x → E cls d H')
structure FnV (P : Program) (W : World) (K : PySem.W.Frag) (mg : Str → Option Value) (base : Heap) (k : Nat) (f : Addr) (fd : FuncData) (ps : List Str) (sp : Sp) : Prop where
  len : ∀ xs H T E, sp xs H T E → xs.length = ps.length
  run : ∀ (B : Around) (ou : List PySem.Env) (c : Shared) (H : Hp) (ar : Args) (us : List Value) (xs : List V) (T : VK) (E : XK), B.guards = some [] → Room k B → Env0 P W K mg base B ou c H → BindsTo c fd ar (ps.zip us) → Vals xs us → sp xs H T E →
    codeAny (model P W) B (.call (.ref f) ar) (CR (L2.CX P W) ou P W H c T E) c
abbrev bx (P : Program) (W : World) (K : PySem.W.Frag) (mg : Str → Option Value) (base : Heap) (N : List Str) (qual : Str) (st : Stmt) (f : Addr) (cdv : Value) (B : Around) (ou : List PySem.Env) (c : Shared) (H : Hp) (E : XK) : Cx := cxOf (L2.CX P W) P W K mg base N qual (defScope st) f cdv B ou c H E
section
variable {P : Program} {W : World} {K : PySem.W.Frag} {mg : Str → Option Value} {base : Heap}
theorem fnV_of {x qual : Str} {st : Stmt} {f : Addr} {fd : FuncData} {N ps : List Str} {k : Nat} {sp : Sp} {dvs : List V} {kw : List (Str × V)} (F : FunD K x qual (defArgs st) (defBody st) (defScope st) dvs kw f fd) (S : FnScope N ps (defScope st)) (hlen : ∀ xs H T E, sp xs H T E → xs.length = ps.length)
    (hb : ∀ (cdv : Value) (B : Around) (ou : List PySem.Env) (c : Shared) (H : Hp) (xs : List V) (T : VK) (E : XK), B.guards = some [] → Room k (B.deeper (envOfC qual (defScope st) c.heap.objs.size f cdv)) → sp xs H T E →
      mSs (bx P W K mg base N qual st f cdv B ou c H E) (defBody st) { nx := fun _ H' => T .non H', rt := T } (start N xs) H) : FnV P W K mg base (k + 1) f fd ps sp := by
  obtain ⟨oc, od, dV, kV, doc, pm, an, cdv, ct, osl, rfl, lk, hcd, _, _⟩ := F.ex
  refine ⟨hlen, fun B ou c H ar us xs T E hg hr e0 hbd r hsp => ?_⟩
  have stay := fun b o e => (e0.bs b o e).1
  have kin : K.In c.heap := e0.mod.kin.keeps stay
  refine codeAny_call_function hr.depth (kin _ _ lk) rfl S.co S.gen rfl (PySem.W.codeRec_of kin hcd) (hbd _ _ _ _ (wpAny_newFunctionEnv_cells S.kind (fun y hy => ?_) fun env he c1 ic => ?_))
  · obtain ⟨n, v⟩ := y
    exact (S.par n (List.of_mem_zip hy).1).elim .inl fun q => .inr ⟨q, PySem.W.cellsFrom_some _ _ _ (.inl q)⟩
  · subst he
    refine ⟨(e0.mod.nolimit.keeps stay).keeps ic.toInCall.keep, codeAny_func ?_⟩
    have I : Inv (bx P W K mg base N qual st f cdv B ou c H E) [] (start N xs) H c1 := inv_start S hr.hd e0 (hlen _ _ _ _ hsp) r ic
    refine wpAny_mono (hb cdv B ou c H xs T E hg (hr.deeper _) hsp [] c1 I) (fun fl c2 hs => ?_) fun _ _ z => z
    cases fl with
    | ret u => obtain ⟨v, σ', H', J, rv, q⟩ := hs; exact ⟨v, H', J.os, J.bare, J.base, J.hok, rv, q⟩
    | next => obtain ⟨σ', H', J, q⟩ := hs; exact ⟨.non, H', J.os, J.bare, J.base, J.hok, rfl, q⟩
    | brk => obtain ⟨_, _, _, q⟩ := hs; exact q.elim
    | cont => obtain ⟨_, _, _, q⟩ := hs; exact q.elim
end
/-! ### a def's end -/
def pinB : Nat → VEnv → Bool
  | _, [] => true
  | j, some (.h q) :: r => Nat.beq q j && pinB (j + 1) r
  | _, _ => false
theorem pinB_get : ∀ {j : Nat} {e : VEnv}, pinB j e = true → ∀ (i : Nat), i < e.length → e[i]? = some (some (.h (j + i)))
  | _, [], _, i, hi => by simp at hi
  | j, none :: r, h, i, hi => by simp [pinB] at h
  | j, some (.d x) :: r, h, i, hi => by simp [pinB] at h
  | j, some (.h q) :: r, h, i, hi => by
    simp only [pinB, Bool.and_eq_true] at h
    cases i with
    | zero => rw [Nat.eq_of_beq_eq_true h.1]; rfl
    | succ i =>
      have := pinB_get h.2 i (by simpa using hi)
      rw [List.getElem?_cons_succ, this]
      congr 3; omega
def finK (L : OL) (x : DV) (pins : VEnv) : List Nat := reach 200 L (hnds [x]) (pinR L pins)
def fin0 (L : OL) (x : DV) (pins : VEnv) : Option (OL × DV) := match pinB 0 (renP (finK L x pins) pins) with
  | true => match renV (finK L x pins) L x with
    | some y => some (renL (finK L x pins) L, y)
    | none => none
  | false => none
def lent (T0 : Tb) : L2.St := T0.map fun p => some (V.ref p)
section
variable {K : KW} {B : Fra} {T T0 : Tb} {L L' : OL} {G : Hp} {σ : L2.St} {H : Hp} {env : VEnv} {F : Hp → Prop}
theorem slv_nil {G : Hp} : SlV K T [] G [] := ⟨rfl, fun i x h => by simp at h⟩
theorem pins_sl (o : OkF K B T L G σ H env F) : SlV K T B.γ G (env.drop B.n) := by
  have hl := o.sl.len
  rw [List.length_append, o.nl] at hl
  refine ⟨by rw [List.length_drop]; omega, fun i x h => ?_⟩
  rw [List.getElem?_drop] at h
  obtain ⟨v, hv, r⟩ := o.sl.get _ x h
  rw [List.getElem?_append_right (by rw [o.nl]; omega), o.nl] at hv
  exact ⟨v, by rw [show B.n + i - B.n = i by omega] at hv; exact hv, r⟩
theorem fin0_ok {v : V} {x y : DV} (o : OkF K B T L G σ H env F) (hγ : B.γ = lent T0) (r : DRep K T G v x) (h : fin0 L x (env.drop B.n) = some (L', y)) :
    ∃ T', T0 <+: T' ∧ OkF K (B0 B.Z) T' L' G [] H [] (fun G => DRep K T' G v y) := by
  unfold fin0 at h
  split at h
  · rename_i hp
    split at h
    · rename_i y' hy
      cases h
      generalize hk : finK L x (env.drop B.n) = ks at hp hy
      have nd : ks.Nodup := by rw [← hk]; exact reach_nodup _ _ _ _ pinR_nodup
      refine ⟨renT ks T, ?_, o.ren' (B' := B0 B.Z) nd slv_nil rfl (fun a u z => let ⟨h1, h2, h3⟩ := o.hid a u z; ⟨h1, h2, fun k _ c => h3 k c⟩) (stab_drep _ _) (o.renV r hy)⟩
      have s := OkF.renSlP (ks := ks) (pins_sl o)
      have hl : (renP ks (env.drop B.n)).length = T0.length := by rw [← s.len, hγ]; simp [lent]
      have key : ∀ i, i < T0.length → (renT ks T)[i]? = T0[i]? := fun i hi => by
        have e := pinB_get hp i (by rw [hl]; exact hi)
        rw [Nat.zero_add] at e
        obtain ⟨v', hv, rv⟩ := s.get i _ e
        rw [hγ, lent, List.getElem?_map, List.getElem?_eq_getElem hi] at hv
        cases hv
        cases rv with
        | h hq => rw [hq, List.getElem?_eq_getElem hi]
      refine List.prefix_iff_eq_take.mpr (List.ext_getElem? fun i => ?_)
      rw [List.getElem?_take]
      by_cases c : i < T0.length
      · rw [if_pos c, key i c]
      · rw [if_neg c, List.getElem?_eq_none (by omega)]
    · cases h
  · cases h
end
def rets (own : Bool) (L : OL) (x : DV) (pins : VEnv) : Mo DV := match own with
  | true => match fin0 L x pins with
    | some (L', y) => some (.val L' y)
    | none => none
  | false => match frz 8 L x with
    | some (L1, d) => match fin0 L1 (.d d) pins with
      | some (L', y) => some (.val L' y)
      | none => none
    | none => none
def endF (own : Bool) (n : Nat) (o : Option So) : Mo DV := match o with
  | some (.nx L env) => rets own L (.d .non) (env.drop n)
  | some (.rt L x env) => rets own L x (env.drop n)
  | some (.ex L env x) => match fin0 L (.d .non) (env.drop n) with
    | some (L', _) => some (.exc L' x)
    | none => none
  | _ => none
def pinE : Nat → Nat → VEnv
  | _, 0 => []
  | j, m + 1 => some (.h j) :: pinE (j + 1) m
def nones : Nat → VEnv
  | 0 => []
  | n + 1 => none :: nones n
def somes : List DV → VEnv
  | [] => []
  | x :: xs => some x :: somes xs
def startE (n : Nat) (xs : List DV) (m : Nat) : VEnv := somes xs ++ (nones (n - xs.length) ++ pinE 0 m)
/-- the def with n names, np of them parameters -/
def mkF (own : Bool) (n np : Nat) (sv : Sv) : Fn := fun L0 xs => match Nat.beq xs.length np with
  | true => endF own n (sv L0 (startE n xs L0.length))
  | false => none
theorem pinE_get : ∀ (j m i : Nat), (pinE j m)[i]? = if i < m then some (some (.h (j + i))) else none
  | _, 0, i => by simp [pinE]
  | j, m + 1, 0 => by simp [pinE]
  | j, m + 1, i + 1 => by
    rw [pinE, List.getElem?_cons_succ, pinE_get (j + 1) m i]
    by_cases c : i < m
    · rw [if_pos c, if_pos (by omega)]; congr 3; omega
    · rw [if_neg c, if_neg (by omega)]
theorem pinE_len : ∀ (j m : Nat), (pinE j m).length = m
  | _, 0 => rfl
  | j, m + 1 => by rw [pinE, List.length_cons, pinE_len]
theorem nones_eq : ∀ n, nones n = List.replicate n none
  | 0 => rfl
  | n + 1 => by rw [nones, nones_eq n]; rfl
theorem somes_eq : ∀ xs, somes xs = xs.map some
  | [] => rfl
  | x :: xs => by rw [somes, somes_eq xs]; rfl
theorem DReps.get {K : KW} {T : Tb} {G : Hp} : ∀ {vs : List V} {ds : List DV} {i : Nat} {d : DV}, DReps K T G vs ds → ds[i]? = some d → ∃ v, vs[i]? = some v ∧ DRep K T G v d
  | _, _, _, _, .nil, e => by simp at e
  | _, _, 0, _, .cons r _, e => by simp at e; subst e; exact ⟨_, rfl, r⟩
  | _, _, i + 1, d, .cons _ t, e => by
    obtain ⟨u, h1, h2⟩ := DReps.get (i := i) (d := d) t (by simpa using e)
    exact ⟨u, by simpa using h1, h2⟩
section
variable {P : Program} {W : World} {K : KW} {mg : Str → Option Value} {base : Heap}
theorem slv_start {G : Hp} {T0 : Tb} {N : List Str} {vs : List V} {xs : List DV} {m : Nat} (r : DReps K T0 G vs xs) (hm : T0.length = m) : SlV K T0 (L2.start N vs ++ lent T0) G (startE N.length xs m) := by
  have hl := r.length
  have h1 : (L2.start N vs).length = xs.length + (N.length - xs.length) := by simp [L2.start, hl]
  unfold startE
  rw [nones_eq, somes_eq, ← List.append_assoc]
  refine ⟨by simp [L2.start, lent, pinE_len, hl, hm], fun i x h => ?_⟩
  by_cases c : i < (L2.start N vs).length
  · rw [List.getElem?_append_left c]
    rw [List.getElem?_append_left (by rw [h1] at c; simpa using c)] at h
    unfold L2.start
    by_cases hi : i < xs.length
    · rw [List.getElem?_append_left (by simpa using hi), List.getElem?_map] at h
      cases e : xs[i]? with
      | none => rw [e] at h; cases h
      | some y =>
        rw [e] at h; cases h
        obtain ⟨v, hv, rv⟩ := r.get e
        exact ⟨v, by rw [List.getElem?_append_left (by rw [List.length_map, hl]; exact hi), List.getElem?_map, hv]; rfl, rv⟩
    · rw [List.getElem?_append_right (by simpa using Nat.le_of_not_lt hi), List.getElem?_replicate] at h
      split at h <;> cases h
  · rw [List.getElem?_append_right (by omega)]
    rw [List.getElem?_append_right (by rw [h1] at c; simp; omega), pinE_get] at h
    split at h
    · rename_i hlt
      cases h
      rw [h1]
      simp only [List.length_append, List.length_map, List.length_replicate, Nat.zero_add] at hlt ⊢
      rw [← hm] at hlt
      refine ⟨.ref T0[i - (xs.length + (N.length - xs.length))], ?_, .h (List.getElem?_eq_getElem hlt)⟩
      rw [lent, List.getElem?_map, List.getElem?_eq_getElem hlt]
      rfl
    · cases h
theorem rets_ok {B : Fra} {T T0 : Tb} {L : OL} {G : Hp} {σ : L2.St} {H : Hp} {env : VEnv} {F : Hp → Prop} {own : Bool} {v : V} {x : DV} {Q : QV} {Ex : XQ} (o : OkF K B T L G σ H env F) (hγ : B.γ = lent T0) (r : DRep K T G v x) (h : post (rets own L x (env.drop B.n)) Q Ex) :
    ∃ L' y T' G', Q L' y ∧ T0 <+: T' ∧ Sm G G' ∧ F G' ∧ OkF K (B0 B.Z) T' L' G' [] H [] (fun G => DRep K T' G v y) := by
  unfold rets at h
  cases own with
  | true =>
    cases e : fin0 L x (env.drop B.n) with
    | none => simp only [e] at h; exact h.elim
    | some q =>
      obtain ⟨L', y⟩ := q
      simp only [e] at h
      obtain ⟨T', t, o'⟩ := fin0_ok o hγ r e
      exact ⟨L', y, T', G, h, t, Sm.refl _, o.f, o'⟩
  | false =>
    cases ef : frz 8 L x with
    | none => simp only [ef] at h; exact h.elim
    | some q =>
      obtain ⟨L1, d⟩ := q
      simp only [ef] at h
      obtain ⟨G1, s1, o1, r1⟩ := o.fz ef
      cases e : fin0 L1 (.d d) (env.drop B.n) with
      | none => simp only [e] at h; exact h.elim
      | some q =>
        obtain ⟨L', y⟩ := q
        simp only [e] at h
        obtain ⟨T', t, o'⟩ := fin0_ok o1 hγ (.d (r1 v r)) e
        exact ⟨L', y, T', G1, h, t, s1, o1.f, o'⟩
end
section
variable {P : Program} {W : World} {K : PySem.W.Frag} {mg : Str → Option Value} {base : Heap}
theorem fnF_ok {x qual : Str} {st : Stmt} {f : Addr} {fd : FuncData} {N ps : List Str} {k : Nat} {own : Bool} {sv : Sv} {dvs : List V} {kw : List (Str × V)} (F : FunD K x qual (defArgs st) (defBody st) (defScope st) dvs kw f fd) (Sc : FnScope N ps (defScope st))
    (hb : ∀ (cdv : Value) (B : Around) (ou : List PySem.Env) (c : Shared) (H : Hp) (E : XK), B.guards = some [] → Room k (B.deeper (envOfC qual (defScope st) c.heap.objs.size f cdv)) →
      RSs (bx P W K mg base N qual st f cdv B ou c H E) (defBody st) sv) :
    FnV P W K mg base (k + 1) f fd ps (SpF ⟨K, P, W⟩ (mkF own N.length ps.length sv)) := by
  refine fnV_of F Sc (fun vs H Q E h => ?_) (fun cdv B ou c H vs Q E hg hr h => ?_)
  · obtain ⟨Z, T0, L0, G, xs, Qd, Ed, i, o, _⟩ := h
    unfold mkF at o
    rw [i.f.length]
    split at o
    · rename_i e; exact Nat.eq_of_beq_eq_true e
    · exact o.elim
  · have b := hb cdv B ou c H E hg hr
    obtain ⟨Z, T0, L0, G, xs, Qd, Ed, i, h, q, ex⟩ := h
    unfold mkF at h
    split at h
    rotate_left
    · exact h.elim
    rename_i hlen
    have hlen := Nat.eq_of_beq_eq_true hlen
    have hNl : (start N vs).length = N.length := by
      have h1 := i.f.length
      have := Sc.nd
      have hp : ps.length ≤ N.length := by
        have := congrArg List.length Sc.pre
        rw [List.length_take] at this
        omega
      simp [L2.start]; omega
    have i' : OkF ⟨K, P, W⟩ ⟨N.length, Z, lent T0⟩ T0 L0 G (start N vs) H (startE N.length xs L0.length) (fun G' => Sm G G') :=
      { i with sl := slv_start i.f i.tl, nl := hNl, st := fun _ _ e h => h.trans e, f := Sm.refl _ }
    have fin : ∀ {T' : Tb} {L' : OL} {G' : Hp} {σ' : L2.St} {H' : Hp} {env' : VEnv} {v : V} {x : DV}, post (rets own L' x (env'.drop N.length)) Qd Ed → OkF ⟨K, P, W⟩ ⟨N.length, Z, lent T0⟩ T' L' G' σ' H' env' (fun G' => Sm G G' ∧ DRep ⟨K, P, W⟩ T' G' v x) → Q v H' := by
      intro T' L' G' σ' H' env' v x z o'
      obtain ⟨L2, y, T2, G2, qd, t, s2, f2, o2⟩ := rets_ok (T0 := T0) o' rfl o'.f.2 z
      exact q T2 L2 G2 H' v y qd t f2.1 o2
    refine b.ok (Z := ⟨fun L e => post (rets own L (.d .non) (e.drop N.length)) Qd Ed, fun L x e => post (rets own L x (e.drop N.length)) Qd Ed, fun _ _ => False, fun _ _ => False, fun L e x => ∃ L' y, fin0 L (.d .non) (e.drop N.length) = some (L', y) ∧ Ed L' x⟩) ?_ (W := fun cls d _ H => E cls d H) rfl (takes_of rfl rfl rfl rfl) i' ⟨?_, ?_, fun _ _ _ _ _ _ z => z.elim, fun _ _ _ _ _ _ z => z.elim, ?_⟩
    · cases hs : sv L0 (startE N.length xs L0.length) with
      | none => rw [hs] at h; exact h
      | some o =>
        rw [hs] at h
        cases o with
        | nx L e => exact h
        | rt L x e => exact h
        | bk L e => exact h
        | ct L e => exact h
        | ex L e x =>
          show ∃ L' y, _
          have h : post (match fin0 L (.d .non) (e.drop N.length) with | some (L', _) => some (.exc L' x) | none => none) Qd Ed := h
          cases hf : fin0 L (.d .non) (e.drop N.length) with
          | none => rw [hf] at h; exact h.elim
          | some r => rw [hf] at h; exact ⟨r.1, r.2, rfl, h⟩
    · intro T' L' G' σ' H' env' z o'
      exact fin z (o'.push (stab_drep _ _) (.d .non))
    · intro T' L' G' σ' H' env' v x z o'
      exact fin z o'
    · rintro T' L' G' σ' H' env' cls d x ⟨L2, y, hf, z⟩ o' r
      obtain ⟨T2, t, o2⟩ := fin0_ok (T0 := T0) (v := .non) o' rfl (.d .non) hf
      exact ex T2 L2 G' H' cls d x z t o'.f (o2.as stab_true trivial) r
end
end FL

set_option Elab.async false
set_option linter.all false
set_option maxRecDepth 100000
set_option maxHeartbeats 4000000
namespace FL
open PySem PySem.Spec PyProof.Rows L2
/-! ### a call: what is lent comes back -/
def muH (ks : List Nat) (n : Nat) (q : Nat) : Nat := match ks[q]? with
  | some k => k
  | none => n + (q - ks.length)
def muV (ks : List Nat) (n : Nat) : DV → DV
  | .d x => .d x
  | .h q => .h (muH ks n q)
def muO (ks : List Nat) (n : Nat) : OO → OO
  | .p x => .p x
  | .l xs => .l (xs.map (muV ks n))
  | .k kvs => .k (kvs.map fun a => (a.1, muV ks n a.2))
  | .o C fs => .o C (fs.map fun a => (a.1, muV ks n a.2))
def muE (ks : List Nat) (n : Nat) : OE → OE
  | .own c => .own (muO ks n c)
  | e => e
def setAll : OL → List Nat → OL → OL
  | L, k :: ks, e :: es => setAll (L.set k e) ks es
  | L, _, _ => L
def mrg (ks : List Nat) (L L' : OL) : OL := setAll L ks (L'.map (muE ks L.length)) ++ (L'.map (muE ks L.length)).drop ks.length
def callF (m : Fn) (L : OL) (ys : List DV) : Mo DV := match renVs (reach 200 L (hnds ys) []) L ys with
  | none => none
  | some zs => match m (renL (reach 200 L (hnds ys) []) L) zs with
    | some (.val L' x) => br (Nat.ble (reach 200 L (hnds ys) []).length L'.length) (some (.val (mrg (reach 200 L (hnds ys) []) L L') (muV (reach 200 L (hnds ys) []) L.length x))) none
    | some (.exc L' x) => br (Nat.ble (reach 200 L (hnds ys) []).length L'.length) (some (.exc (mrg (reach 200 L (hnds ys) []) L L') x)) none
    | none => none
theorem setAll_len : ∀ (L : OL) (ks : List Nat) (es : OL), (setAll L ks es).length = L.length
  | L, [], _ => by simp [setAll]
  | L, _ :: _, [] => by simp [setAll]
  | L, k :: ks, e :: es => by rw [setAll, setAll_len]; simp
theorem setAll_out : ∀ (L : OL) (ks : List Nat) (es : OL) (i : Nat), i ∉ ks → (setAll L ks es)[i]? = L[i]?
  | L, [], _, i, _ => by simp [setAll]
  | L, _ :: _, [], i, _ => by simp [setAll]
  | L, k :: ks, e :: es, i, h => by
    rw [setAll, setAll_out _ ks es i (fun z => h (List.mem_cons_of_mem _ z)), List.getElem?_set_ne (fun z => h (by rw [z]; exact List.mem_cons_self))]
theorem setAll_in : ∀ (L : OL) (ks : List Nat) (es : OL) (j k : Nat), ks.Nodup → ks[j]? = some k → k < L.length → j < es.length → (setAll L ks es)[k]? = es[j]?
  | L, [], _, j, k, _, h, _, _ => by simp at h
  | L, _ :: _, [], j, k, _, _, _, h => by simp at h
  | L, a :: ks, e :: es, 0, k, nd, h, hk, hj => by
    simp at h; subst h
    rw [setAll, setAll_out _ ks es a (List.nodup_cons.mp nd).1, List.getElem?_set_self hk]
    rfl
  | L, a :: ks, e :: es, j + 1, k, nd, h, hk, hj => by
    rw [setAll, setAll_in _ ks es j k (List.nodup_cons.mp nd).2 (by simpa using h) (by simpa using hk) (by simpa using hj)]
    simp
theorem reach_own : ∀ (n : Nat) (L : OL) (todo acc : List Nat), (∀ k ∈ acc, ∃ c, L[k]? = some (.own c)) → ∀ k ∈ reach n L todo acc, ∃ c, L[k]? = some (.own c)
  | 0, _, _, _, h => h
  | _ + 1, _, [], _, h => h
  | n + 1, L, k :: todo, acc, h => by
    unfold reach
    split
    · rename_i c h1 h2
      refine reach_own n L _ _ fun a ha => ?_
      rcases List.mem_append.mp ha with ha | ha
      · exact h a ha
      · rcases List.mem_singleton.mp ha with rfl
        exact ⟨c, h1⟩
    · exact reach_own n L _ _ h
section
variable {K : KW} {B : Fra} {T T' : Tb} {L L' : OL} {G G' : Hp} {σ : L2.St} {H H' : Hp} {env : VEnv} {F P : Hp → Prop} {ks : List Nat}
/-- what is hidden while the objects ks are lent -/
noncomputable def hidB (B : Fra) (T : Tb) (L : OL) (H : Hp) (ks : List Nat) : Hp := fun a => @ite _ (∃ k c, T[k]? = some a ∧ L[k]? = some (OE.own c) ∧ k ∉ ks) (Classical.propDecidable _) (H a) (B.Z a)
theorem hidB_own {k : Nat} {c : OO} {a : Addr} (h1 : T[k]? = some a) (h2 : L[k]? = some (.own c)) (h3 : k ∉ ks) : hidB B T L H ks a = H a := by
  unfold hidB
  exact if_pos ⟨k, c, h1, h2, h3⟩
theorem hidB_z (o : OkF K B T L G σ H env F) {a : Addr} {u : HO} (h : B.Z a = some u) : hidB B T L H ks a = some u := by
  unfold hidB
  rw [if_neg (fun ⟨k, c, h1, h2, _⟩ => (o.hid a u h).2.2 k c h1 h2)]
  exact h
theorem OkF.lend {zs : List DV} {vs : List V} {ys : List DV} (o : OkF K B T L G σ H env F) (nd : ks.Nodup) (r : DReps K T G vs ys) (hz : FL.renVs ks L ys = some zs) : OkF K (B0 (hidB B T L H ks)) (renT ks T) (renL ks L) G [] H [] (fun G => DReps K (renT ks T) G vs zs) := by
  refine o.ren' (B' := B0 (hidB B T L H ks)) nd slv_nil rfl (fun a u z => ?_) (stab_dreps _ _) (o.renVs r hz)
  by_cases c : ∃ k c, T[k]? = some a ∧ L[k]? = some (OE.own c) ∧ k ∉ ks
  · obtain ⟨k, c, h1, h2, h3⟩ := c
    have z : hidB B T L H ks a = some u := z
    rw [hidB_own h1 h2 h3] at z
    exact ⟨z, o.nG k a c h1 h2, fun k' hk' c' h4 h5 => h3 (o.inj k k' a c c' h1 h4 h2 h5 ▸ hk')⟩
  · have z : hidB B T L H ks a = some u := z
    unfold hidB at z
    rw [if_neg c] at z
    obtain ⟨h1, h2, h3⟩ := o.hid a u z
    exact ⟨h1, h2, fun k _ c => h3 k c⟩
theorem mu_get (hk : ∀ k ∈ ks, k < T.length) (t : renT ks T <+: T') {q : Nat} {p : Addr} (h : T'[q]? = some p) : (T ++ T'.drop ks.length)[muH ks T.length q]? = some p := by
  unfold muH
  cases e : ks[q]? with
  | some k =>
    have hkl := hk k (List.mem_of_getElem? e)
    have h0 := renT_get (T := T) (j := q) e (List.getElem?_eq_getElem hkl)
    have := pre_get t h0
    rw [h] at this
    cases this
    rw [List.getElem?_append_left hkl]
    exact List.getElem?_eq_getElem hkl
  | none =>
    have hq := List.getElem?_eq_none_iff.mp e
    show (T ++ T'.drop ks.length)[T.length + (q - ks.length)]? = some p
    rw [List.getElem?_append_right (by omega), List.getElem?_drop]
    rw [show ks.length + (T.length + (q - ks.length) - T.length) = q by omega]
    exact h
theorem mu_rep (hk : ∀ k ∈ ks, k < T.length) (t : renT ks T <+: T') {v : V} {x : DV} (r : DRep K T' G v x) : DRep K (T ++ T'.drop ks.length) G v (muV ks T.length x) := by
  cases r with
  | d r => exact .d r
  | h h => exact .h (mu_get hk t h)
theorem mu_reps (hk : ∀ k ∈ ks, k < T.length) (t : renT ks T <+: T') : ∀ {vs : List V} {xs : List DV}, DReps K T' G vs xs → DReps K (T ++ T'.drop ks.length) G vs (xs.map (muV ks T.length))
  | _, _, .nil => .nil
  | _, _, .cons a b => .cons (mu_rep hk t a) (mu_reps hk t b)
theorem mu_at (hk : ∀ k ∈ ks, k < T.length) (t : renT ks T <+: T') {p : Addr} {c : OO} (a : AtO K T' G H p c) : AtO K (T ++ T'.drop ks.length) G H p (muO ks T.length c) := by
  cases c with
  | p x => exact a
  | l xs => obtain ⟨us, hp, r⟩ := a; exact ⟨us, hp, mu_reps hk t r⟩
  | k xs => obtain ⟨o, us, hp, q, r⟩ := a; exact ⟨o, us, hp, by rw [List.map_map]; exact q, by have := mu_reps hk t r; rw [List.map_map] at this ⊢; exact this⟩
  | o C xs => obtain ⟨dx, us, hp, q, r⟩ := a; exact ⟨dx, us, hp, by rw [List.map_map]; exact q, by have := mu_reps hk t r; rw [List.map_map] at this ⊢; exact this⟩
theorem mu_inj (nd : ks.Nodup) {n a b : Nat} (hk : ∀ k ∈ ks, k < n) (e : muH ks n a = muH ks n b) : a = b := by
  unfold muH at e
  cases ha : ks[a]? with
  | some x =>
    cases hb : ks[b]? with
    | some y =>
      rw [ha, hb] at e
      have e : x = y := e
      subst e
      obtain ⟨l1, e1⟩ := List.getElem?_eq_some_iff.mp ha
      obtain ⟨l2, e2⟩ := List.getElem?_eq_some_iff.mp hb
      exact (List.getElem_inj nd).mp (e1.trans e2.symm)
    | none =>
      rw [ha, hb] at e
      have e : x = n + (b - ks.length) := e
      have := hk x (List.mem_of_getElem? ha)
      omega
  | none =>
    have h1 := List.getElem?_eq_none_iff.mp ha
    cases hb : ks[b]? with
    | some y =>
      rw [ha, hb] at e
      have e : n + (a - ks.length) = y := e
      have := hk y (List.mem_of_getElem? hb)
      omega
    | none =>
      have h2 := List.getElem?_eq_none_iff.mp hb
      rw [ha, hb] at e
      have e : n + (a - ks.length) = n + (b - ks.length) := e
      omega
/-- behind the call -/
theorem OkF.back (o : OkF K B T L G σ H env F) (nd : ks.Nodup) (ho : ∀ k ∈ ks, ∃ c, L[k]? = some (.own c)) (hl : ks.length ≤ L'.length) (t : renT ks T <+: T') (sm : Sm G G') (o' : OkF K (B0 (hidB B T L H ks)) T' L' G' [] H' [] P) :
    OkF K B (T ++ T'.drop ks.length) (mrg ks L L') G' σ H' env F := by
  have hkL : ∀ k ∈ ks, k < L.length := fun k hk => let ⟨c, h⟩ := ho k hk; (List.getElem?_eq_some_iff.mp h).1
  have hkT : ∀ k ∈ ks, k < T.length := fun k hk => by rw [o.tl]; exact hkL k hk
  have tl := o.tl
  have tl' := o'.tl
  have split : ∀ {i : Nat} {p : Addr} {e : OE}, (T ++ T'.drop ks.length)[i]? = some p → (mrg ks L L')[i]? = some e →
      (∃ q e', muH ks T.length q = i ∧ T'[q]? = some p ∧ L'[q]? = some e' ∧ e = muE ks T.length e') ∨ (i ∉ ks ∧ T[i]? = some p ∧ L[i]? = some e) := by
    intro i p e h1 h2
    unfold mrg at h2
    rw [← tl] at h2
    by_cases hi : i < T.length
    · rw [List.getElem?_append_left hi] at h1
      rw [List.getElem?_append_left (by rw [setAll_len]; omega)] at h2
      by_cases hk : i ∈ ks
      · obtain ⟨j, hj⟩ := List.mem_iff_getElem?.mp hk
        have hjl := (List.getElem?_eq_some_iff.mp hj).1
        rw [setAll_in L ks _ j i nd hj (by omega) (by rw [List.length_map]; omega), List.getElem?_map] at h2
        cases e' : L'[j]? with
        | none => rw [e'] at h2; cases h2
        | some x =>
          rw [e'] at h2
          cases h2
          refine .inl ⟨j, x, by unfold muH; rw [hj], ?_, e', rfl⟩
          exact pre_get t (renT_get hj h1)
      · rw [setAll_out L ks _ i hk] at h2
        exact .inr ⟨hk, h1, h2⟩
    · rw [List.getElem?_append_right (by omega)] at h1
      rw [List.getElem?_append_right (by rw [setAll_len]; omega), setAll_len, List.getElem?_drop, List.getElem?_map] at h2
      rw [List.getElem?_drop] at h1
      rw [← tl] at h2
      cases e' : L'[ks.length + (i - T.length)]? with
      | none => rw [e'] at h2; cases h2
      | some x =>
        rw [e'] at h2
        cases h2
        refine .inl ⟨_, x, ?_, h1, e', rfl⟩
        unfold muH
        rw [List.getElem?_eq_none (by omega)]
        show T.length + (ks.length + (i - T.length) - ks.length) = i
        omega
  have own1 : ∀ {e' : OE} {c : OO}, OE.own c = muE ks T.length e' → ∃ c', e' = .own c' ∧ c = muO ks T.length c' := by
    intro e' c h
    cases e' with
    | own c' => cases h; exact ⟨c', rfl, rfl⟩
    | fz x => cases h
    | gone => cases h
  have apart : ∀ {i q : Nat} {p : Addr} {c c' : OO}, i ∉ ks → T[i]? = some p → L[i]? = some (.own c) → T'[q]? = some p → L'[q]? = some (.own c') → False := by
    intro i q p c c' h1 h2 h3 h4 h5
    cases hp : H p with
    | none => exact o.taken h2 h3 hp
    | some u => exact (o'.hid p u (by show hidB B T L H ks p = some u; rw [hidB_own h2 h3 h1]; exact hp)).2.2 q c' h4 h5
  refine ⟨o.sl.mono sm (List.prefix_append _ _), o.nl, o'.sub, ?_, ?_, ?_, ?_, ?_, o.st, o.st _ _ sm o.f⟩
  · unfold mrg
    simp only [List.length_append, List.length_drop, setAll_len, List.length_map]
    omega
  · intro i j p c c' h1 h2 h3 h4
    rcases split h1 h3 with ⟨q, e, hq, a1, a2, a3⟩ | ⟨hi, a1, a2⟩
    · obtain ⟨c0, rfl, _⟩ := own1 a3
      rcases split h2 h4 with ⟨q', e', hq', b1, b2, b3⟩ | ⟨hj, b1, b2⟩
      · obtain ⟨c1, rfl, _⟩ := own1 b3
        have := o'.inj q q' p c0 c1 a1 b1 a2 b2
        rw [← hq, ← hq', this]
      · exact (apart hj b1 b2 a1 a2).elim
    · rcases split h2 h4 with ⟨q', e', hq', b1, b2, b3⟩ | ⟨hj, b1, b2⟩
      · obtain ⟨c1, rfl, _⟩ := own1 b3
        exact (apart hi a1 a2 b1 b2).elim
      · exact o.inj i j p c c' a1 b1 a2 b2
  · intro i p e h1 h2
    rcases split h1 h2 with ⟨q, e', hq, a1, a2, rfl⟩ | ⟨hi, a1, a2⟩
    · have z := o'.own q p e' a1 a2
      cases e' with
      | own c => exact mu_at hkT t z
      | fz x => exact z
      | gone => trivial
    · have z := o.own i p e a1 a2
      cases e with
      | own c =>
        cases hp : H p with
        | none => exact (o.taken a1 a2 hp).elim
        | some u =>
          have := (o'.hid p u (by show hidB B T L H ks p = some u; rw [hidB_own a1 a2 hi]; exact hp)).1
          exact AtO.mono z sm (List.prefix_append _ _) (this.trans hp.symm)
      | fz x => exact Rep.mono sm z
      | gone => trivial
  · intro i p c h1 h2
    rcases split h1 h2 with ⟨q, e', hq, a1, a2, a3⟩ | ⟨hi, a1, a2⟩
    · obtain ⟨c0, rfl, _⟩ := own1 a3
      exact o'.nG q p c0 a1 a2
    · cases hp : H p with
      | none => exact (o.taken a1 a2 hp).elim
      | some u => exact (o'.hid p u (by show hidB B T L H ks p = some u; rw [hidB_own a1 a2 hi]; exact hp)).2.1
  · intro a u z
    obtain ⟨z1, z2, z3⟩ := o'.hid a u (hidB_z o z)
    refine ⟨z1, z2, fun i c h1 h2 => ?_⟩
    rcases split h1 h2 with ⟨q, e', hq, a1, a2, a3⟩ | ⟨hi, a1, a2⟩
    · obtain ⟨c0, rfl, _⟩ := own1 a3
      exact z3 q c0 a1 a2
    · exact (o.hid a u z).2.2 i c a1 a2
end
/-- the call of a function by the values vs -/
theorem call_sp {K : KW} {B : Fra} {T : Tb} {L : OL} {G : Hp} {σ : L2.St} {H : Hp} {env : VEnv} {F : Hp → Prop} {m : Fn} {Q : QV} {Ex : XQ} {R : VK} {W : WX} {vs : List V} {ys : List DV} (o : OkF K B T L G σ H env F) (r : DReps K T G vs ys) (h : post (callF m L ys) Q Ex) (n : Nrm K B T σ env F Q R) (xc : Xc K B T σ env F Ex W) :
    SpF K m vs H R (fun cls d H' => W cls d σ H') := by
  unfold callF at h
  have ho := reach_own 200 L (hnds ys) [] (fun k hk => by simp at hk)
  have nd := reach_nodup 200 L (hnds ys) [] List.nodup_nil
  generalize reach 200 L (hnds ys) [] = ks at h ho nd
  have hkT : ∀ k ∈ ks, k < T.length := fun k hk => by rw [o.tl]; let ⟨c, h⟩ := ho k hk; exact (List.getElem?_eq_some_iff.mp h).1
  cases hz : renVs ks L ys with
  | none => rw [hz] at h; exact h.elim
  | some zs =>
    rw [hz] at h
    refine ⟨hidB B T L H ks, renT ks T, renL ks L, G, zs, fun L' x => ks.length ≤ L'.length ∧ Q (mrg ks L L') (muV ks L.length x), fun L' x => ks.length ≤ L'.length ∧ Ex (mrg ks L L') x, o.lend nd r hz, ?_, ?_, ?_⟩
    · cases hm : m (renL ks L) zs with
      | none => simp only [hm] at h; exact h
      | some out =>
        simp only [hm] at h
        cases out with
        | val L' x => obtain ⟨h1, h2⟩ := post_br h; exact ⟨Nat.le_of_ble_eq_true h1, h2⟩
        | exc L' x => obtain ⟨h1, h2⟩ := post_br h; exact ⟨Nat.le_of_ble_eq_true h1, h2⟩
    · rintro T' L' G' H' v x ⟨hl, q⟩ t sm o'
      have b := o.back nd ho hl t sm o'
      have rv := mu_rep hkT t o'.f
      rw [o.tl] at rv
      exact n _ _ G' H' v _ q (List.prefix_append _ _) (b.push (stab_drep _ _) rv)
    · rintro T' L' G' H' cls d x ⟨hl, q⟩ t sm o' rx
      exact xc _ _ G' H' cls d x q (List.prefix_append _ _) (o.back nd ho hl t sm o') rx
/-- those that are not lent become plain -/
def Fzm : List Bool → OL → List DV → Mo (List DV)
  | true :: bs, L, x :: xs => bnd (Fzm bs L xs) fun L2 ys => some (.val L2 (x :: ys))
  | false :: bs, L, x :: xs => bnd (Fz L x) fun L1 d => bnd (Fzm bs L1 xs) fun L2 ys => some (.val L2 (.d d :: ys))
  | [], L, x :: xs => bnd (Fz L x) fun L1 d => bnd (Fzm [] L1 xs) fun L2 ys => some (.val L2 (.d d :: ys))
  | _, L, [] => some (.val L [])
theorem fzm_ok {K : KW} {B : Fra} {T : Tb} {σ : L2.St} {H : Hp} {env : VEnv} {F : Hp → Prop} {Ex : XQ} : ∀ {bs : List Bool} {xs : List DV} {L : OL} {G : Hp} {Q : QA}, OkF K B T L G σ H env F → post (Fzm bs L xs) Q Ex → ∃ L' ys G', Q L' ys ∧ Sm G G' ∧ OkF K B T L' G' σ H env F ∧ ∀ vs, DReps K T G vs xs → DReps K T G' vs ys
  | true :: bs, x :: xs, L, G, Q, o, h => by
    obtain ⟨L', ys, G', q, sm, o', r⟩ := fzm_ok o (post_bnd (by rw [Fzm] at h; exact h))
    refine ⟨L', x :: ys, G', q, sm, o', fun vs d => ?_⟩
    cases d with
    | cons a b => exact .cons (a.mono sm (List.prefix_refl _)) (r _ b)
  | false :: bs, x :: xs, L, G, Q, o, h => by
    obtain ⟨L1, d, hf, h⟩ := post_fz (post_bnd (by rw [Fzm] at h; exact h))
    obtain ⟨G1, s1, o1, r1⟩ := o.fz hf
    obtain ⟨L', ys, G', q, sm, o', r⟩ := fzm_ok o1 (post_bnd h)
    refine ⟨L', .d d :: ys, G', q, s1.trans sm, o', fun vs d => ?_⟩
    cases d with
    | cons a b => exact .cons (.d ((r1 _ a).mono sm)) (r _ (b.mono s1 (List.prefix_refl _)))
  | [], x :: xs, L, G, Q, o, h => by
    obtain ⟨L1, d, hf, h⟩ := post_fz (post_bnd (by rw [Fzm] at h; exact h))
    obtain ⟨G1, s1, o1, r1⟩ := o.fz hf
    obtain ⟨L', ys, G', q, sm, o', r⟩ := fzm_ok o1 (post_bnd h)
    refine ⟨L', .d d :: ys, G', q, s1.trans sm, o', fun vs d => ?_⟩
    cases d with
    | cons a b => exact .cons (.d ((r1 _ a).mono sm)) (r _ (b.mono s1 (List.prefix_refl _)))
  | [], [], L, G, Q, o, h => by rw [Fzm] at h; exact ⟨L, [], G, h, Sm.refl _, o, fun vs r => by cases r; exact .nil⟩; all_goals (intro _ _ _ _ z; cases z)
  | true :: bs, [], L, G, Q, o, h => ⟨L, [], G, h, Sm.refl _, o, fun vs r => by cases r; exact .nil⟩
  | false :: bs, [], L, G, Q, o, h => ⟨L, [], G, h, Sm.refl _, o, fun vs r => by cases r; exact .nil⟩
def callM (m : Fn) (bs : List Bool) (L : OL) (xs : List DV) : Mo DV := bnd (Fzm bs L xs) fun L2 ys => callF m L2 ys
theorem callM_sp {K : KW} {B : Fra} {T : Tb} {L : OL} {G : Hp} {σ : L2.St} {H : Hp} {env : VEnv} {F : Hp → Prop} {m : Fn} {bs : List Bool} {Q : QV} {Ex : XQ} {R : VK} {W : WX} {vs : List V} {xs : List DV} (o : OkF K B T L G σ H env F) (r : DReps K T G vs xs) (h : post (callM m bs L xs) Q Ex) (n : Nrm K B T σ env F Q R) (xc : Xc K B T σ env F Ex W) :
    SpF K m vs H R (fun cls d H' => W cls d σ H') := by
  obtain ⟨L2, ys, G2, q, sm, o2, r2⟩ := fzm_ok o (post_bnd h)
  exact call_sp o2 (r2 vs r) q n xc
/-! ### defs by their names -/
def DefF (P : Program) (W : World) (K : PySem.W.Frag) (mg : Str → Option Value) (base : Heap) (nm : Str) (k : Nat) (ps : List Str) (m : Fn) : Prop :=
  ∃ (f : Addr) (fd : FuncData), mg nm = some (.ref f) ∧ PySem.W.keepIn K (.ref f) = true ∧ Binds K fd ps [] ∧ FnV P W K mg base k f fd ps (SpF ⟨K, P, W⟩ m)
/-- the def at a name stands where it should -/
def DefAt (K : PySem.W.Frag) (mg : Str → Option Value) (nm : Str) (st : Stmt) (ps : List Str) : Prop :=
  ∃ (f : Addr) (fd : FuncData), mg nm = some (.ref f) ∧ FunD K nm nm (defArgs st) (defBody st) (defScope st) [] [] f fd ∧ Binds K fd ps []
theorem def_f {P : Program} {W : World} {K : PySem.W.Frag} {mg : Str → Option Value} {base : Heap} {nm : Str} {st : Stmt} {N ps : List Str} {k : Nat} {own : Bool} {sv : Sv} (F : DefAt K mg nm st ps) (Sc : FnScope N ps (defScope st))
    (hb : ∀ (f : Addr) (cdv : Value) (B : Around) (ou : List PySem.Env) (c : Shared) (H : Hp) (E : XK), B.guards = some [] → Room k (B.deeper (envOfC nm (defScope st) c.heap.objs.size f cdv)) →
      RSs (bx P W K mg base N nm st f cdv B ou c H E) (defBody st) sv) :
    DefF P W K mg base nm (k + 1) ps (mkF own N.length ps.length sv) := by
  obtain ⟨f, fd, hm, F, b⟩ := F
  exact ⟨f, fd, hm, F.kp, b, fnF_ok F Sc (hb f)⟩
section
variable {X : Cx} {k k' : Nat} {nm : Str} {ps : List Str} {m : Fn} {bs : List Bool} {p pos : Pos} {e : Expr} {es : List Expr} {as : Ea}
theorem runV {f : Addr} {fd : FuncData} {sp : Sp} {pins : List (Addr × Obj)} {σ : L2.St} {H : Hp} {s : Shared} {Q : VK} {W : WX} {us ds : List Value} {vs dvs : List V} (F : FnV X.prog X.w X.K X.mg X.base k f fd ps sp) (hg : X.A.guards = some []) (hr : Room k X.A) (hb : Binds X.K fd ps ds) (hd : Vals dvs ds) (tk : Takes X W)
    (I : Inv X pins σ H s) (r : Vals vs us) (h : sp (vs ++ dvs) H Q (fun cls d H' => W cls d σ H')) : wpAny (model X.prog X.w) X.A (call (.ref f) us) (EP X pins σ Q) X.xe s := by
  have r2 : Vals (vs ++ dvs) (us ++ ds) := r.append hd
  have hl : (us ++ ds).length = ps.length := by rw [← r2.length]; exact F.len _ _ _ _ h
  refine wpAny_call (codeAny_mono (F.run X.A X.stack s H ⟨us, []⟩ _ _ Q _ hg hr I.env0 (hb s us I.kIn hl) r2 h) fun res s' hq => ?_)
  cases res with
  | error e => exact tk e s' (XE.of_call I (fun cls d H' h => h) hq)
  | ok fl => cases fl with
    | ret u => exact I.after hq
    | next => exact hq.elim
    | brk => exact hq.elim
    | cont => exact hq.elim
def eCall (m : Fn) (bs : List Bool) (a : Ea) : Ev := fun L env => bnd (a L env) fun L1 xs => callM m bs L1 xs
def eCall0 (m : Fn) : Ev := fun L _ => callM m [] L []
theorem re_call (d : DefF X.prog X.w X.K X.mg X.base nm k ps m) (hg : X.A.guards = some []) (hr : Room k' X.A) (hk : k ≤ k') (gl : Gl X nm) (a : RA X (e :: es) as) (hdb : (nm == ("__debug__" : Str)) = false := by decide) (he : starEach (e :: es) X.env = (false, eval e X.env) :: starEach es X.env := by rfl) (hpl : (backTo pos (starEach es X.env)).any (·.1) = false := by rfl) :
    RE X (.Call (.Name nm p) (e :: es) [] pos) (eCall m bs as) :=
  ⟨fun {L env Q Ex} h {W B T G σ H R F} hn tk o n xc pins s I => by
    obtain ⟨f, fd, hm, kp, b, Fn⟩ := d
    refine wpAny_Call_Name_kw (ld_glob I gl hm ?_ hdb)
    refine PySem.W.callWith_K (h₀ := X.base) I.ok.mod.kin kp (thn (a.ok (R := fun vs H1 => SpF (kw X) m vs H1 R (fun cls d H' => W cls d σ H')) (post_bnd h) hn tk o (fun T1 L1 G1 H1 vs xs q t1 o1 => ?_) xc pos pins s I) fun us s1 ⟨vs, H1, I1, r, q⟩ => ⟨I1.kIn, ?_⟩) he hpl
    · exact callM_sp (o1.drop o.st) o1.f.2 q (n.on t1) (xc.on t1)
    · exact runV Fn hg (hr.mono hk) b .nil tk I1 r (by rw [List.append_nil]; exact q)⟩
theorem re_call0 (d : DefF X.prog X.w X.K X.mg X.base nm k ps m) (hg : X.A.guards = some []) (hr : Room k' X.A) (hk : k ≤ k') (gl : Gl X nm) (hdb : (nm == ("__debug__" : Str)) = false := by decide) :
    RE X (.Call (.Name nm p) [] [] pos) (eCall0 m) :=
  ⟨fun {L env Q Ex} h {W B T G σ H R F} hn tk o n xc pins s I => by
    obtain ⟨f, fd, hm, kp, b, Fn⟩ := d
    refine wpAny_Call_Name_kw (ld_glob I gl hm ?_ hdb)
    exact PySem.W.callWith_K0 I.kIn kp (runV (us := []) (vs := []) Fn hg (hr.mono hk) b .nil tk I .nil (callM_sp o .nil h n xc))⟩
end
end FL

set_option Elab.async false
set_option linter.all false
set_option maxRecDepth 100000
set_option maxHeartbeats 4000000
namespace FL
open PySem PySem.Spec PyProof.Rows L2
mutual
/-- as plain data of the library -/
def py : D → PyData
  | .bl b => .bool b
  | .int i => .int i
  | .str x => .str x
  | .lst xs => .list (pys xs)
  | .tup xs => .tuple (pys xs)
  | _ => .none
def pys : List D → List PyData
  | [] => []
  | x :: xs => py x :: pys xs
end
mutual
/-- no dict, no object lies within -/
def pl : D → Bool
  | .non => true
  | .bl _ => true
  | .int _ => true
  | .str _ => true
  | .lst xs => pls xs
  | .tup xs => pls xs
  | _ => false
def pls : List D → Bool
  | [] => true
  | x :: xs => pl x && pls xs
end
theorem pys_map : ∀ xs : List D, pys xs = xs.map py
  | [] => by simp [pys]
  | x :: xs => by simp [pys, pys_map xs]
theorem pls_all : ∀ xs : List D, pls xs = xs.all pl
  | [] => by simp [pls]
  | x :: xs => by simp [pls, pls_all xs]
mutual
theorem Rep.dp {K : KW} {G : Hp} : ∀ {v : V} {d : D}, Rep K G v d → pl d = true → Dp K.K G v (py d)
  | _, _, .non, _ => by unfold py; exact .non
  | _, _, .bl b, _ => by unfold py; exact .bl b
  | _, _, .int i, _ => by unfold py; exact .int i
  | _, _, .str x, _ => by unfold py; exact .str x
  | _, _, .lst h r, p => by unfold py; unfold pl at p; exact .lst (.inl h) (Reps.dp r p)
  | _, _, .tup h r, p => by unfold py; unfold pl at p; exact .tup h (Reps.dp r p)
  | _, _, .dK _ _ _, p => by unfold pl at p; cases p
  | _, _, .dN _ _ _ _ _, p => by unfold pl at p; cases p
  | _, _, .obj _ _ _, p => by unfold pl at p; cases p
  | _, _, .ty _, p => by unfold pl at p; cases p
  | _, _, .cn _, p => by unfold pl at p; cases p
theorem Reps.dp {K : KW} {G : Hp} : ∀ {vs : List V} {ds : List D}, Reps K G vs ds → pls ds = true → DpAll K.K G vs (pys ds)
  | _, _, .nil, _ => by unfold pys; exact .nil
  | _, _, .cons r t, p => by
    unfold pls at p
    rw [Bool.and_eq_true] at p
    unfold pys
    exact .cons (Rep.dp r p.1) (Reps.dp t p.2)
end
mutual
theorem dp_mono {K : PySem.W.Frag} {G G' : Hp} (e : Sm G G') : ∀ {v : V} {d : PyData}, Dp K G v d → Dp K G' v d
  | _, _, .non => .non
  | _, _, .bl b => .bl b
  | _, _, .int i => .int i
  | _, _, .str x => .str x
  | _, _, .lst h r => .lst (ex_l e h) (dps_mono e r)
  | _, _, .tup h r => .tup (ex_t e h) (dps_mono e r)
theorem dps_mono {K : PySem.W.Frag} {G G' : Hp} (e : Sm G G') : ∀ {v : List V} {d : List PyData}, DpAll K G v d → DpAll K G' v d
  | _, _, .nil => .nil
  | _, _, .cons h r => .cons (dp_mono e h) (dps_mono e r)
end
mutual
theorem dp_plain {K : PySem.W.Frag} {H : Hp} : ∀ {v : V} {d : PyData}, Dp K H v d → d.plain = true
  | _, _, .non => rfl
  | _, _, .bl _ => rfl
  | _, _, .int _ => rfl
  | _, _, .str _ => rfl
  | _, _, .lst _ r => by simp only [PyData.plain]; exact dps_plain r
  | _, _, .tup _ r => by simp only [PyData.plain]; exact dps_plain r
theorem dps_plain {K : PySem.W.Frag} {H : Hp} : ∀ {v : List V} {d : List PyData}, DpAll K H v d → PyData.plainAll d = true
  | _, _, .nil => rfl
  | _, _, .cons h r => by simp only [PyData.plainAll, dp_plain h, dps_plain r, Bool.and_self]
end
def rEqP (K : PySem.W.Frag) (neg : Bool) : R2 := fun x y H Q => ∃ d e, Dp K H x d ∧ Dp K H y e ∧ d.depth ≤ 50 ∧ Q (.bl (if neg then !PyData.eqv d e else PyData.eqv d e)) H
def rInP (K : PySem.W.Frag) (neg : Bool) : R2 := fun x y H Q => ∃ d ds, Dp K H x d ∧ (Dp K H y (.list ds) ∨ Dp K H y (.tuple ds)) ∧ d.depth ≤ 50 ∧ Q (.bl (if neg then !(ds.any fun z => PyData.eqv z d) else ds.any fun z => PyData.eqv z d)) H
section
variable {X : Cx}
theorem op_eqP (hu : X.A.units + 64 < cLine) : OpR X (compareOp .Eq) (rEqP X.K false) := by
  intro pins s σ H x y v u Q I rx ry ⟨d, e, hd, he, dd, q⟩
  obtain ⟨as, r1⟩ := Dp.reads I d x v hd rx
  obtain ⟨bs, r2⟩ := Dp.reads I e y u he ry
  exact SeqAt.eq_plain r1 r2 (dp_plain hd) (dp_plain he) (by omega) ⟨.bl _, H, I, rfl, q⟩
theorem op_neP (hu : X.A.units + 64 < cLine) : OpR X (compareOp .NotEq) (rEqP X.K true) := by
  intro pins s σ H x y v u Q I rx ry ⟨d, e, hd, he, dd, q⟩
  obtain ⟨as, r1⟩ := Dp.reads I d x v hd rx
  obtain ⟨bs, r2⟩ := Dp.reads I e y u he ry
  exact SeqAt.ne_plain r1 r2 (dp_plain hd) (dp_plain he) (by omega) ⟨.bl _, H, I, rfl, q⟩
theorem op_inP (hu : X.A.units + 64 < cLine) : OpR X (compareOp .In) (rInP X.K false) := by
  intro pins s σ H x y v u Q I rx ry ⟨d, ds, hd, he, dd, q⟩
  obtain ⟨as, r1⟩ := Dp.reads I d x v hd rx
  rcases he with he | he
  · obtain ⟨bs, r2⟩ := Dp.reads I _ y u he ry
    have hp : PyData.plainAll ds = true := by have := dp_plain he; simpa only [PyData.plain] using this
    exact SeqAt.in_list_data r2 r1 hp (dp_plain hd) (by omega) ⟨.bl _, H, I, rfl, q⟩
  · obtain ⟨bs, r2⟩ := Dp.reads I _ y u he ry
    have hp : PyData.plainAll ds = true := by have := dp_plain he; simpa only [PyData.plain] using this
    exact SeqAt.in_tuple_data r2 r1 hp (dp_plain hd) (by omega) ⟨.bl _, H, I, rfl, q⟩
theorem op_niP (hu : X.A.units + 64 < cLine) : OpR X (compareOp .NotIn) (rInP X.K true) := by
  intro pins s σ H x y v u Q I rx ry ⟨d, ds, hd, he, dd, q⟩
  obtain ⟨as, r1⟩ := Dp.reads I d x v hd rx
  rcases he with he | he
  · obtain ⟨bs, r2⟩ := Dp.reads I _ y u he ry
    have hp : PyData.plainAll ds = true := by have := dp_plain he; simpa only [PyData.plain] using this
    exact SeqAt.notIn_list_data r2 r1 hp (dp_plain hd) (by omega) ⟨.bl _, H, I, rfl, q⟩
  · obtain ⟨bs, r2⟩ := Dp.reads I _ y u he ry
    have hp : PyData.plainAll ds = true := by have := dp_plain he; simpa only [PyData.plain] using this
    exact SeqAt.notIn_tuple_data r2 r1 hp (dp_plain hd) (by omega) ⟨.bl _, H, I, rfl, q⟩
end
section
variable {K : KW}
def eqD (a b : D) : Bool := PyData.eqv (py a) (py b)
theorem any_pys (a : D) (ds : List D) : (pys ds).any (fun z => PyData.eqv z (py a)) = ds.any fun z => eqD z a := by rw [pys_map, List.any_map]; rfl
theorem dp_seq {H : Hp} {v : V} {d : D} {ds : List D} (h : d = .lst ds ∨ d = .tup ds) (r : Dp K.K H v (py d)) : Dp K.K H v (.list (pys ds)) ∨ Dp K.K H v (.tuple (pys ds)) := by
  rcases h with rfl | rfl
  · unfold py at r; exact .inl r
  · unfold py at r; exact .inr r
theorem reps_bls {G : Hp} : ∀ {bs : List Bool} {vs : List V}, Reps K G vs (bs.map D.bl) → vs = bs.map V.bl
  | [], _, .nil => rfl
  | b :: bs, _, .cons r t => by
    cases r
    rw [reps_bls t]; rfl
theorem reps_ints {G : Hp} : ∀ {bs : List Int} {vs : List V}, Reps K G vs (bs.map D.int) → vs = bs.map V.int
  | [], _, .nil => rfl
  | b :: bs, _, .cons r t => by
    cases r
    rw [reps_ints t]; rfl
theorem reps_strs {G : Hp} : ∀ {bs : List Str} {vs : List V}, Reps K G vs (bs.map D.str) → vs = bs.map V.str
  | [], _, .nil => rfl
  | b :: bs, _, .cons r t => by
    cases r
    rw [reps_strs t]; rfl
theorem strs_reps {G : Hp} : ∀ (bs : List Str), Reps K G (bs.map V.str) (bs.map D.str)
  | [] => .nil
  | b :: bs => .cons (.str b) (strs_reps bs)
theorem ints_reps {G : Hp} : ∀ (bs : List Int), Reps K G (bs.map V.int) (bs.map D.int)
  | [] => .nil
  | b :: bs => .cons (.int b) (ints_reps bs)
end
/-! ### operators over data -/
section
variable {X : Cx} {K : KW} {G H : Hp} {x y v : V}
theorem view_int {i : Int} (r : View K G H x (.int i)) : x = .int i := by have r : Rep K G x (.int i) := r; cases r; rfl
theorem view_str {i : Str} (r : View K G H x (.str i)) : x = .str i := by have r : Rep K G x (.str i) := r; cases r; rfl
theorem view_bl {i : Bool} (r : View K G H x (.bl i)) : x = .bl i := by have r : Rep K G x (.bl i) := r; cases r; rfl
theorem view_non (r : View K G H x .non) : x = .non := by have r : Rep K G x .non := r; cases r; rfl
/-- an operation on two ints, maybe under a condition -/
def fInt (c : Int → Int → Bool) (f : Int → Int → D) : D → D → Option Res
  | .int i, .int j => br (c i j) (some (.val (f i j))) none
  | _, _ => none
def fInt0 (f : Int → Int → D) : D → D → Option Res
  | .int i, .int j => some (.val (f i j))
  | _, _ => none
theorem ok_int0 {f : Value → Value → Sem Value} {g : Int → Int → V} {h : Int → Int → D} (o : OpR X f (rI0 g)) (hg : ∀ i j G, Rep (kw X) G (g i j) (h i j)) : OpV X f (fInt0 h) := fun {G H x y a b res R} va vb sm e r => by
  unfold fInt0 at e
  split at e
  · cases e
    rw [view_int va, view_int vb]
    exact mOp_of o ⟨_, _, rfl, rfl, r _ (hg _ _ _)⟩
  · cases e
theorem br_some {α : Type} {b : Bool} {o : Option α} {a : α} (h : br b o none = some a) : b = true ∧ o = some a := by
  cases b with
  | true => exact ⟨rfl, h⟩
  | false => cases h
theorem ok_int {f : Value → Value → Sem Value} {c : Int → Int → Prop} {cb : Int → Int → Bool} {g : Int → Int → V} {h : Int → Int → D} (o : OpR X f (rI c g)) (hc : ∀ i j, cb i j = true → c i j) (hg : ∀ i j G, Rep (kw X) G (g i j) (h i j)) : OpV X f (fInt cb h) := fun {G H x y a b res R} va vb sm e r => by
  unfold fInt at e
  split at e
  · obtain ⟨hb, e⟩ := br_some e
    cases e
    rw [view_int va, view_int vb]
    exact mOp_of o ⟨_, _, rfl, rfl, hc _ _ hb, r _ (hg _ _ _)⟩
  · cases e
/-- a small factor -/
def smB (i : Int) : Bool := Nat.ble i.natAbs 9223372036854775808
def fSub : D → D → Option Res := fInt0 fun i j => .int (i - j)
def fMul : D → D → Option Res := fInt (fun i j => smB i || smB j) fun i j => .int (i * j)
def fMod : D → D → Option Res := fInt (fun _ j => !decide (j = 0)) fun i j => .int (i.fmod j)
def fDiv : D → D → Option Res := fInt (fun _ j => decide (0 < j) && decide (j < 1073741824)) fun i j => .int (i.fdiv j)
def fLt : D → D → Option Res := fInt0 fun i j => .bl (decide (i < j))
def fLe : D → D → Option Res := fInt0 fun i j => .bl (decide (i ≤ j))
def fGt : D → D → Option Res := fInt0 fun i j => .bl (decide (j < i))
def fGe : D → D → Option Res := fInt0 fun i j => .bl (decide (j ≤ i))
theorem v_sub : OpV X (binaryOp .Sub) fSub := ok_int0 op_sub (fun _ _ _ => .int _)
theorem smB_of {i : Int} (h : smB i = true) : -18446744073709551616 < i ∧ i < 18446744073709551616 := by
  have := Nat.le_of_ble_eq_true h
  omega
theorem v_mul : OpV X (binaryOp .Mult) fMul := ok_int (c := CMul) op_mul (fun i j h => by
  rw [Bool.or_eq_true] at h
  rcases h with h | h
  · exact .inl (by have := smB_of h; omega)
  · exact .inr (by have := smB_of h; omega)) (fun _ _ _ => .int _)
theorem v_fdiv : OpV X (binaryOp .FloorDiv) fDiv := ok_int (c := CDivN) op_fdivN (fun i j h => by
  rw [Bool.and_eq_true] at h
  have h1 := of_decide_eq_true h.1
  have h2 := of_decide_eq_true h.2
  unfold CDivN
  omega) (fun _ _ _ => .int _)
theorem v_mod : OpV X (binaryOp .Mod) fMod := ok_int (c := fun _ j => j ≠ 0) op_modN (fun _ j h => by simpa using h) (fun _ _ _ => .int _)
theorem v_lt : OpV X (compareOp .Lt) fLt := ok_int0 op_lt (fun _ _ _ => .bl _)
theorem v_le : OpV X (compareOp .LtE) fLe := ok_int0 op_le (fun _ _ _ => .bl _)
theorem v_gt : OpV X (compareOp .Gt) fGt := ok_int0 op_gt (fun _ _ _ => .bl _)
theorem v_ge : OpV X (compareOp .GtE) fGe := ok_int0 op_ge (fun _ _ _ => .bl _)
/-- + -/
def fAdd : D → D → Option Res
  | .int i, .int j => some (.val (.int (i + j)))
  | .lst xs, .lst ys => br (szB (xs.length + ys.length)) (some (.lst (xs ++ ys))) none
  | .tup xs, .tup ys => br (szB (xs.length + ys.length)) (some (.tup (xs ++ ys))) none
  | .str x, .str y => br (szB (x.length + y.length)) (some (.val (.str (x ++ y)))) none
  | _, _ => none
end

def rCatX (K : PySem.W.Frag) : R2 := fun x y H Q => ∃ a b vs ws, x = .ref a ∧ y = .ref b ∧ Rd H a (.lst vs) ∧ Rd H b (.lst ws) ∧ vs.length + ws.length ≤ sizeLine ∧ ∀ p, H p = none → Q (.ref p) (upd H p (.lst (vs ++ ws)))
theorem op_catX {X : Cx} : OpR X (binaryOp .Add) (rCatX X.K) := by
  intro pins s σ H x y v u Q I rx ry h
  obtain ⟨a, b, vs, ws, rfl, rfl, ha, hb, hz, q⟩ := h
  cases rx; cases ry
  obtain ⟨z1, i1, n1, r1, e1⟩ := ha.ok I.hok
  obtain ⟨z2, i2, n2, r2, e2⟩ := hb.ok I.hok
  have l1 := r1.length
  have l2 := r2.length
  refine PySem.P.add_list e1 e2 ?_ (by rw [List.size_toArray, List.size_toArray]; omega)
  rw [show i1.toArray ++ i2.toArray = (i1 ++ i2).toArray by simp]
  exact ⟨.ref _, _, I.lnew (t' := s.toks) (r1.append r2) (by rw [List.length_append]; omega), rfl, q _ I.fresh⟩

def ngB (neg q : Bool) : Bool := match neg with
  | true => !q
  | false => q
def sEq (a b : Str) : Bool := decide (a = b)
/-- == : scalars at once, else as data -/
def plB (a b : D) : Bool := pl a && (pl b && Nat.ble (py a).depth 50)
def eqv (a b : D) : Option Bool := match a, b with
  | .int i, .int j => some (decide (i = j))
  | .str i, .str j => some (sEq i j)
  | .bl i, .bl j => some (decide (i = j))
  | .non, .non => some true
  | .non, .int _ => some false
  | .int _, .non => some false
  | .non, .str _ => some false
  | .str _, .non => some false
  | .non, .bl _ => some false
  | .bl _, .non => some false
  | .int _, .str _ => some false
  | .str _, .int _ => some false
  | .bl _, .str _ => some false
  | .str _, .bl _ => some false
  | a, b => br (plB a b) (some (eqD a b)) none
def fEq (a b : D) : Option Res := match eqv a b with
  | some r => some (.val (.bl r))
  | none => none
def fNe (a b : D) : Option Res := match eqv a b with
  | some r => some (.val (.bl (!r)))
  | none => none
section
variable {X : Cx} {K : KW} {G H : Hp} {x y v : V}
theorem plB_of {a b : D} (h : plB a b = true) : pl a = true ∧ pl b = true ∧ (py a).depth ≤ 50 := by
  unfold plB at h
  simp only [Bool.and_eq_true] at h
  exact ⟨h.1, h.2.1, Nat.le_of_ble_eq_true h.2.2⟩
theorem ok_eqv {f : Value → Value → Sem Value} {neg : Bool} (o1 : OpR X f (fun x y H Q => scal x y = true ∧ Q (.bl (ngB neg (decide (x = y)))) H)) (o2 : OpR X f (rEqP X.K neg)) {a b : D} {q : Bool} {R : VK} (va : View (kw X) G H x a) (vb : View (kw X) G H y b) (sm : Sm G H) (hq : eqv a b = some q) (r : R (.bl (ngB neg q)) H) : mOp X f x y H R := by
  have sc : ∀ {x y : V} {q : Bool}, scal x y = true → decide (x = y) = q → R (.bl (ngB neg q)) H → mOp X f x y H R := fun hs hb r => by
    subst hb
    exact mOp_of o1 ⟨hs, r⟩
  unfold eqv at hq
  split at hq
  · cases hq; rw [view_int va, view_int vb]; exact sc rfl (by simp) r
  · cases hq; rw [view_str va, view_str vb]; exact sc rfl (by simp [sEq]) r
  · cases hq; rw [view_bl va, view_bl vb]; exact sc rfl (by simp) r
  · cases hq; rw [view_non va, view_non vb]; exact sc rfl (by simp) r
  · cases hq; rw [view_non va, view_int vb]; exact sc rfl (by simp) r
  · cases hq; rw [view_int va, view_non vb]; exact sc rfl (by simp) r
  · cases hq; rw [view_non va, view_str vb]; exact sc rfl (by simp) r
  · cases hq; rw [view_str va, view_non vb]; exact sc rfl (by simp) r
  · cases hq; rw [view_non va, view_bl vb]; exact sc rfl (by simp) r
  · cases hq; rw [view_bl va, view_non vb]; exact sc rfl (by simp) r
  · cases hq; rw [view_int va, view_str vb]; exact sc rfl (by simp) r
  · cases hq; rw [view_str va, view_int vb]; exact sc rfl (by simp) r
  · cases hq; rw [view_bl va, view_str vb]; exact sc rfl (by simp) r
  · cases hq; rw [view_str va, view_bl vb]; exact sc rfl (by simp) r
  · obtain ⟨hb, hq⟩ := br_some hq
    cases hq
    obtain ⟨h1, h2, h3⟩ := plB_of hb
    refine mOp_of o2 ⟨_, _, (va.rep sm).dp h1, (vb.rep sm).dp h2, h3, ?_⟩
    cases neg <;> exact r
theorem v_eq (hu : X.A.units + 64 < cLine) : OpV X (compareOp .Eq) fEq := fun {G H x y a b res R} va vb sm e r => by
  unfold fEq at e
  split at e
  · rename_i q hq
    cases e
    exact ok_eqv (neg := false) op_eq (op_eqP hu) va vb sm hq (r _ (.bl _))
  · cases e
theorem v_ne (hu : X.A.units + 64 < cLine) : OpV X (compareOp .NotEq) fNe := fun {G H x y a b res R} va vb sm e r => by
  unfold fNe at e
  split at e
  · rename_i q hq
    cases e
    exact ok_eqv (neg := true) op_ne (op_neP hu) va vb sm hq (r _ (.bl _))
  · cases e
theorem v_add : OpV X (binaryOp .Add) fAdd := fun {G H x y a b res R} va vb sm e r => by
  unfold fAdd at e
  split at e
  · cases e
    rw [view_int va, view_int vb]
    exact mOp_of op_add ⟨_, _, rfl, rfl, r _ (.int _)⟩
  · obtain ⟨hl, e⟩ := br_some e
    cases e
    obtain ⟨p, vs, rfl, h1, r1⟩ := va
    obtain ⟨q, ws, rfl, h2, r2⟩ := vb
    exact mOp_of op_catX ⟨p, q, vs, ws, rfl, rfl, h1, h2, by rw [r1.length, r2.length]; exact szB_le hl, fun l hp => r l _ hp (r1.append r2)⟩
  · obtain ⟨hl, e⟩ := br_some e
    cases e
    have va : Rep (kw X) G x _ := va
    have vb : Rep (kw X) G y _ := vb
    obtain ⟨p, vs, rfl, h1, r1⟩ := rep_tup va
    obtain ⟨q, ws, rfl, h2, r2⟩ := rep_tup vb
    refine mOp_of op_catA ⟨p, q, vs, ws, rfl, rfl, ex_t sm h1, ex_t sm h2, by rw [r1.length, r2.length]; exact szB_le hl, fun e => r.1 _ ?_, fun _ e => r.1 _ ?_, fun _ _ l hp => r.2 l _ hp (r1.append r2)⟩
    · subst e
      cases r1
      exact vb
    · subst e
      cases r2
      rw [List.append_nil]
      exact va
  · obtain ⟨hl, e⟩ := br_some e
    cases e
    rw [view_str va, view_str vb]
    exact mOp_of op_add_str ⟨_, _, rfl, rfl, szB_le hl, r _ (.str _)⟩
  · cases e
/-- in a list or a tuple -/
def fIn (a b : D) : Option Res := match seqOf b with
  | some ds => br (plB a b) (some (.val (.bl (ds.any fun z => eqD z a)))) none
  | none => none
def fNi (a b : D) : Option Res := match seqOf b with
  | some ds => br (plB a b) (some (.val (.bl (!ds.any fun z => eqD z a)))) none
  | none => none
theorem ok_in {f : Value → Value → Sem Value} {neg : Bool} (o : OpR X f (rInP X.K neg)) {a b : D} {ds : List D} {R : VK} (va : View (kw X) G H x a) (vb : View (kw X) G H y b) (sm : Sm G H) (hd : seqOf b = some ds) (hp : plB a b = true) (r : R (.bl (if neg then !ds.any fun z => eqD z a else ds.any fun z => eqD z a)) H) : mOp X f x y H R := by
  obtain ⟨h1, h2, h3⟩ := plB_of hp
  have hb : b = .lst ds ∨ b = .tup ds := by
    cases b with
    | lst xs => cases hd; exact .inl rfl
    | tup xs => cases hd; exact .inr rfl
    | _ => cases hd
  refine mOp_of o ⟨py a, pys ds, (va.rep sm).dp h1, dp_seq hb ((vb.rep sm).dp h2), h3, ?_⟩
  rw [any_pys]
  exact r
theorem v_in (hu : X.A.units + 64 < cLine) : OpV X (compareOp .In) fIn := fun {G H x y a b res R} va vb sm e r => by
  unfold fIn at e
  split at e
  · rename_i ds hd
    obtain ⟨hp, e⟩ := br_some e
    cases e
    exact ok_in (neg := false) (op_inP hu) va vb sm hd hp (r _ (.bl _))
  · cases e
theorem v_ni (hu : X.A.units + 64 < cLine) : OpV X (compareOp .NotIn) fNi := fun {G H x y a b res R} va vb sm e r => by
  unfold fNi at e
  split at e
  · rename_i ds hd
    obtain ⟨hp, e⟩ := br_some e
    cases e
    exact ok_in (neg := true) (op_niP hu) va vb sm hd hp (r _ (.bl _))
  · cases e
end
end FL

set_option Elab.async false
set_option linter.all false
set_option maxRecDepth 100000
set_option maxHeartbeats 4000000
namespace FL
open PySem PySem.Spec PyProof.Rows L2
/-! ### keys -/
def keq (a b : D) : Bool := match nk a, nk b with
  | some x, some y => NestedKey.beq x y
  | _, _ => false
def getK {α : Type} : List (D × α) → D → Option α
  | [], _ => none
  | (a, x) :: r, k => match keq a k with
    | true => some x
    | false => getK r k
def putG {α : Type} (kvs : List (D × α)) (k : D) (v : α) : List (D × α) := match (getK kvs k).isSome with
  | true => kvs.map fun a => match keq a.1 k with
    | true => (a.1, v)
    | false => a
  | false => kvs ++ [(k, v)]
def isSc : D → Bool
  | .int _ => true
  | .str _ => true
  | _ => false
def isTp (d : D) : Bool := match d with
  | .tup _ => match nk d with
    | some k => Nat.ble k.depth 8
    | none => false
  | _ => false
/-- the key is of the kind of the dict's keys -/
def kindB {α : Type} (kvs : List (D × α)) (k : D) : Bool := match kvs with
  | [] => isSc k || isTp k
  | (a, _) :: _ => (isSc a && isSc k) || (isTp a && isTp k)
theorem sc_key {d : D} (h : isSc d = true) : ∃ k, d = kD k := by
  cases d with
  | int i => exact ⟨.inl i, rfl⟩
  | str i => exact ⟨.inr i, rfl⟩
  | _ => cases h
theorem tp_key {d : D} (h : isTp d = true) : ∃ ds k, d = .tup ds ∧ nk d = some k ∧ k.depth ≤ 8 := by
  cases d with
  | tup ds =>
    unfold isTp at h
    cases e : nk (.tup ds) with
    | none => simp only [e] at h; cases h
    | some k => simp only [e] at h; exact ⟨ds, k, rfl, rfl, Nat.le_of_ble_eq_true h⟩
  | _ => cases h
theorem nk_kD (k : Key) : nk (kD k) = some (match k with | .inl i => .num i | .inr x => .text x) := by
  cases k with
  | inl i => simp only [kD]; unfold nk; rfl
  | inr i => simp only [kD]; unfold nk; rfl
theorem keq_kD (a b : Key) : keq (kD a) (kD b) = decide (a = b) := by
  unfold keq
  rw [nk_kD, nk_kD]
  cases a <;> cases b <;> simp [NestedKey.beq]
theorem keq_nk {a b : D} {x y : NestedKey} (h1 : nk a = some x) (h2 : nk b = some y) : keq a b = decide (x = y) := by
  unfold keq
  rw [h1, h2]
  exact (NestedKey.decide_eq x y).symm
/-! ### dicts by ints and texts -/
section
variable {K : KW} {T : Tb} {G H : Hp} {k : Key}
theorem valV_cons {κ : Type} [DecidableEq κ] {a k : κ} {v : V} {r : List (κ × V)} : valV ((a, v) :: r) k = if a = k then some v else valV r k := by
  unfold valV
  rw [List.find?_cons]
  by_cases c : a = k
  · simp [c]
  · simp [c]
theorem getK_dK : ∀ {us : List (Key × V)} {kvs : List (D × DV)}, kvs.map (·.1) = us.map (fun x => kD x.1) → DReps K T G (us.map (·.2)) (kvs.map (·.2)) →
    (∀ d, getK kvs (kD k) = some d → ∃ v, valV us k = some v ∧ DRep K T G v d) ∧ (getK kvs (kD k) = none → valV us k = none)
  | [], [], _, _ => ⟨fun d h => (by cases h), fun _ => rfl⟩
  | [], _ :: _, e, _ => by cases e
  | _ :: _, [], e, _ => by cases e
  | (a, v) :: us, (b, x) :: kvs, e, r => by
    simp only [List.map_cons, List.cons.injEq] at e
    obtain ⟨e1, e2⟩ := e
    simp only [List.map_cons] at r
    cases r with
    | cons r1 r2 =>
      subst e1
      obtain ⟨i1, i2⟩ := getK_dK e2 r2
      rw [valV_cons]
      unfold getK
      rw [keq_kD]
      by_cases c : a = k
      · rw [decide_eq_true c, if_pos c]
        exact ⟨fun d h => (by cases h; exact ⟨v, rfl, r1⟩), fun h => (by cases h)⟩
      · rw [decide_eq_false c, if_neg c]
        exact ⟨i1, i2⟩
end
/-! ### dicts by tuples -/
def findN {α : Type} (xs : List (NestedKey × Addr × α)) (k : NestedKey) : Option (Addr × α) := (xs.find? fun x => decide (x.1 = k)).map (·.2)
theorem findN_cons {α : Type} {x : NestedKey × Addr × α} {xs : List (NestedKey × Addr × α)} {k : NestedKey} : findN (x :: xs) k = if x.1 = k then some x.2 else findN xs k := by
  unfold findN
  rw [List.find?_cons]
  by_cases c : x.1 = k
  · simp [c]
  · simp [c]
section
variable {K : KW} {T : Tb} {G H : Hp} {k : NestedKey} {d0 : D}
theorem getK_dN (hk : nk d0 = some k) : ∀ {xs : List (NestedKey × Addr × V)} {kvs : List (D × DV)}, (kvs.map (·.1)).map nk = xs.map (fun x => some x.1) → DReps K T G (xs.map (·.2.2)) (kvs.map (·.2)) →
    (∀ d, getK kvs d0 = some d → ∃ b v, findN xs k = some (b, v) ∧ DRep K T G v d) ∧ (getK kvs d0 = none → findN xs k = none)
  | [], [], _, _ => ⟨fun d h => (by cases h), fun _ => rfl⟩
  | [], _ :: _, e, _ => by cases e
  | _ :: _, [], e, _ => by cases e
  | x :: xs, (n, z) :: kvs, e, r => by
    simp only [List.map_cons, List.cons.injEq] at e
    obtain ⟨e1, e2⟩ := e
    simp only [List.map_cons] at r
    cases r with
    | cons r1 r2 =>
      obtain ⟨i1, i2⟩ := getK_dN hk e2 r2
      rw [findN_cons]
      unfold getK
      rw [keq_nk e1 hk]
      by_cases c : x.1 = k
      · rw [decide_eq_true c, if_pos c]
        exact ⟨fun d h => (by cases h; exact ⟨x.2.1, x.2.2, rfl, r1⟩), fun h => (by cases h)⟩
      · rw [decide_eq_false c, if_neg c]
        exact ⟨i1, i2⟩
end
abbrev PN : NestedKey × Addr × V → NestedKey × Addr × Value → Prop := fun x y => x.1 = y.1 ∧ x.2.1 = y.2.1 ∧ RelV x.2.2 y.2.2
theorem find_pn {k : NestedKey} : ∀ {xs : List (NestedKey × Addr × V)} {ys : List (NestedKey × Addr × Value)}, Paired PN xs ys →
    (∀ b v, findN xs k = some (b, v) → ∃ u, atKey ys k = some (b, u) ∧ RelV v u) ∧ (findN xs k = none → atKey ys k = none)
  | _, _, .nil => ⟨fun b v h => (by cases h), fun _ => rfl⟩
  | x :: xs, y :: ys, .cons r t => by
    obtain ⟨i1, i2⟩ := find_pn (k := k) t
    have e : atKey (y :: ys) k = if y.1 = k then some y.2 else atKey ys k := findN_cons
    rw [findN_cons, e, r.1]
    by_cases c : y.1 = k
    · rw [if_pos c, if_pos c]
      refine ⟨fun b v h => ?_, fun h => (by cases h)⟩
      have h : x.2 = (b, v) := Option.some.inj h
      have h1 : x.2.1 = b := congrArg Prod.fst h
      have h2 : x.2.2 = v := congrArg Prod.snd h
      exact ⟨y.2.2, by rw [← h1, r.2.1], h2 ▸ r.2.2⟩
    · rw [if_neg c, if_neg c]
      exact ⟨i1, i2⟩
section
variable {X : Cx} {pins : List (Addr × Obj)} {σ : L2.St} {G H : Hp} {s : Shared}
mutual
theorem rep_nested (I : Inv X pins σ H s) (sm : Sm G H) : ∀ {v : V} {n : D} {k : NestedKey} {u : Value}, Rep (kw X) G v n → nk n = some k → RelV v u → NestedIs s.heap k u
  | _, _, _, _, .non, h, r => by unfold nk at h; cases h; cases (show _ = Value.none from r); exact .none
  | _, _, _, _, .bl b, h, r => by unfold nk at h; cases h; cases (show _ = Value.bool b from r); exact .bool rfl
  | _, _, _, _, .int i, h, r => by unfold nk at h; cases h; obtain ⟨t, rfl⟩ := (show ∃ t, _ = Value.int i t from r); exact .int i t
  | _, _, _, _, .str x, h, r => by unfold nk at h; cases h; obtain ⟨t, rfl⟩ := (show ∃ t, _ = Value.str x t from r); exact .text x t
  | _, _, k, u, .tup (a := a) (ds := ds) hq q, h, r => by
    unfold nk at h
    cases (show u = Value.ref a from r)
    cases e : nks ds with
    | none => simp only [e] at h; cases h
    | some ks =>
      simp only [e] at h
      cases h
      obtain ⟨its, rv, ⟨o, h1, h2, n, h3⟩, _⟩ := I.tuple (ex_t sm hq)
      exact .tup h1 h2 h3 (by simpa using reps_nested I sm q e rv)
  | _, _, _, _, .ty _, h, r => by unfold nk at h; cases h
  | _, _, _, _, .cn _, h, r => by unfold nk at h; cases h
  | _, _, _, _, .lst _ _, h, r => by unfold nk at h; cases h
  | _, _, _, _, .dK _ _ _, h, r => by unfold nk at h; cases h
  | _, _, _, _, .dN _ _ _ _ _, h, r => by unfold nk at h; cases h
  | _, _, _, _, .obj _ _ _, h, r => by unfold nk at h; cases h
theorem reps_nested (I : Inv X pins σ H s) (sm : Sm G H) : ∀ {vs : List V} {ns : List D} {ks : List NestedKey} {us : List Value}, Reps (kw X) G vs ns → nks ns = some ks → Vals vs us → NestedAll s.heap ks us
  | _, _, _, _, .nil, h, .nil => by unfold nks at h; cases h; exact .nil
  | _, _, _, _, .cons (d := d) (ds := ds) a b, h, .cons r t => by
    unfold nks at h
    cases e1 : nk d with
    | none => simp only [e1] at h; cases h
    | some k =>
      cases e2 : nks ds with
      | none => simp only [e1, e2] at h; cases h
      | some ks =>
        simp only [e1, e2] at h
        cases h
        exact .cons (rep_nested I sm a e1 r) (reps_nested I sm b e2 t)
end
theorem dn_keys (I : Inv X pins σ H s) (sm : Sm G H) : ∀ {xs : List (NestedKey × Addr × V)} {ys : List (NestedKey × Addr × Value)} {ns : List D}, Paired PN xs ys → ns.map nk = xs.map (fun x => some x.1) → Reps (kw X) G (xs.map fun x => .ref x.2.1) ns → (∀ x ∈ xs, x.1.depth ≤ 8) → ∀ y ∈ ys, (nestedKind X.prog X.w).is s.heap y.1 y.2.1
  | [], [], _, .nil, _, _, _ => fun y hy => by cases hy
  | x :: xs, y :: ys, [], .cons r t, hn, hk, hd => by cases hn
  | x :: xs, y :: ys, n :: ns, .cons r t, hn, .cons k1 k2, hd => fun z hz => by
    simp only [List.map_cons, List.cons.injEq] at hn
    rcases List.mem_cons.mp hz with rfl | hz
    · rw [← r.1, ← r.2.1]
      exact ⟨rep_nested I sm k1 hn.1 rfl, hd x List.mem_cons_self⟩
    · exact dn_keys I sm t hn.2 k2 (fun z hz => hd z (List.mem_cons_of_mem _ hz)) z hz
/-- the dict by tuples, in the heap -/
theorem dn_at {a : Addr} {xs : List (NestedKey × Addr × V)} {ns : List D} (I : Inv X pins σ H s) (sm : Sm G H) (h : Rd H a (DN X.prog X.w a xs)) (hn : ns.map nk = xs.map (fun x => some x.1)) (hk : Reps (kw X) G (xs.map fun x => .ref x.2.1) ns) (hd : ∀ x ∈ xs, x.1.depth ≤ 8) :
    (a == sysModules) = false ∧ ∃ ys, Paired PN xs ys ∧ s.heap.DictOfH (nestedKind X.prog X.w) a ys := by
  obtain ⟨⟨h0, _, ys, hp, o, es, ep, h1, h2, h3, h4, h5⟩, _, _⟩ := h.ok I.hok
  exact ⟨h0, ys, hp, o, es, ep, h1, h2, h3, h4, dn_keys I sm hp hn hk hd, h5⟩
end
end FL

set_option Elab.async false
set_option linter.all false
set_option maxRecDepth 100000
set_option maxHeartbeats 4000000
namespace FL
open PySem PySem.Spec PyProof.Rows L2
def kindN (ns : List D) (k : D) : Bool := match ns with
  | [] => isSc k || isTp k
  | a :: _ => (isSc a && isSc k) || (isTp a && isTp k)
theorem kindB_eq {α : Type} (kvs : List (D × α)) (k : D) : kindB kvs k = kindN (kvs.map (·.1)) k := by
  cases kvs <;> rfl
section
variable {X : Cx} {pins : List (Addr × Obj)} {σ : L2.St} {G H : Hp} {s : Shared} {T : Tb} {a : Addr} {ns : List D} {us : List V}
theorem rep_kD {k : Key} {v : V} (r : Rep (kw X) G v (kD k)) : v = kV k := by
  cases k with
  | inl i => have r : Rep (kw X) G v (.int i) := r; cases r; rfl
  | inr i => have r : Rep (kw X) G v (.str i) := r; cases r; rfl
theorem nk_scal {k : Key} {d : D} (h : isTp d = true) : d ≠ kD k := by
  rintro rfl
  cases k <;> cases h
theorem dctof_nil {d : Addr} {h : Heap} {vs : List (Key × Value)} (hv : vs = []) (dd : h.DictOf (mixKind X.prog X.w) d vs) : h.DictOfH (nestedKind X.prog X.w) d [] := by
  subst hv
  obtain ⟨o, es, ep, h1, h2, h3, _, h4, _⟩ := dd
  have e : es.toList = [] := by cases h4' : es.toList with | nil => rfl | cons x y => rw [h4'] at h4; cases h4
  exact ⟨o, es, ep, h1, h2, h3, e, fun x hx => (by cases hx), List.nodup_nil⟩
theorem dctofH_nil {d : Addr} {h : Heap} (dd : h.DictOfH (nestedKind X.prog X.w) d []) : h.DictOf (mixKind X.prog X.w) d [] := by
  obtain ⟨o, es, ep, h1, h2, h3, h4, _, _⟩ := dd
  refine ⟨o, es, ep, h1, h2, h3, fun e he => ?_, by rw [h4]; exact .nil, List.nodup_nil⟩
  have : e ∈ es.toList := by simpa using he
  rw [h4] at this
  cases this
def DvC (X : Cx) (s : Shared) (a : Addr) (ns : List D) (us : List V) (y : V) (n : D) (u : Value) : Prop := (∃ (kvs : List (Key × V)) (vs : List (Key × Value)) (k : Key), ns = kvs.map (fun x => kD x.1) ∧ us = kvs.map (·.2) ∧ n = kD k ∧ y = kV k ∧ KV kvs vs ∧ s.heap.DictOf (mixKind X.prog X.w) a vs) ∨
    (∃ (xs : List (NestedKey × Addr × V)) (ys : List (NestedKey × Addr × Value)) (b : Addr) (k : NestedKey), ns.map nk = xs.map (fun x => some x.1) ∧ us = xs.map (·.2.2) ∧ nk n = some k ∧ y = .ref b ∧ u = .ref b ∧ Paired PN xs ys ∧ (nestedKind X.prog X.w).is s.heap k b ∧ s.heap.DictOfH (nestedKind X.prog X.w) a ys)
/-- a dict is asked by a key n: by ints and texts, or by tuples -/
theorem dv_cases (I : Inv X pins σ H s) (sm : Sm G H) (dv : DctV (kw X) G H a ns us) {y : V} {n : D} {u : Value} (ry : Rep (kw X) G y n) (ru : RelV y u) (hk : kindN ns n = true) :
    (a == sysModules) = false ∧ DvC X s a ns us y n u := by
  have tp : isTp n = true → ∃ (b : Addr) (k : NestedKey), nk n = some k ∧ y = .ref b ∧ u = .ref b ∧ (nestedKind X.prog X.w).is s.heap k b := by
    intro h
    obtain ⟨ds, k, rfl, h1, h2⟩ := tp_key h
    obtain ⟨b, vs, rfl, _, _⟩ := rep_tup ry
    cases (show u = Value.ref b from ru)
    exact ⟨b, k, h1, rfl, rfl, rep_nested I sm ry h1 rfl, h2⟩
  rcases dv with ⟨kvs, h1, rfl, rfl⟩ | ⟨xs, h1, h2, h3, h4, rfl⟩
  · obtain ⟨z, hd, vs, rel, dd⟩ := dk_rd I.hok h1
    refine ⟨hd, ?_⟩
    have sc : isSc n = true → DvC X s a (kvs.map fun x => kD x.1) (kvs.map (·.2)) y n u := fun h => by
      obtain ⟨k, rfl⟩ := sc_key h
      exact .inl ⟨kvs, vs, k, rfl, rfl, rfl, rep_kD ry, rel, dd⟩
    cases kvs with
    | nil =>
      unfold kindN at hk
      simp only [List.map_nil, Bool.or_eq_true] at hk
      rcases hk with hk | hk
      · exact sc hk
      · obtain ⟨b, k, e1, e2, e3, e4⟩ := tp hk
        have hv : vs = [] := by cases rel; rfl
        exact .inr ⟨[], [], b, k, rfl, rfl, e1, e2, e3, .nil, e4, dctof_nil hv dd⟩
    | cons p r =>
      unfold kindN at hk
      simp only [List.map_cons, Bool.or_eq_true, Bool.and_eq_true] at hk
      rcases hk with hk | hk
      · exact sc hk.2
      · exact absurd rfl (nk_scal hk.1)
  · obtain ⟨hd, ys, hp, dd⟩ := dn_at I sm h1 h2 h3 h4
    refine ⟨hd, ?_⟩
    have tpc : isTp n = true → DvC X s a ns (xs.map (·.2.2)) y n u := fun h => by
      obtain ⟨b, k, e1, e2, e3, e4⟩ := tp h
      exact .inr ⟨xs, ys, b, k, h2, rfl, e1, e2, e3, hp, e4, dd⟩
    cases ns with
    | nil =>
      unfold kindN at hk
      simp only [Bool.or_eq_true] at hk
      rcases hk with hk | hk
      · obtain ⟨k, rfl⟩ := sc_key hk
        have hx : xs = [] := by cases xs with | nil => rfl | cons _ _ => cases h2
        subst hx
        cases hp
        exact .inl ⟨[], [], k, rfl, rfl, rfl, rep_kD ry, .nil, dctofH_nil dd⟩
      · exact tpc hk
    | cons n0 r =>
      unfold kindN at hk
      simp only [Bool.or_eq_true, Bool.and_eq_true] at hk
      rcases hk with hk | hk
      · cases xs with
        | nil => cases h2
        | cons x xs =>
          cases h3 with
          | cons k1 _ =>
            obtain ⟨k, rfl⟩ := sc_key hk.1
            have := rep_kD k1
            cases k <;> cases this
      · exact tpc hk.2
theorem dv_get {kvs : List (D × DV)} {A : Around} {E : Value → Shared → Prop} {Q : Value → Shared → Prop} (hu : A.units + 64 < cLine) (I : Inv X pins σ H s) (sm : Sm G H) (dv : DctV (kw X) G H a ns us) (he : kvs.map (·.1) = ns) (hr : DReps (kw X) T G us (kvs.map (·.2))) {y : V} {n : D} {u : Value} (ry : Rep (kw X) G y n) (ru : RelV y u) (hk : kindN ns n = true) {z : DV} (hg : getK kvs n = some z)
    (h : ∀ v' w' s', Inv X pins σ H s' → RelV v' w' → DRep (kw X) T G v' z → Q w' s') : wpAny (model X.prog X.w) A (getItem (.ref a) u) Q E s := by
  obtain ⟨hd, ⟨ks, vs, k, rfl, rfl, rfl, rfl, rel, dd⟩ | ⟨xs, ys, b, k, h2, rfl, e1, rfl, rfl, hp, e4, dd⟩⟩ := dv_cases I sm dv ry ru hk
  · obtain ⟨v', hv, rv⟩ := (getK_dK (k := k) he hr).1 z hg
    obtain ⟨w', hw, rw'⟩ := RelO.some_of (v := v') (o := valueAt vs k) (by rw [← hv]; exact rel.val k)
    exact wpAny_getItem_of (kV_is ru) dd.mapOf hw (h v' w' _ (I.tok _) rw' rv)
  · obtain ⟨c, v', hv, rv⟩ := (getK_dN (k := k) e1 (by rw [he]; exact h2) hr).1 z hg
    obtain ⟨w', hw, rw'⟩ := (find_pn hp).1 c v' hv
    exact wpAny_getItem_heap (show (A.in1).units + 8 < cLine by simp only [Around.in1] at *; omega) e4 dd hw (h v' w' _ (I.tok _) rw' rv)
theorem dv_in {kvs : List (D × DV)} {A : Around} {E : Value → Shared → Prop} {Q : Value → Shared → Prop} (hu : A.units + 64 < cLine) (I : Inv X pins σ H s) (sm : Sm G H) (dv : DctV (kw X) G H a ns us) (he : kvs.map (·.1) = ns) (hr : DReps (kw X) T G us (kvs.map (·.2))) {y : V} {n : D} {u : Value} (ry : Rep (kw X) G y n) (ru : RelV y u) (hk : kindN ns n = true)
    (h : ∀ s', Inv X pins σ H s' → Q (.bool (getK kvs n).isSome) s') : wpAny (model X.prog X.w) A (compareOp .In u (.ref a)) Q E s := by
  obtain ⟨hd, ⟨ks, vs, k, rfl, rfl, rfl, rfl, rel, dd⟩ | ⟨xs, ys, b, k, h2, rfl, e1, rfl, rfl, hp, e4, dd⟩⟩ := dv_cases I sm dv ry ru hk
  · refine wpAny_in_of (kV_is ru) hd dd.mapOf ?_
    have e := (rel.val k).isSome_eq
    rw [← e]
    cases hg : getK kvs (kD k) with
    | none => rw [(getK_dK (k := k) he hr).2 hg]; have := h _ (I.tok (s.toks + 1)); rw [hg] at this; exact this
    | some z => obtain ⟨v', hv, _⟩ := (getK_dK (k := k) he hr).1 z hg; rw [hv]; have := h _ (I.tok (s.toks + 1)); rw [hg] at this; exact this
  · refine wpAny_in_heap (show (A.in1).units + 8 < cLine by simp only [Around.in1] at *; omega) e4 hd dd ?_
    cases hg : getK kvs n with
    | none => rw [(find_pn hp).2 ((getK_dN (k := k) e1 (by rw [he]; exact h2) hr).2 hg)]; have := h _ (I.tok (s.toks + (nestedKind X.prog X.w).draws k)); rw [hg] at this; exact this
    | some z =>
      obtain ⟨c, v', hv, _⟩ := (getK_dN (k := k) e1 (by rw [he]; exact h2) hr).1 z hg
      obtain ⟨w', hw, _⟩ := (find_pn hp).1 c v' hv
      rw [hw]; have := h _ (I.tok (s.toks + (nestedKind X.prog X.w).draws k)); rw [hg] at this; exact this
theorem dv_ni {kvs : List (D × DV)} {A : Around} {E : Value → Shared → Prop} {Q : Value → Shared → Prop} (hu : A.units + 64 < cLine) (I : Inv X pins σ H s) (sm : Sm G H) (dv : DctV (kw X) G H a ns us) (he : kvs.map (·.1) = ns) (hr : DReps (kw X) T G us (kvs.map (·.2))) {y : V} {n : D} {u : Value} (ry : Rep (kw X) G y n) (ru : RelV y u) (hk : kindN ns n = true)
    (h : ∀ s', Inv X pins σ H s' → Q (.bool (!(getK kvs n).isSome)) s') : wpAny (model X.prog X.w) A (compareOp .NotIn u (.ref a)) Q E s := by
  obtain ⟨hd, ⟨ks, vs, k, rfl, rfl, rfl, rfl, rel, dd⟩ | ⟨xs, ys, b, k, h2, rfl, e1, rfl, rfl, hp, e4, dd⟩⟩ := dv_cases I sm dv ry ru hk
  · refine wpAny_notIn_of (kV_is ru) hd dd.mapOf ?_
    have e := (rel.val k).isSome_eq
    rw [← e]
    cases hg : getK kvs (kD k) with
    | none => rw [(getK_dK (k := k) he hr).2 hg]; have := h _ (I.tok (s.toks + 1)); rw [hg] at this; exact this
    | some z => obtain ⟨v', hv, _⟩ := (getK_dK (k := k) he hr).1 z hg; rw [hv]; have := h _ (I.tok (s.toks + 1)); rw [hg] at this; exact this
  · refine wpAny_notIn_heap (show (A.in1).units + 8 < cLine by simp only [Around.in1] at *; omega) e4 hd dd ?_
    cases hg : getK kvs n with
    | none => rw [(find_pn hp).2 ((getK_dN (k := k) e1 (by rw [he]; exact h2) hr).2 hg)]; have := h _ (I.tok (s.toks + (nestedKind X.prog X.w).draws k)); rw [hg] at this; exact this
    | some z =>
      obtain ⟨c, v', hv, _⟩ := (getK_dN (k := k) e1 (by rw [he]; exact h2) hr).1 z hg
      obtain ⟨w', hw, _⟩ := (find_pn hp).1 c v' hv
      rw [hw]; have := h _ (I.tok (s.toks + (nestedKind X.prog X.w).draws k)); rw [hg] at this; exact this
end
end FL

set_option Elab.async false
set_option linter.all false
set_option maxRecDepth 100000
set_option maxHeartbeats 4000000
namespace FL
open PySem PySem.Spec PyProof.Rows L2
/-! ### subscripts -/
def mIx (X : Cx) : R2 := fun x y H Q => ∀ (value slice : Expr) (pins : List (Addr × Obj)) (s : Shared) (σ : L2.St) (v u : Value), Inv X pins σ H s → RelV x v → RelV y u →
    subscripted slice false v u = operate [v, u] (getItem v u) → wpAny (model X.prog X.w) X.A (subscriptTail value slice v u) (EP X pins σ Q) X.xe s
theorem ix_max {X : Cx} : IxR X (mIx X) := fun value slice pins s σ H x y v u Q I rx ry h hs => h value slice pins s σ v u I rx ry hs
theorem mIx_of {X : Cx} {r : R2} (o : IxR X r) {x y : V} {H : Hp} {R : VK} (h : r x y H R) : mIx X x y H R := fun value slice pins s σ v u I rx ry hs => o value slice pins s σ H x y v u R I rx ry h hs
theorem kind_key {ns : List D} {n : D} (h : kindN ns n = true) : isSc n = true ∨ isTp n = true := by
  unfold kindN at h
  split at h
  · simpa using h
  · simp only [Bool.or_eq_true, Bool.and_eq_true] at h
    rcases h with h | h
    · exact .inl h.2
    · exact .inr h.2
theorem view_key {K : KW} {G H : Hp} {v : V} {n : D} (h : isSc n = true ∨ isTp n = true) (vw : View K G H v n) : Rep K G v n := by
  cases n with
  | int i => exact vw
  | str i => exact vw
  | tup i => exact vw
  | _ => rcases h with h | h <;> cases h
theorem dv_type {X : Cx} {pins : List (Addr × Obj)} {σ : L2.St} {G H : Hp} {s : Shared} {a : Addr} {ns : List D} {us : List V} (I : Inv X pins σ H s) (dv : DctV (kw X) G H a ns us) : s.TypeIs (.ref a) "dict" := by
  rcases dv with ⟨kvs, h1, _⟩ | ⟨xs, h1, _⟩
  · obtain ⟨z, hd, vs, rel, dd⟩ := dk_rd I.hok h1
    exact dd.typeIs
  · obtain ⟨⟨_, _, ys, _, o, es, ep, h1, h2, _⟩, _, _⟩ := h1.ok I.hok
    exact ⟨o, h1, h2.1⟩
def ixP (a b : D) : Option D := match a with
  | .lst ds => match b with
    | .int i => atI ds i
    | _ => none
  | .tup ds => match b with
    | .int i => atI ds i
    | _ => none
  | .dct kvs => br (kindB kvs b) (getK kvs b) none
  | _ => none
def ixD (a : D) (b : Option D) : Option DV := match b with
  | some b => match ixP a b with
    | some d => some (.d d)
    | none => none
  | none => none
def ixV (L : OL) (x : DV) (b : Option D) : Option DV :=
  match x with
  | .h k => match L[k]? with
    | some (.own (.k kvs)) => match b with
      | some b => br (kindB kvs b) (getK kvs b) none
      | none => none
    | some (.own (.l xs)) => match b with
      | some (.int i) => atI xs i
      | _ => none
    | some (.own (.p a)) => ixD a b
    | some (.fz a) => ixD a b
    | _ => none
  | .d a => ixD a b
section
variable {X : Cx} {e ea eb : Expr} {pos : Pos} {fa fb : Ev}
theorem atI_reps {K : KW} {G : Hp} {vs : List V} {ds : List D} {i : Int} {d : D} (r : Reps K G vs ds) (h : atI ds i = some d) : ∃ v, atI vs i = some v ∧ Rep K G v d := by
  unfold atI at h ⊢
  rw [r.length]
  cases e : ixN ds.length i with
  | none => rw [e] at h; cases h
  | some j => rw [e] at h; exact r.get h
theorem atI_dreps {K : KW} {T : Tb} {G : Hp} {i : Int} {x : DV} {us : List V} {xs : List DV} (r : DReps K T G us xs) (h : atI xs i = some x) : ∃ v, atI us i = some v ∧ DRep K T G v x := by
  unfold atI at h ⊢
  rw [r.length]
  cases e : ixN xs.length i with
  | none => rw [e] at h; cases h
  | some j => rw [e] at h; exact r.get h
theorem mIx_dct {T : Tb} {G H : Hp} {a : Addr} {ns : List D} {us : List V} {kvs : List (D × DV)} {y : V} {n : D} {z : DV} {R : VK} (hu : X.A.units + 64 < cLine) (sm : Sm G H) (dv : DctV (kw X) G H a ns us) (he : kvs.map (·.1) = ns) (hr : DReps (kw X) T G us (kvs.map (·.2))) (ry : Rep (kw X) G y n) (hk : kindN ns n = true) (hg : getK kvs n = some z) (q : ∀ v, DRep (kw X) T G v z → R v H) : mIx X (.ref a) y H R := by
  intro value slice pins s σ v u I rx ru hs
  cases (show v = Value.ref a from rx)
  exact PyProof.Rows.tail_any (dv_type I dv) PySem.F.slot_dict_getitem.lookup (dv_get hu I sm dv he hr ry ru hk hg fun v' w' s' I' rw' rv => ⟨v', H, I', rw', q v' rv⟩) hs
theorem dctD_map {α : Type} (kvs : List (D × D)) (n : D) : getK (kvs.map fun a => (a.1, DV.d a.2)) n = (getK kvs n).map DV.d := by
  induction kvs with
  | nil => rfl
  | cons a r ih =>
    simp only [List.map_cons, getK]
    cases keq a.1 n with
    | true => rfl
    | false => exact ih
theorem ixP_ok {G H : Hp} {x y : V} {a b d : D} {R : VK} (hu : X.A.units + 64 < cLine) (sm : Sm G H) (va : View (kw X) G H x a) (vb : View (kw X) G H y b) (h : ixP a b = some d) (q : ∀ v, Rep (kw X) G v d → R v H) : mIx X x y H R := by
  cases a with
  | lst ds =>
    cases b with
    | int i =>
      obtain ⟨p, vs, rfl, h1, r⟩ := va
      rw [view_int vb]
      obtain ⟨v, e, rv⟩ := atI_reps r h
      exact mIx_of ix_list ⟨p, vs, _, v, rfl, rfl, .inl h1, e, q v rv⟩
    | _ => cases h
  | tup ds =>
    cases b with
    | int i =>
      have va : Rep (kw X) G x _ := va
      obtain ⟨p, vs, rfl, h1, r⟩ := rep_tup va
      rw [view_int vb]
      obtain ⟨v, e, rv⟩ := atI_reps r h
      exact mIx_of ix_tup ⟨p, vs, _, v, rfl, rfl, ex_t sm h1, e, q v rv⟩
    | _ => cases h
  | dct kvs =>
    obtain ⟨hk, hg⟩ := br_some (show br (kindB kvs b) (getK kvs b) none = some d from h)
    rw [kindB_eq] at hk
    obtain ⟨p, us, rfl, dv, r⟩ := va
    refine mIx_dct (T := []) (kvs := kvs.map fun a => (a.1, DV.d a.2)) hu sm dv (by rw [List.map_map]; rfl) (by rw [List.map_map]; have := Reps.dv (T := []) r; rw [List.map_map] at this; exact this) (view_key (kind_key hk) vb) hk (z := .d d) (by rw [dctD_map (α := Unit), hg]; rfl) fun v rv => ?_
    cases rv with
    | d rv => exact q v rv
  | _ => cases h
theorem ixV_ok {B : Fra} {T : Tb} {L : OL} {G : Hp} {σ : L2.St} {H : Hp} {env : VEnv} {F : Hp → Prop} {u v : V} {x y z : DV} {R : VK} (hu : X.A.units + 64 < cLine) (o : OkF (kw X) B T L G σ H env F) (rx : DRep (kw X) T G u x) (ry : DRep (kw X) T G v y) (h : ixV L x (see L y) = some z) (q : ∀ v, DRep (kw X) T G v z → R v H) : mIx X u v H R := by
  have plain : ∀ {a : D}, View (kw X) G H u a → ixD a (see L y) = some z → mIx X u v H R := by
    intro a va h
    unfold ixD at h
    cases hb : see L y with
    | none => rw [hb] at h; cases h
    | some b =>
      rw [hb] at h
      cases hd : ixP a b with
      | none => simp only [hd] at h; cases h
      | some d =>
        simp only [hd] at h
        cases h
        exact ixP_ok hu o.sub va (o.see ry hb) hd fun v r => q v (.d r)
  cases rx with
  | d r => exact plain (Rep.view r o.sub) h
  | h hk =>
    rename_i k p
    simp only [ixV] at h
    split at h
    · rename_i kvs hc
      cases hb : see L y with
      | none => rw [hb] at h; cases h
      | some b =>
        rw [hb] at h
        obtain ⟨hkd, hg⟩ := br_some h
        rw [kindB_eq] at hkd
        obtain ⟨ho, us, hp, m, r⟩ := (o.own k p _ hk hc : AtO (kw X) T G H p (.k kvs))
        exact mIx_dct hu o.sub (m.v hp) rfl r (view_key (kind_key hkd) (o.see ry hb)) hkd hg q
    · rename_i xs hc
      split at h
      · rename_i i hb
        obtain ⟨us, hp, r⟩ := (o.own k p _ hk hc : AtO (kw X) T G H p (.l xs))
        obtain ⟨v', e, rv⟩ := atI_dreps r h
        rw [view_int (o.see ry hb)]
        exact mIx_of ix_list ⟨p, us, i, v', rfl, rfl, SqL.of hp, e, q v' rv⟩
      · cases h
    · rename_i a hc
      exact plain (At.view (o.own k p _ hk hc : AtO (kw X) T G H p (.p a))) h
    · rename_i a hc
      exact plain (Rep.view (o.own k p _ hk hc : Rep (kw X) G (.ref p) a) o.sub) h
    · cases h
def eIx (a b : Ev) : Ev := fun L env => bnd (a L env) fun L1 x => bnd (b L1 env) fun L2 y => opt L2 (ixV L2 x (see L2 y))
theorem re_ix (hu : X.A.units + 64 < cLine) (a : RE X ea fa) (b : RE X eb fb) (hs : PlainIx eb) : RE X (.Subscript ea eb pos) (eIx fa fb) :=
  ⟨fun {L env Q Ex} h {W B T G σ H R F} hn tk o n xc => mE_of (pe_ix ix_max pe_max pe_max hs) (a.ok (post_bnd h) hn tk o (fun T1 L1 G1 H1 u x q1 t1 o1 => b.ok (post_bnd q1) hn tk o1 (fun T2 L2 G2 H2 v y q2 t2 o2 => by
    obtain ⟨z, hz, q⟩ := post_opt q2
    have o3 := o2.as o.st o2.f.1.1
    exact ixV_ok hu o3 ((o2.f.1.2 : DRep (kw X) T1 G2 u x).mono (Sm.refl _) t2) o2.f.2 hz fun v' r => n T2 L2 G2 H2 v' z q (t1.trans t2) (o3.push (stab_drep _ _) r)) (xc.more t1 o.st)) xc)⟩
/-! ### in, for lists, tuples, dicts -/
def fIn2 (a b : D) : Option Res := match b with
  | .dct kvs => br (kindB kvs a) (some (.val (.bl (getK kvs a).isSome))) none
  | b => fIn a b
def fNi2 (a b : D) : Option Res := match b with
  | .dct kvs => br (kindB kvs a) (some (.val (.bl (!(getK kvs a).isSome)))) none
  | b => fNi a b
theorem isSome_map {α β : Type} (o : Option α) (f : α → β) : (o.map f).isSome = o.isSome := by cases o <;> rfl
theorem v_in2 (hu : X.A.units + 64 < cLine) : OpV X (compareOp .In) fIn2 := fun {G H x y a b res R} va vb sm e r => by
  unfold fIn2 at e
  split at e
  · rename_i kvs
    obtain ⟨hk, e⟩ := br_some e
    cases e
    rw [kindB_eq] at hk
    obtain ⟨p, us, rfl, dv, rr⟩ := vb
    intro pins s σ v u I rx ry
    cases (show u = Value.ref p from ry)
    refine dv_in (T := []) (kvs := kvs.map fun a => (a.1, DV.d a.2)) hu I sm dv (by rw [List.map_map]; rfl) (by rw [List.map_map]; have := Reps.dv (T := []) rr; rw [List.map_map] at this; exact this) (view_key (kind_key hk) va) rx hk fun s' I' => ?_
    rw [dctD_map (α := Unit), isSome_map]
    exact ⟨.bl _, H, I', rfl, r _ (.bl _)⟩
  · exact v_in hu va vb sm e r
theorem v_ni2 (hu : X.A.units + 64 < cLine) : OpV X (compareOp .NotIn) fNi2 := fun {G H x y a b res R} va vb sm e r => by
  unfold fNi2 at e
  split at e
  · rename_i kvs
    obtain ⟨hk, e⟩ := br_some e
    cases e
    rw [kindB_eq] at hk
    obtain ⟨p, us, rfl, dv, rr⟩ := vb
    intro pins s σ v u I rx ry
    cases (show u = Value.ref p from ry)
    refine dv_ni (T := []) (kvs := kvs.map fun a => (a.1, DV.d a.2)) hu I sm dv (by rw [List.map_map]; rfl) (by rw [List.map_map]; have := Reps.dv (T := []) rr; rw [List.map_map] at this; exact this) (view_key (kind_key hk) va) rx hk fun s' I' => ?_
    rw [dctD_map (α := Unit), isSome_map]
    exact ⟨.bl _, H, I', rfl, r _ (.bl _)⟩
  · exact v_ni hu va vb sm e r
end
end FL

set_option Elab.async false
set_option linter.all false
set_option maxRecDepth 100000
set_option maxHeartbeats 4000000
namespace FL
open PySem PySem.Spec PyProof.Rows L2
/-! ### d[k] = v, d one's own -/
theorem putG_keys {α : Type} (kvs : List (D × α)) (k : D) (v : α) : (putG kvs k v).map (·.1) = match (getK kvs k).isSome with | true => kvs.map (·.1) | false => kvs.map (·.1) ++ [k] := by
  unfold putG
  cases (getK kvs k).isSome with
  | true =>
    simp only [List.map_map]
    apply List.map_congr_left
    intro a _
    simp only [Function.comp]
    cases keq a.1 k <;> rfl
  | false => simp
section
variable {K : KW} {T : Tb} {G : Hp}
theorem valV_none_any {us : List (Key × V)} {k : Key} : (us.any fun kv => decide (kv.1 = k)) = (valV us k).isSome := by
  induction us with
  | nil => rfl
  | cons a r ih =>
    rw [List.any_cons, ih, valV_cons (a := a.1) (v := a.2)]
    by_cases c : a.1 = k
    · simp [c]
    · simp [c]
theorem put_dK {k : Key} {v : V} {z : DV} {us : List (Key × V)} {kvs : List (D × DV)} (e : kvs.map (·.1) = us.map (fun x => kD x.1)) (r : DReps K T G (us.map (·.2)) (kvs.map (·.2))) (rz : DRep K T G v z) :
    (putG kvs (kD k) z).map (·.1) = (putK us k v).map (fun x => kD x.1) ∧ DReps K T G ((putK us k v).map (·.2)) ((putG kvs (kD k) z).map (·.2)) := by
  have hs : (getK kvs (kD k)).isSome = (us.any fun kv => decide (kv.1 = k)) := by
    rw [valV_none_any]
    cases hg : getK kvs (kD k) with
    | none => rw [(getK_dK e r).2 hg]; rfl
    | some d => obtain ⟨v', hv, _⟩ := (getK_dK e r).1 d hg; rw [hv]; rfl
  unfold putG putK
  rw [hs]
  cases (us.any fun kv => decide (kv.1 = k)) with
  | false =>
    refine ⟨by simp [e], ?_⟩
    simp only [Bool.false_eq_true, if_false, List.map_append, List.map_cons, List.map_nil]
    exact r.append (.cons rz .nil)
  | true =>
    simp only [if_true]
    clear hs
    induction us generalizing kvs with
    | nil => cases kvs with
      | nil => exact ⟨rfl, .nil⟩
      | cons a b => cases e
    | cons a us ih => cases kvs with
      | nil => cases e
      | cons b kvs =>
        simp only [List.map_cons, List.cons.injEq] at e
        simp only [List.map_cons] at r
        cases r with
        | cons r1 r2 =>
          obtain ⟨i1, i2⟩ := ih e.2 r2
          simp only [List.map_cons]
          rw [e.1, keq_kD]
          by_cases c : a.1 = k
          · rw [decide_eq_true c]
            simp only [c, if_true]
            refine ⟨?_, .cons rz i2⟩
            rw [i1]; first | done | simp [e.1, c]
          · rw [decide_eq_false c]
            simp only [c, if_false]
            exact ⟨by rw [i1, e.1], .cons r1 i2⟩
end
def putV (k : NestedKey) (v : V) (x : NestedKey × Addr × V) : NestedKey × Addr × V := if x.1 = k then (x.1, x.2.1, v) else x
def storedV (xs : List (NestedKey × Addr × V)) (k : NestedKey) (a : Addr) (v : V) : List (NestedKey × Addr × V) := if (findN xs k).isSome then xs.map (putV k v) else xs ++ [(k, a, v)]
theorem paired_app {α β : Type} {P : α → β → Prop} : ∀ {xs zs : List α} {ys ws : List β}, Paired P xs ys → Paired P zs ws → Paired P (xs ++ zs) (ys ++ ws)
  | _, _, _, _, .nil, s => s
  | _, _, _, _, .cons r t, s => .cons r (paired_app t s)
theorem stored_pn {k : NestedKey} {b : Addr} {v : V} {u : Value} (rv : RelV v u) {xs : List (NestedKey × Addr × V)} {ys : List (NestedKey × Addr × Value)} (p : Paired PN xs ys) : Paired PN (storedV xs k b v) (storedH ys k b u) := by
  have hs : (findN xs k).isSome = (atKey ys k).isSome := by
    cases h : findN xs k with
    | none => rw [(find_pn p).2 h]; rfl
    | some q => obtain ⟨w, hw, _⟩ := (find_pn p).1 q.1 q.2 h; rw [hw]; rfl
  unfold storedV storedH
  rw [hs]
  cases (atKey ys k).isSome with
  | false => exact paired_app p (.cons ⟨rfl, rfl, rv⟩ .nil)
  | true =>
    simp only [if_true]
    clear hs
    induction p with
    | nil => exact .nil
    | cons r t ih =>
      refine .cons ?_ ih
      unfold putV putAt
      rw [r.1]
      split
      · exact ⟨rfl, r.2.1, rv⟩
      · exact r
section
variable {K : KW} {T : Tb} {G : Hp}
theorem storedV_keys {xs : List (NestedKey × Addr × V)} {k : NestedKey} {b : Addr} {v : V} : (storedV xs k b v).map (fun x => (x.1, x.2.1)) = if (findN xs k).isSome then xs.map (fun x => (x.1, x.2.1)) else xs.map (fun x => (x.1, x.2.1)) ++ [(k, b)] := by
  unfold storedV
  split
  · rw [List.map_map]
    apply List.map_congr_left
    intro x _
    simp only [Function.comp, putV]
    split <;> rfl
  · simp
theorem put_dN {n : D} {k : NestedKey} {b : Addr} {v : V} {z : DV} {xs : List (NestedKey × Addr × V)} {kvs : List (D × DV)} (hk : nk n = some k) (hd : k.depth ≤ 8) (rn : Rep K G (.ref b) n) (rz : DRep K T G v z)
    (e : (kvs.map (·.1)).map nk = xs.map (fun x => some x.1)) (q : Reps K G (xs.map fun x => .ref x.2.1) (kvs.map (·.1))) (l : ∀ x ∈ xs, x.1.depth ≤ 8) (r : DReps K T G (xs.map (·.2.2)) (kvs.map (·.2))) :
    ((putG kvs n z).map (·.1)).map nk = (storedV xs k b v).map (fun x => some x.1) ∧ Reps K G ((storedV xs k b v).map fun x => .ref x.2.1) ((putG kvs n z).map (·.1)) ∧ (∀ x ∈ storedV xs k b v, x.1.depth ≤ 8) ∧ DReps K T G ((storedV xs k b v).map (·.2.2)) ((putG kvs n z).map (·.2)) := by
  have hs : (getK kvs n).isSome = (findN xs k).isSome := by
    cases hg : getK kvs n with
    | none => rw [(getK_dN hk e r).2 hg]; rfl
    | some d => obtain ⟨c, v', hv, _⟩ := (getK_dN hk e r).1 d hg; rw [hv]; rfl
  have k1 : (storedV xs k b v).map (fun x => some x.1) = ((storedV xs k b v).map (fun x => (x.1, x.2.1))).map (fun y => some y.1) := by rw [List.map_map]; rfl
  have k2 : (storedV xs k b v).map (fun x => V.ref x.2.1) = ((storedV xs k b v).map (fun x => (x.1, x.2.1))).map (fun y => V.ref y.2) := by rw [List.map_map]; rfl
  have dp : ∀ x ∈ storedV xs k b v, x.1.depth ≤ 8 := by
    intro x hx
    unfold storedV at hx
    split at hx
    · obtain ⟨y, hy, rfl⟩ := List.mem_map.mp hx
      unfold putV
      split
      · exact l y hy
      · exact l y hy
    · rcases List.mem_append.mp hx with hx | hx
      · exact l x hx
      · rcases List.mem_singleton.mp hx with rfl
        exact hd
  rw [k1, k2, storedV_keys, putG_keys, hs]
  cases hf : (findN xs k).isSome with
  | false =>
    refine ⟨?_, ?_, dp, ?_⟩
    · simp only [Bool.false_eq_true, if_false, List.map_append, List.map_cons, List.map_nil, hk]
      rw [e, List.map_map]; rfl
    · simp only [Bool.false_eq_true, if_false, List.map_append, List.map_cons, List.map_nil]
      rw [List.map_map]
      exact q.append (.cons rn .nil)
    · unfold putG storedV
      rw [hs, hf]
      simp only [Bool.false_eq_true, if_false, List.map_append, List.map_cons, List.map_nil]
      exact r.append (.cons rz .nil)
  | true =>
    refine ⟨?_, ?_, dp, ?_⟩
    · simp only [if_true]
      rw [e, List.map_map]; rfl
    · simp only [if_true]
      rw [List.map_map]
      exact q
    · unfold putG storedV
      rw [hs, hf]
      simp only [if_true]
      clear hs hf k1 k2 dp q l
      induction xs generalizing kvs with
      | nil => cases kvs with
        | nil => exact .nil
        | cons a c => cases e
      | cons x xs ih => cases kvs with
        | nil => cases e
        | cons a kvs =>
          simp only [List.map_cons, List.cons.injEq] at e
          simp only [List.map_cons] at r
          cases r with
          | cons r1 r2 =>
            have i2 := ih e.2 r2
            simp only [List.map_cons]
            rw [keq_nk e.1 hk]
            unfold putV
            by_cases c : x.1 = k
            · rw [decide_eq_true c]
              simp only [c, if_true]
              exact .cons rz i2
            · rw [decide_eq_false c]
              simp only [c, if_false]
              exact .cons r1 i2
end
section
variable {X : Cx} {pins : List (Addr × Obj)} {σ : L2.St} {G H : Hp} {s : Shared} {T : Tb} {a : Addr}
theorem paired_len {α β : Type} {P : α → β → Prop} {xs : List α} {ys : List β} (p : Paired P xs ys) : xs.length = ys.length := Paired.length p
theorem stored_len (ys : List (NestedKey × Addr × Value)) (k : NestedKey) (b : Addr) (u : Value) : (storedH ys k b u).length ≤ ys.length + 1 := by
  unfold storedH
  split <;> simp
/-- the store into a dict of one's own -/
theorem dv_put {kvs : List (D × DV)} {A : Around} {E : Value → Shared → Prop} {Q : Unit → Shared → Prop} {o : HO} {us : List V} (hu : A.units + 64 < cLine) (I : Inv X pins σ H s) (sm : Sm G H) (ha : H a = some o) (dv : DctIs (kw X) G a o (kvs.map (·.1)) us) (hr : DReps (kw X) T G us (kvs.map (·.2))) {y v : V} {n : D} {u r : Value} {z : DV} (ry : Rep (kw X) G y n) (ru : RelV y u) (rv : RelV v r) (rz : DRep (kw X) T G v z) (hk : kindN (kvs.map (·.1)) n = true) (hl : kvs.length < sizeLine)
    (h : ∀ o' s', AtO (kw X) T G (upd H a o') a (.k (putG kvs n z)) → Inv X pins σ (upd H a o') s' → Q () s') : wpAny (model X.prog X.w) A (setItem (.ref a) u r) Q E s := by
  have tp : ∀ {xs : List (NestedKey × Addr × V)} {ys : List (NestedKey × Addr × Value)}, isTp n = true → (kvs.map (·.1)).map nk = xs.map (fun x => some x.1) → Reps (kw X) G (xs.map fun x => .ref x.2.1) (kvs.map (·.1)) → (∀ x ∈ xs, x.1.depth ≤ 8) → DReps (kw X) T G (xs.map (·.2.2)) (kvs.map (·.2)) → Paired PN xs ys → (a == sysModules) = false → s.heap.DictOfH (nestedKind X.prog X.w) a ys → Mut (H a) → wpAny (model X.prog X.w) A (setItem (.ref a) u r) Q E s := by
    intro xs ys hn e q l rr hp hd dd mu
    obtain ⟨ds, k, rfl, h1, h2⟩ := tp_key hn
    obtain ⟨b, vs, rfl, _, _⟩ := rep_tup ry
    cases (show u = Value.ref b from ru)
    have hx : xs.length = kvs.length := by have := congrArg List.length e; simpa using this.symm
    refine wpAny_setItem_heap (knd := nestedKind X.prog X.w) (hsz := by rw [← paired_len hp, hx]; exact Nat.le_of_lt hl) (show (A.in1).units + 8 < cLine by simp only [Around.in1] at *; omega) ⟨rep_nested I sm ry h1 rfl, h2⟩ dd fun h' dd' hs => ?_
    obtain ⟨p1, p2, p3, p4⟩ := put_dN (v := v) h1 h2 ry rz e q l rr
    obtain ⟨q', es, ep, hq, g2, g3, g4, _, g5⟩ := dd'
    refine h (DN X.prog X.w a (storedV xs k b v)) _ ⟨_, _, upd_same, .inr ⟨_, rfl, p1, p2, p3, rfl⟩, p4⟩ (d_write I mu hs ⟨q', hq⟩ ?_)
    have hsv : (storedV xs k b v).length ≤ sizeLine := by
      have := paired_len (stored_pn (k := k) (b := b) rv hp)
      have := stored_len ys k b r
      have := paired_len hp
      omega
    exact ⟨⟨hd, hsv, _, stored_pn rv hp, q', es, ep, hq, g2, g3, g4, g5⟩, ⟨q', hq⟩, fun h1 h2 ⟨c1, c0, ys', c2, o', es', ep', c3, c4⟩ k => ⟨c1, c0, ys', c2, o', es', ep', k _ c3, c4⟩⟩
  rcases dv with ⟨ks, rfl, e, rfl⟩ | ⟨xs, rfl, e, q, l, rfl⟩
  · obtain ⟨zl, hd, vs, rel, dd⟩ := dk_of I.hok ha
    have hkl : ks.length = kvs.length := by have := congrArg List.length e; simpa using this.symm
    rcases kind_key hk with hs | ht
    · obtain ⟨k, rfl⟩ := sc_key hs
      have ey := rep_kD ry
      subst ey
      obtain ⟨p1, p2⟩ := put_dK (k := k) e hr rz
      exact d_setItem (by omega) I (.inl ⟨ks, k, ha, rfl, by omega, rfl⟩) ru rv fun s' I' => h (.dK (putK ks k v)) s' ⟨_, _, upd_same, .inl ⟨_, rfl, p1, rfl⟩, p2⟩ I'
    · cases ks with
      | nil =>
        have hv : vs = [] := by cases rel; rfl
        cases kvs with
        | nil => exact tp (xs := []) (ys := []) ht rfl .nil (fun x hx => by cases hx) .nil .nil hd (dctof_nil hv dd) (by rw [ha]; exact True.intro)
        | cons _ _ => cases e
      | cons p r =>
        rw [e] at hk
        unfold kindN at hk
        simp only [List.map_cons, Bool.or_eq_true, Bool.and_eq_true] at hk
        rcases hk with hk | hk
        · obtain ⟨k0, rfl⟩ := sc_key hk.2
          exact absurd rfl (nk_scal ht)
        · exact absurd rfl (nk_scal hk.1)
  · obtain ⟨hd, ys, hp, dd⟩ := dn_at I sm (.inl ha) e q l
    rcases kind_key hk with hs | ht
    · cases xs with
      | nil =>
        cases kvs with
        | nil =>
          obtain ⟨k, rfl⟩ := sc_key hs
          have ey := rep_kD ry
          subst ey
          cases hp
          have d0 := dctofH_nil dd
          refine wpAny_setItem_pairs (hsz := Nat.zero_le _) (kV_is ru) d0 fun h' dd' hs => ?_
          have he : ∃ q, h'.get? a = some q := let ⟨q, _, _, hq, _⟩ := dd'; ⟨q, hq⟩
          obtain ⟨p1, p2⟩ := put_dK (k := k) (us := []) (kvs := []) (K := kw X) (T := T) (G := G) rfl .nil rz
          have rel : KV (κ := Key) [] [] := .nil
          exact h (.dK (putK [] k v)) _ ⟨_, _, upd_same, .inl ⟨_, rfl, p1, rfl⟩, p2⟩ (d_write I (by rw [ha]; exact True.intro) hs he (dk_new (by have := length_putK ([] : List (Key × V)) k v; simp at this; exact Nat.le_trans this (by decide)) hd (rel.put k rv) dd'))
        | cons _ _ => cases e
      | cons x xs =>
        cases kvs with
        | nil => cases e
        | cons c kvs =>
          simp only [List.map_cons] at q
          cases q with
          | cons k1 _ =>
            unfold kindN at hk
            simp only [List.map_cons, Bool.or_eq_true, Bool.and_eq_true] at hk
            rcases hk with hk | hk
            · obtain ⟨k, hk'⟩ := sc_key hk.1
              rw [hk'] at k1
              have := rep_kD k1
              cases k <;> cases this
            · obtain ⟨k0, rfl⟩ := sc_key hs
              exact absurd rfl (nk_scal hk.2)
    · exact tp ht e q l hr hp hd dd (by rw [ha]; exact True.intro)
end
end FL

set_option Elab.async false
set_option linter.all false
set_option maxRecDepth 100000
set_option maxHeartbeats 4000000
namespace FL
open PySem PySem.Spec PyProof.Rows L2
section
variable {X : Cx} {e ea eb ec : Expr} {es : List Expr} {p p2 pos pos' : Pos} {fa fb fc : Ev} {as : Ea}
def mSet (X : Cx) : V → V → V → Hp → (Hp → Prop) → Prop := fun x y v H R => ∀ pins s σ vx vy vv, Inv X pins σ H s → RelV x vx → RelV y vy → RelV v vv → wpAny (model X.prog X.w) X.A (setItem vx vy vv) (fun _ s' => ∃ H', Inv X pins σ H' s' ∧ R H') X.xe s
theorem ps_setM (hs : swapsWith ec (some (.Subscript ea eb pos')) pos.line X.env = pure false) :
    PS X (.Assign [.Subscript ea eb pos'] ec pos) (fun De σ H => mE X ec σ H fun v H1 => mE X ea σ H1 fun x H2 => mE X eb σ H2 fun y H3 => mSet X x y v H3 fun H4 => De.nx σ H4) := by
  refine ⟨fun pins s σ H D I h => ?_⟩
  refine wpAny_Assign_Subscript (thn (h pins s I) fun r s1 ⟨v, H1, I1, rv, q1⟩ => thn (q1 pins s1 I1) fun u s2 ⟨x, H2, I2, rx, q2⟩ => thn (q2 pins s2 I2) fun iv s3 ⟨y, H3, I3, ry, q3⟩ => ?_) hs
  refine thn (q3 pins s3 σ _ _ _ I3 rx ry rv) fun _ s4 ⟨H4, I4, q⟩ => ?_
  exact ⟨σ, H4, I4, q⟩
/-- content behind x[n] = z -/
def dputC (c : OO) (n : D) (z : DV) : Option OO := match c with
  | .p (.dct kvs) => br (kindB kvs n && szB kvs.length) (match z with
    | .d d => some (.p (.dct (putG kvs n d)))
    | .h j => some (.k (putG (kvs.map fun a => (a.1, DV.d a.2)) n (.h j)))) none
  | .k kvs => br (kindB kvs n && szB kvs.length) (some (.k (putG kvs n z))) none
  | _ => none
def dputV (L : OL) (x : DV) (n : Option D) (z : DV) : Option OL := match x with
  | .h j => match L[j]? with
    | some (.own c) => match n with
      | some n => match dputC c n z with
        | some c' => some (L.set j (.own c'))
        | none => none
      | none => none
    | _ => none
  | _ => none
def sPut (a b c : Ev) : Sv := fun L env => sb env (c L env) fun L1 z => sb env (a L1 env) fun L2 x => sb env (b L2 env) fun L3 y => sb env (opt L3 (dputV L3 x (see L3 y) z)) fun _ L4 => some (.nx L4 env)
theorem putG_d (kvs : List (D × D)) (n d : D) : putG (kvs.map fun a => (a.1, DV.d a.2)) n (.d d) = (putG kvs n d).map fun a => (a.1, DV.d a.2) := by
  unfold putG
  rw [dctD_map (α := Unit), isSome_map]
  cases (getK kvs n).isSome with
  | true =>
    simp only [List.map_map]
    apply List.map_congr_left
    intro a _
    simp only [Function.comp]
    cases keq a.1 n <;> rfl
  | false => simp
theorem at_kd {K : KW} {T : Tb} {G H : Hp} {a : Addr} {kvs : List (D × D)} (h : AtO K T G H a (.k (kvs.map fun x => (x.1, DV.d x.2)))) : At K G H a (.dct kvs) := by
  obtain ⟨o, us, h1, h2, h3⟩ := h
  rw [List.map_map] at h2 h3
  refine ⟨o, us, h1, h2, ?_⟩
  have e : List.map ((fun x => x.2) ∘ fun (x : D × D) => (x.1, DV.d x.2)) kvs = (kvs.map (·.2)).map DV.d := by rw [List.map_map]; rfl
  rw [e] at h3
  exact h3.of_d
theorem mSet_dct {T : Tb} {G H : Hp} {a : Addr} {kvs : List (D × DV)} {y v : V} {n : D} {z : DV} {R : Hp → Prop} (hu : X.A.units + 64 < cLine) (sm : Sm G H) (at_ : AtO (kw X) T G H a (.k kvs)) (ry : Rep (kw X) G y n) (rz : DRep (kw X) T G v z) (hk : kindN (kvs.map (·.1)) n = true) (hl : kvs.length < sizeLine) (q : ∀ o, AtO (kw X) T G (upd H a o) a (.k (putG kvs n z)) → R (upd H a o)) : mSet X (.ref a) y v H R := by
  intro pins s σ vx vy vv I rx ry' rv
  cases (show vx = Value.ref a from rx)
  obtain ⟨o, us, h1, h2, h3⟩ := at_
  exact dv_put hu I sm h1 h2 h3 ry ry' rv rz hk hl fun o' s' h' I' => ⟨_, I', q o' h'⟩
theorem rs_put (hu : X.A.units + 64 < cLine) (a : RE X ea fa) (b : RE X eb fb) (c : RE X ec fc) (hs : swapsWith ec (some (.Subscript ea eb pos')) pos.line X.env = pure false := by rfl) : RS X (.Assign [.Subscript ea eb pos'] ec pos) (sPut fa fb fc) :=
  ⟨fun {L env Z} h {W B T G σ H De F} hn tk o zz => mS_of (ps_setM hs) (c.ok (post_sb h) hn tk o (fun T1 L1 G1 H1 v z q1 t1 o1 => a.ok (post_sb q1) hn tk o1 (fun T2 L2 G2 H2 u x q2 t2 o2 =>
    b.ok (post_sb q2) hn tk o2 (fun T3 L3 G3 H3 yv y q3 t3 o3 => by
      obtain ⟨L4, hd, q⟩ := post_sopt q3
      have o4 := o3.as o.st o3.f.1.1.1
      have rz := (o3.f.1.1.2 : DRep (kw X) T1 G3 v z).mono (Sm.refl _) (t2.trans t3)
      have rx := (o3.f.1.2 : DRep (kw X) T2 G3 u x).mono (Sm.refl _) t3
      have ry : DRep (kw X) T3 G3 yv y := o3.f.2
      cases rx with
      | d r => cases hd
      | h hT =>
        rename_i j a0
        simp only [dputV] at hd
        split at hd
        · rename_i c0 hL
          cases hn' : see L3 y with
          | none => rw [hn'] at hd; cases hd
          | some nn =>
            rw [hn'] at hd
            simp only [] at hd
            split at hd
            · rename_i c1 hc
              cases hd
              have fin : ∀ {o : HO}, AtO (kw X) T3 G3 (upd H3 a0 o) a0 c1 → De.nx σ (upd H3 a0 o) := fun ha => zz.nx T3 _ G3 σ _ env q (o4.mod hT hL ha)
              have at0 := (o4.own j a0 _ hT hL : AtO (kw X) T3 G3 H3 a0 c0)
              unfold dputC at hc
              split at hc
              · rename_i kvs
                obtain ⟨hb, hc⟩ := br_some hc
                rw [Bool.and_eq_true, kindB_eq] at hb
                have at1 : AtO (kw X) T3 G3 H3 a0 (.k (kvs.map fun x => (x.1, DV.d x.2))) := by
                  obtain ⟨o5, us, h1, h2, h3⟩ := (at0 : At (kw X) G3 H3 a0 (.dct kvs))
                  refine ⟨o5, us, h1, by rw [List.map_map]; exact h2, ?_⟩
                  have := Reps.dv (T := T3) h3
                  rw [List.map_map] at this ⊢
                  exact this
                refine mSet_dct hu o4.sub at1 (view_key (kind_key hb.1) (o4.see ry hn')) rz (by rw [List.map_map]; exact hb.1) (by rw [List.length_map]; exact szB_lt hb.2) fun o5 ha => fin ?_
                split at hc
                · cases hc
                  rw [putG_d] at ha
                  exact at_kd ha
                · cases hc
                  exact ha
              · rename_i kvs
                obtain ⟨hb, hc⟩ := br_some hc
                rw [Bool.and_eq_true, kindB_eq] at hb
                cases hc
                exact mSet_dct hu o4.sub at0 (view_key (kind_key hb.1) (o4.see ry hn')) rz hb.1 (szB_lt hb.2) fun o5 ha => fin ha
              · cases hc
            · cases hd
        · cases hd) ((zz.xc.more t1 o.st).more t2 (stab_and o.st (stab_drep _ _)))) (zz.xc.more t1 o.st)) zz.xc)⟩
end
end FL

set_option Elab.async false
set_option linter.all false
set_option maxRecDepth 100000
set_option maxHeartbeats 4000000
namespace FL
open PySem PySem.Spec PyProof.Rows L2
section
variable {X : Cx} {e ea eb ec : Expr} {es : List Expr} {p p2 pos : Pos} {x f : Str} {fa fb fc : Ev} {as bs : Ea}
/-! ### slices -/
abbrev Eo := OL → VEnv → Mo (Option Int)
structure RO (X : Cx) (e : Option Expr) (ev : Eo) : Prop where
  ex : ∃ t : TO, PO X e t ∧ ∀ {L env Q Ex}, post (ev L env) Q Ex → ∀ {W B T G σ H} {R : Option Int → Hp → Prop} {F}, B.n = X.N.length → Takes X W → OkF (kw X) B T L G σ H env F → (∀ T' L' G' H' i, Q L' i → T <+: T' → OkF (kw X) B T' L' G' σ H' env F → R i H') → Xc (kw X) B T σ env F Ex W → t σ H R
def oNone : Eo := fun L _ => some (.val L none)
def oSome (a : Ev) : Eo := fun L env => bnd (a L env) fun L1 x => bnd (opt L1 (intOf x)) fun L1 i => some (.val L1 (some i))
theorem ro_none : RO X none oNone := ⟨tNoPart, po_none, fun {L env Q Ex} h {W B T G σ H R F} hn tk o n xc => n T L G H none h (List.prefix_refl _) o⟩
theorem ro_some (a : RE X ea fa) : RO X (some ea) (oSome fa) := ⟨tPart (mE X ea), po_some pe_max, fun {L env Q Ex} h {W B T G σ H R F} hn tk o n xc => a.ok (post_bnd h) hn tk o (fun T1 L1 G1 H1 v x q t1 o1 => by
    obtain ⟨i, hi, q⟩ := post_bopt q
    exact ⟨i, int_of o1.f.2 hi, n T1 L1 G1 H1 (some i) q t1 (o1.drop o.st)⟩) xc⟩
def cutD (xs : List D) (lo hi : Option Int) : List D := (xs.drop (HT.sIx xs.length 0 lo)).take (HT.sIx xs.length xs.length hi - HT.sIx xs.length 0 lo)
theorem Reps.cut {K : KW} {G : Hp} {vs : List V} {ds : List D} (r : Reps K G vs ds) (lo hi : Option Int) : Reps K G (cutV vs lo hi) (cutD ds lo hi) := by
  unfold cutV cutD
  rw [r.length]
  exact (r.drop _).take _
theorem cutD_whole {ds : List D} {lo hi : Option Int} (h : HT.sIx ds.length 0 lo = 0 ∧ HT.sIx ds.length ds.length hi = ds.length) : cutD ds lo hi = ds := by
  unfold cutD
  rw [h.1, h.2]; simp
def fSl (i j : Option Int) : D → Option Res
  | .lst ds => some (.lst (cutD ds i j))
  | .tup ds => some (.tup (cutD ds i j))
  | _ => none
theorem sl_any : SlR X (fun x lo hi H Q => rSlL X.K x lo hi H Q ∨ rSlA X.K x lo hi H Q) := sl_list.or sl_tupA
theorem fSl_ok {G H : Hp} {v : V} {d : D} {i j : Option Int} {res : Res} {R : VK} (vd : View (kw X) G H v d) (sm : Sm G H) (h : fSl i j d = some res) (r : FinR (kw X) G H res R) : rSlL X.K v i j H R ∨ rSlA X.K v i j H R := by
  unfold fSl at h
  split at h
  · cases h
    obtain ⟨a, vs, rfl, h1, h2⟩ := vd
    exact .inl ⟨a, vs, rfl, .inl h1, fun p hp => r p _ hp (h2.cut i j)⟩
  · cases h
    have vd : Rep (kw X) G v _ := vd
    obtain ⟨a, vs, rfl, h1, h2⟩ := rep_tup vd
    refine .inr ⟨a, vs, rfl, ex_t sm h1, fun hw => ?_, fun _ p hp => r.2 p _ hp (h2.cut i j)⟩
    rw [h2.length] at hw
    have e := cutD_whole hw
    rw [e] at r
    exact r.1 _ vd
  · cases h
def obnd {α β : Type} (o : Option α) (f : α → Option β) : Option β := match o with
  | some a => f a
  | none => none
theorem obnd_some {α β : Type} {o : Option α} {f : α → Option β} {b : β} (h : obnd o f = some b) : ∃ a, o = some a ∧ f a = some b := by
  cases o with
  | none => cases h
  | some a => exact ⟨a, rfl, h⟩
def eSlice (a : Ev) (l u : Eo) : Ev := fun L env => bnd (a L env) fun L1 x => bnd (l L1 env) fun L2 i => bnd (u L2 env) fun L3 j => fin L3 (obnd (see L3 x) (fSl i j))
theorem re_slice {lo hi : Option Expr} {ol ou : Eo} (a : RE X ea fa) (l : RO X lo ol) (u : RO X hi ou) : RE X (.Subscript ea (.Slice lo hi none p2) pos) (eSlice fa ol ou) :=
  ⟨fun {L env Q Ex} h {W B T G σ H R F} hn tk o n xc => by
    obtain ⟨tl, pl, kl⟩ := l.ex
    obtain ⟨tu, pu, ku⟩ := u.ex
    exact mE_of (pe_slice sl_any pe_max pl pu) (a.ok (post_bnd h) hn tk o (fun T1 L1 G1 H1 v x q1 t1 o1 =>
      kl (post_bnd q1) hn tk o1 (fun T2 L2 G2 H2 i q2 t2 o2 => ku (post_bnd q2) hn tk o2 (fun T3 L3 G3 H3 j q3 t3 o3 => by
        have o4 := o3.drop o.st
        obtain ⟨res, hr, q⟩ := fin_ok o4 q3 (n.on ((t1.trans t2).trans t3))
        obtain ⟨d, hd, hr⟩ := obnd_some hr
        have rx := (o3.f.2 : DRep (kw X) T1 G3 v x).mono (Sm.refl _) (t2.trans t3)
        exact fSl_ok (o4.see rx hd) o4.sub hr q) ((xc.more t1 o.st).on t2)) (xc.more t1 o.st)) xc)⟩
/-! ### fields -/
structure FldOk (K : PySem.W.Frag) (C f : Str) : Prop where
  cl : Cls K (He.ga K C)
  no : NoAttr K (He.ga K C) f
def fget {α : Type} (f : Str) : List (Str × α) → Option α
  | [] => none
  | (g, x) :: r => match sEq g f with
    | true => some x
    | false => fget f r
theorem lookup_eq {α : Type} (f : Str) : ∀ (fs : List (Str × α)), fs.lookup f = fget f fs
  | [] => rfl
  | (g, x) :: r => by
    unfold fget
    rw [List.lookup, sEq, lookup_eq f r]
    by_cases c : g = f
    · simp [c]
    · have c' : (f == g) = false := by simpa using fun z => c z.symm
      rw [c', decide_eq_false c]
def fldV (L : OL) (C f : Str) : DV → Option DV
  | .h k => match L[k]? with
    | some (.own (.o C0 fs)) => br (sEq C0 C) (fget f fs) none
    | some (.own (.p (.obj C0 fs))) => br (sEq C0 C) (match fget f fs with
      | some y => some (.d y)
      | none => none) none
    | some (.fz (.obj C0 fs)) => br (sEq C0 C) (match fget f fs with
      | some y => some (.d y)
      | none => none) none
    | _ => none
  | .d (.obj C0 fs) => br (sEq C0 C) (match fget f fs with
    | some y => some (.d y)
    | none => none) none
  | _ => none
theorem lookup_drep {K : KW} {T : Tb} {G : Hp} {f : Str} {d : DV} : ∀ {fs : List (Str × V)} {ds : List (Str × DV)}, ds.map (·.1) = fs.map (·.1) → DReps K T G (fs.map (·.2)) (ds.map (·.2)) → fget f ds = some d → ∃ v, fs.lookup f = some v ∧ DRep K T G v d
  | [], [], _, _, h => by cases h
  | [], _ :: _, e, _, _ => by cases e
  | _ :: _, [], e, _, _ => by cases e
  | (a, v) :: fs, (b, x) :: ds, e, r, h => by
    simp only [List.map_cons, List.cons.injEq] at e
    obtain ⟨e1, e2⟩ := e
    simp only [List.map_cons] at r
    cases r with
    | cons r1 r2 =>
      subst e1
      rw [lookup_eq]
      unfold fget at h ⊢
      cases c : sEq b f with
      | true => rw [c] at h; cases h; exact ⟨v, rfl, r1⟩
      | false =>
        rw [c] at h
        have := lookup_drep e2 r2 h
        rw [lookup_eq] at this
        exact this
theorem fget_d (f : Str) : ∀ (fs : List (Str × D)), fget f (fs.map fun a => (a.1, DV.d a.2)) = match fget f fs with | some y => some (.d y) | none => none
  | [] => rfl
  | (g, x) :: r => by
    simp only [List.map_cons, fget]
    cases sEq g f with
    | true => rfl
    | false => exact fget_d f r
theorem view_obj {K : KW} {T : Tb} {G H : Hp} {v : V} {C : Str} {fs : List (Str × D)} (vw : View K G H v (.obj C fs)) : ∃ a dx us, v = .ref a ∧ H a = some (.ins (ga K C) dx us) ∧ (fs.map fun a => (a.1, DV.d a.2)).map (·.1) = us.map (·.1) ∧ DReps K T G (us.map (·.2)) ((fs.map fun a => (a.1, DV.d a.2)).map (·.2)) := by
  obtain ⟨a, dx, us, rfl, h1, m, r⟩ := vw
  refine ⟨a, dx, us, rfl, h1, by rw [List.map_map]; exact m, ?_⟩
  have := Reps.dv (T := T) r
  rw [List.map_map] at this ⊢
  exact this
theorem fldV_ok {K : KW} {B : Fra} {T : Tb} {L : OL} {G : Hp} {σ : L2.St} {H : Hp} {env : VEnv} {F : Hp → Prop} {v : V} {x : DV} {C : Str} {y : DV} (o : OkF K B T L G σ H env F) (r : DRep K T G v x) (h : fldV L C f x = some y) :
    ∃ a dx fs u, v = .ref a ∧ H a = some (.ins (ga K C) dx fs) ∧ fs.lookup f = some u ∧ DRep K T G u y := by
  have plain : ∀ {fs : List (Str × D)} {C0 : Str}, View K G H v (.obj C0 fs) → br (sEq C0 C) (match fget f fs with | some y => some (DV.d y) | none => none) none = some y → ∃ a dx fs u, v = .ref a ∧ H a = some (.ins (ga K C) dx fs) ∧ fs.lookup f = some u ∧ DRep K T G u y := by
    intro fs C0 vw h
    obtain ⟨hc, h'⟩ := br_some h
    clear h
    obtain rfl := of_decide_eq_true hc
    rw [← fget_d] at h'
    obtain ⟨a, dx, us, rfl, h1, m, r⟩ := view_obj (T := T) vw
    obtain ⟨u, hu, ru⟩ := lookup_drep m r h'
    exact ⟨a, dx, us, u, rfl, h1, hu, ru⟩
  cases r with
  | d r =>
    rename_i a
    cases a with
    | obj C0 fs => exact plain (Rep.view r o.sub) h
    | _ => cases h
  | h hk =>
    rename_i k p
    simp only [fldV] at h
    split at h
    · rename_i C0 fs hc
      obtain ⟨he, h'⟩ := br_some h
      clear h
      obtain rfl := of_decide_eq_true he
      obtain ⟨dx, us, hp, m, r⟩ := (o.own k p _ hk hc : AtO K T G H p (.o _ fs))
      obtain ⟨u, hu, ru⟩ := lookup_drep m r h'
      exact ⟨p, dx, us, u, rfl, hp, hu, ru⟩
    · rename_i C0 fs hc
      exact plain (At.view (o.own k p _ hk hc : AtO K T G H p (.p (.obj C0 fs)))) h
    · rename_i C0 fs hc
      exact plain (Rep.view (o.own k p _ hk hc : Rep K G (.ref p) (.obj C0 fs)) o.sub) h
    · cases h
def eFld (C f : Str) (a : Ev) : Ev := fun L env => bnd (a L env) fun L1 x => opt L1 (fldV L1 C f x)
theorem re_fld {C : Str} (k : FldOk X.K C f) (a : RE X ea fa) (hb : attributeBase ea f X.env (eval ea X.env) = eval ea X.env := by rfl) : RE X (.Attribute ea f pos) (eFld C f fa) :=
  ⟨fun {L env Q Ex} h {W B T G σ H R F} hn tk o n xc => mE_of (pe_fld pe_max hb) (a.ok (post_bnd h) hn tk o (fun T1 L1 G1 H1 v x q t1 o1 => by
    obtain ⟨y, hr, q⟩ := post_opt q
    have o2 := o1.drop o.st
    obtain ⟨b, dx, fs, u, rfl, h1, h2, ru⟩ := fldV_ok o2 o1.f.2 hr
    exact ⟨b, _, dx, fs, u, rfl, h1, k.cl, k.no, h2, n T1 L1 G1 H1 u y q t1 (o2.push (stab_drep _ _) ru)⟩) xc)⟩
/-- o.f = v, o one's own -/
def fputG {α : Type} (f : Str) (v : α) : List (Str × α) → List (Str × α)
  | [] => [(f, v)]
  | (g, x) :: r => match sEq g f with
    | true => (g, v) :: r
    | false => (g, x) :: fputG f v r
theorem fput_rep {K : KW} {T : Tb} {G : Hp} {f : Str} {v : V} {d : DV} (rv : DRep K T G v d) : ∀ {fs : List (Str × V)} {ds : List (Str × DV)}, ds.map (·.1) = fs.map (·.1) → DReps K T G (fs.map (·.2)) (ds.map (·.2)) →
    (fputG f d ds).map (·.1) = (putF f v fs).map (·.1) ∧ DReps K T G ((putF f v fs).map (·.2)) ((fputG f d ds).map (·.2))
  | [], [], _, _ => ⟨rfl, .cons rv .nil⟩
  | [], _ :: _, e, _ => by cases e
  | _ :: _, [], e, _ => by cases e
  | (a, x) :: fs, (b, y) :: ds, e, r => by
    simp only [List.map_cons, List.cons.injEq] at e
    obtain ⟨rfl, e2⟩ := e
    simp only [List.map_cons] at r
    cases r with
    | cons r1 r2 =>
      unfold putF fputG
      by_cases c : b = f
      · rw [if_pos c, sEq, decide_eq_true c]
        exact ⟨by simp [e2], .cons rv r2⟩
      · rw [if_neg c, sEq, decide_eq_false c]
        obtain ⟨h1, h2⟩ := fput_rep rv e2 r2
        exact ⟨by simp [h1], .cons r1 h2⟩
theorem fputG_d (f : Str) (d : D) : ∀ (fs : List (Str × D)), fputG f (.d d) (fs.map fun a => (a.1, DV.d a.2)) = (fputG f d fs).map fun a => (a.1, DV.d a.2)
  | [] => rfl
  | (g, x) :: r => by
    simp only [List.map_cons, fputG]
    cases sEq g f with
    | true => rfl
    | false => simp only [List.map_cons, fputG_d f d r]
def fputC (C f : Str) (c : OO) (z : DV) : Option OO := match c with
  | .p (.obj C0 fs) => br (sEq C0 C && Nat.ble fs.length 800) (match z with
    | .d d => some (.p (.obj C0 (fputG f d fs)))
    | .h j => some (.o C0 (fputG f (.h j) (fs.map fun a => (a.1, DV.d a.2))))) none
  | .o C0 fs => br (sEq C0 C && Nat.ble fs.length 800) (some (.o C0 (fputG f z fs))) none
  | _ => none
def fputV (L : OL) (C f : Str) (x z : DV) : Option OL := match x with
  | .h j => match L[j]? with
    | some (.own c) => match fputC C f c z with
      | some c' => some (L.set j (.own c'))
      | none => none
    | _ => none
  | _ => none
theorem at_od {K : KW} {T : Tb} {G H : Hp} {a : Addr} {C : Str} {fs : List (Str × D)} (h : AtO K T G H a (.o C (fs.map fun x => (x.1, DV.d x.2)))) : At K G H a (.obj C fs) := by
  obtain ⟨o, us, h1, h2, h3⟩ := h
  rw [List.map_map] at h2 h3
  refine ⟨o, us, h1, h2, ?_⟩
  have e : List.map ((fun x => x.2) ∘ fun (x : Str × D) => (x.1, DV.d x.2)) fs = (fs.map (·.2)).map DV.d := by rw [List.map_map]; rfl
  rw [e] at h3
  exact h3.of_d
theorem at_do {K : KW} {T : Tb} {G H : Hp} {a : Addr} {C : Str} {fs : List (Str × D)} (h : At K G H a (.obj C fs)) : AtO K T G H a (.o C (fs.map fun x => (x.1, DV.d x.2))) := by
  obtain ⟨o, us, h1, h2, h3⟩ := h
  refine ⟨o, us, h1, by rw [List.map_map]; exact h2, ?_⟩
  have := Reps.dv (T := T) h3
  rw [List.map_map] at this ⊢
  exact this
def sFld (C f : Str) (a c : Ev) : Sv := fun L env => sb env (c L env) fun L1 z => sb env (a L1 env) fun L2 x => sb env (opt L2 (fputV L2 C f x z)) fun _ L3 => some (.nx L3 env)
theorem rs_fld {pos' : Pos} {C : Str} (k : FldOk X.K C f) (a : RE X ea fa) (c : RE X ec fc) (hs : swapsWith ec (some (.Attribute ea f pos')) pos.line X.env = pure false := by rfl) : RS X (.Assign [.Attribute ea f pos'] ec pos) (sFld C f fa fc) :=
  ⟨fun {L env Z} h {W B T G σ H De F} hn tk o zz => mS_of (ps_fld pe_max pe_max hs) (c.ok (post_sb h) hn tk o (fun T1 L1 G1 H1 v z q1 t1 o1 => a.ok (post_sb q1) hn tk o1 (fun T2 L2 G2 H2 u x q2 t2 o2 => by
    obtain ⟨L4, hd, q⟩ := post_sopt q2
    have o4 := o2.as o.st o2.f.1.1
    have rz := (o2.f.1.2 : DRep (kw X) T1 G2 v z).mono (Sm.refl _) t2
    have rx : DRep (kw X) T2 G2 u x := o2.f.2
    cases rx with
    | d r => cases hd
    | h hT =>
      rename_i j a0
      simp only [fputV] at hd
      split at hd
      · rename_i c0 hL
        split at hd
        · rename_i c1 hc
          cases hd
          have at0 := (o4.own j a0 _ hT hL : AtO (kw X) T2 G2 H2 a0 c0)
          have go : ∀ {fs : List (Str × DV)}, AtO (kw X) T2 G2 H2 a0 (.o C fs) → fs.length ≤ 800 → (∀ H', AtO (kw X) T2 G2 H' a0 (.o C (fputG f z fs)) → AtO (kw X) T2 G2 H' a0 c1) → ∃ p C dx fs, V.ref a0 = .ref p ∧ H2 p = some (.ins C dx fs) ∧ Cls X.K C ∧ NoAttr X.K C f ∧ fs.length < 1000 ∧ De.nx σ (upd H2 p (.ins C dx (putF f v fs))) := by
            intro fs at1 hl fin
            obtain ⟨dx, us, hp, m, r⟩ := at1
            have hlen : us.length = fs.length := by have := congrArg List.length m; simpa using this.symm
            obtain ⟨m', r'⟩ := fput_rep (f := f) rz m r
            exact ⟨a0, _, dx, us, rfl, hp, k.cl, k.no, by omega, zz.nx T2 _ G2 σ _ env q (o4.mod hT hL (fin _ ⟨dx, _, upd_same, m', r'⟩))⟩
          unfold fputC at hc
          split at hc
          · rename_i C0 fs
            obtain ⟨hb, hc'⟩ := br_some hc
            clear hc
            rw [Bool.and_eq_true] at hb
            obtain rfl := of_decide_eq_true hb.1
            refine go (at_do at0) (by rw [List.length_map]; exact Nat.le_of_ble_eq_true hb.2) fun H' ha => ?_
            split at hc'
            · cases hc'
              rw [fputG_d] at ha
              exact at_od ha
            · cases hc'
              exact ha
          · rename_i C0 fs
            obtain ⟨hb, hc'⟩ := br_some hc
            clear hc
            rw [Bool.and_eq_true] at hb
            obtain rfl := of_decide_eq_true hb.1
            cases hc'
            exact go at0 (Nat.le_of_ble_eq_true hb.2) fun H' ha => ha
          · cases hc
        · cases hd
      · cases hd) (zz.xc.more t1 o.st)) zz.xc)⟩
end
end FL

set_option Elab.async false
set_option linter.all false
set_option maxRecDepth 100000
set_option maxHeartbeats 4000000
namespace FL
open PySem PySem.Spec PyProof.Rows L2
section
variable {X : Cx} {pins : List (Addr × Obj)} {σ : L2.St} {G H : Hp} {s : Shared} {T : Tb} {a : Addr}
/-- the store into a dict of one's own -/
theorem dv_set {kvs : List (D × DV)} {A : Around} {E : Value → Shared → Prop} {Q : Unit → Shared → Prop} {o : HO} {us : List V} (hu : A.units + 64 < cLine) (I : Inv X pins σ H s) (sm : Sm G H) (ha : H a = some o) (dv : DctIs (kw X) G a o (kvs.map (·.1)) us) (hr : DReps (kw X) T G us (kvs.map (·.2))) {y v : V} {n : D} {u r : Value} {z : DV} (ry : Rep (kw X) G y n) (ru : RelV y u) (rv : RelV v r) (rz : DRep (kw X) T G v z) (hk : kindN (kvs.map (·.1)) n = true) (hl : kvs.length < sizeLine)
    (h : ∀ o' s', AtO (kw X) T G (upd H a o') a (.k (putG kvs n z)) → Inv X pins σ (upd H a o') s' → Q () s') : wpAny (model X.prog X.w) A (dictSet a u r) Q E s := by
  have tp : ∀ {xs : List (NestedKey × Addr × V)} {ys : List (NestedKey × Addr × Value)}, isTp n = true → (kvs.map (·.1)).map nk = xs.map (fun x => some x.1) → Reps (kw X) G (xs.map fun x => .ref x.2.1) (kvs.map (·.1)) → (∀ x ∈ xs, x.1.depth ≤ 8) → DReps (kw X) T G (xs.map (·.2.2)) (kvs.map (·.2)) → Paired PN xs ys → (a == sysModules) = false → s.heap.DictOfH (nestedKind X.prog X.w) a ys → Mut (H a) → wpAny (model X.prog X.w) A (dictSet a u r) Q E s := by
    intro xs ys hn e q l rr hp hd dd mu
    obtain ⟨ds, k, rfl, h1, h2⟩ := tp_key hn
    obtain ⟨b, vs, rfl, _, _⟩ := rep_tup ry
    cases (show u = Value.ref b from ru)
    have hx : xs.length = kvs.length := by have := congrArg List.length e; simpa using this.symm
    refine wpAny_dictSet_heap (knd := nestedKind X.prog X.w) (hsz := by rw [← paired_len hp, hx]; exact Nat.le_of_lt hl) (show A.units + 8 < cLine by omega) ⟨rep_nested I sm ry h1 rfl, h2⟩ dd fun h' dd' hs => ?_
    obtain ⟨p1, p2, p3, p4⟩ := put_dN (v := v) h1 h2 ry rz e q l rr
    obtain ⟨q', es, ep, hq, g2, g3, g4, _, g5⟩ := dd'
    refine h (DN X.prog X.w a (storedV xs k b v)) _ ⟨_, _, upd_same, .inr ⟨_, rfl, p1, p2, p3, rfl⟩, p4⟩ (d_write I mu hs ⟨q', hq⟩ ?_)
    have hsv : (storedV xs k b v).length ≤ sizeLine := by
      have := paired_len (stored_pn (k := k) (b := b) rv hp)
      have := stored_len ys k b r
      have := paired_len hp
      omega
    exact ⟨⟨hd, hsv, _, stored_pn rv hp, q', es, ep, hq, g2, g3, g4, g5⟩, ⟨q', hq⟩, fun h1 h2 ⟨c1, c0, ys', c2, o', es', ep', c3, c4⟩ k => ⟨c1, c0, ys', c2, o', es', ep', k _ c3, c4⟩⟩
  rcases dv with ⟨ks, rfl, e, rfl⟩ | ⟨xs, rfl, e, q, l, rfl⟩
  · obtain ⟨zl, hd, vs, rel, dd⟩ := dk_of I.hok ha
    have hkl : ks.length = kvs.length := by have := congrArg List.length e; simpa using this.symm
    rcases kind_key hk with hs | ht
    · obtain ⟨k, rfl⟩ := sc_key hs
      have ey := rep_kD ry
      subst ey
      obtain ⟨p1, p2⟩ := put_dK (k := k) e hr rz
      refine wpAny_dictSet_pairs (hsz := by rw [← rel.length]; exact zl) (kV_is ru) dd fun h' dd' hs => ?_
      have he : ∃ q, h'.get? a = some q := let ⟨q, _, _, hq, _⟩ := dd'; ⟨q, hq⟩
      have hlp : (putK ks k v).length ≤ sizeLine := by have := length_putK ks k v; omega
      exact h (.dK (putK ks k v)) _ ⟨_, _, upd_same, .inl ⟨_, rfl, p1, rfl⟩, p2⟩ (d_write I (by rw [ha]; exact True.intro) hs he (dk_new hlp hd (rel.put k rv) dd'))
    · cases ks with
      | nil =>
        have hv : vs = [] := by cases rel; rfl
        cases kvs with
        | nil => exact tp (xs := []) (ys := []) ht rfl .nil (fun x hx => by cases hx) .nil .nil hd (dctof_nil hv dd) (by rw [ha]; exact True.intro)
        | cons _ _ => cases e
      | cons p r =>
        rw [e] at hk
        unfold kindN at hk
        simp only [List.map_cons, Bool.or_eq_true, Bool.and_eq_true] at hk
        rcases hk with hk | hk
        · obtain ⟨k0, rfl⟩ := sc_key hk.2
          exact absurd rfl (nk_scal ht)
        · exact absurd rfl (nk_scal hk.1)
  · obtain ⟨hd, ys, hp, dd⟩ := dn_at I sm (.inl ha) e q l
    rcases kind_key hk with hs | ht
    · cases xs with
      | nil =>
        cases kvs with
        | nil =>
          obtain ⟨k, rfl⟩ := sc_key hs
          have ey := rep_kD ry
          subst ey
          cases hp
          have d0 := dctofH_nil dd
          refine wpAny_dictSet_pairs (hsz := Nat.zero_le _) (kV_is ru) d0 fun h' dd' hs => ?_
          have he : ∃ q, h'.get? a = some q := let ⟨q, _, _, hq, _⟩ := dd'; ⟨q, hq⟩
          obtain ⟨p1, p2⟩ := put_dK (k := k) (us := []) (kvs := []) (K := kw X) (T := T) (G := G) rfl .nil rz
          have rel : KV (κ := Key) [] [] := .nil
          exact h (.dK (putK [] k v)) _ ⟨_, _, upd_same, .inl ⟨_, rfl, p1, rfl⟩, p2⟩ (d_write I (by rw [ha]; exact True.intro) hs he (dk_new (by have := length_putK ([] : List (Key × V)) k v; simp at this; exact Nat.le_trans this (by decide)) hd (rel.put k rv) dd'))
        | cons _ _ => cases e
      | cons x xs =>
        cases kvs with
        | nil => cases e
        | cons c kvs =>
          simp only [List.map_cons] at q
          cases q with
          | cons k1 _ =>
            unfold kindN at hk
            simp only [List.map_cons, Bool.or_eq_true, Bool.and_eq_true] at hk
            rcases hk with hk | hk
            · obtain ⟨k, hk'⟩ := sc_key hk.1
              rw [hk'] at k1
              have := rep_kD k1
              cases k <;> cases this
            · obtain ⟨k0, rfl⟩ := sc_key hs
              exact absurd rfl (nk_scal hk.2)
    · exact tp ht e q l hr hp hd dd (by rw [ha]; exact True.intro)
end
/-! ### dict displays -/
abbrev Ep := OL → VEnv → Mo (List (DV × DV))
def pNil : Ep := fun L _ => some (.val L [])
def pCons (a b : Ev) (r : Ep) : Ep := fun L env => bnd (a L env) fun L1 x => bnd (b L1 env) fun L2 y => bnd (r L2 env) fun L3 ps => some (.val L3 ((x, y) :: ps))
inductive PReps (K : KW) (T : Tb) (G : Hp) : List (V × V) → List (DV × DV) → Prop
  | nil : PReps K T G [] []
  | cons {x y : V} {a b : DV} {vs : List (V × V)} {xs : List (DV × DV)} : DRep K T G x a → DRep K T G y b → PReps K T G vs xs → PReps K T G ((x, y) :: vs) ((a, b) :: xs)
theorem PReps.mono {K : KW} {T T' : Tb} {G G' : Hp} (e : Sm G G') (t : T <+: T') : ∀ {vs : List (V × V)} {xs : List (DV × DV)}, PReps K T G vs xs → PReps K T' G' vs xs
  | _, _, .nil => .nil
  | _, _, .cons a b c => .cons (a.mono e t) (b.mono e t) (c.mono e t)
theorem stab_preps {K : KW} {T : Tb} (v : List (V × V)) (x : List (DV × DV)) : Stab (fun G => PReps K T G v x) := fun _ _ e h => h.mono e (List.prefix_refl _)
structure RP (X : Cx) (pos : Pos) (keys : List (Option Expr)) (values : List Expr) (ev : Ep) : Prop where
  ok : ∀ {L env Q Ex}, post (ev L env) Q Ex → ∀ {W B T G σ H} {R : List (V × V) → Hp → Prop} {F}, B.n = X.N.length → Takes X W → OkF (kw X) B T L G σ H env F → (∀ T' L' G' H' vs xs, Q L' xs → T <+: T' → OkF (kw X) B T' L' G' σ H' env (fun G => F G ∧ PReps (kw X) T' G vs xs) → R vs H') → Xc (kw X) B T σ env F Ex W →
    ∀ pins s, Inv X pins σ H s → wpAny (model X.prog X.w) X.A (evalPairs (pairTrees keys values X.env pos)) (fun vs s' => ∃ ps H', Inv X pins σ H' s' ∧ VV ps vs ∧ R ps H') X.xe s
def putAll (n : Nat) : OL → List (DV × DV) → Option OL
  | L, [] => some L
  | L, (k, z) :: r => match dputV L (.h n) (see L k) z with
    | some L1 => putAll n L1 r
    | none => none
def eDict (ps : Ep) : Ev := fun L env => bnd (ps (L ++ [.own (.p (.dct []))]) env) fun L2 xs => bnd (opt L2 (putAll L.length L2 xs)) fun _ L3 => some (.val L3 (.h L.length))
def eDict0 : Ev := fun L _ => some (.val (L ++ [.own (.p (.dct []))]) (.h L.length))
section
variable {X : Cx} {e ea eb ec : Expr} {es : List Expr} {p p2 pos pos' : Pos} {fa fb fc : Ev} {as : Ea} {ps : Ep}
theorem rp_nil : RP X pos [] [] pNil := ⟨fun {L env Q Ex} h {W B T G σ H R F} hn tk o n xc pins s I => pairTrees_nil_walk ⟨[], H, I, .nil, n T L G H [] [] h (List.prefix_refl _) (o.push (stab_preps _ _) .nil)⟩⟩
theorem rp_cons {ks : List (Option Expr)} {vs : List Expr} (a : RE X ea fa) (b : RE X eb fb) (r : RP X pos ks vs ps) : RP X pos (some ea :: ks) (eb :: vs) (pCons fa fb ps) :=
  ⟨fun {L env Q Ex} h {W B T G σ H R F} hn tk o n xc pins s I => pairTrees_cons_walk
    (thn (a.ok (R := fun x H1 => mE X eb σ H1 fun y H2 => ∀ pins s, Inv X pins σ H2 s → wpAny (model X.prog X.w) X.A (evalPairs (pairTrees ks vs X.env pos)) (fun vs s' => ∃ ps H', Inv X pins σ H' s' ∧ VV ps vs ∧ R ((x, y) :: ps) H') X.xe s) (post_bnd h) hn tk o (fun T1 L1 G1 H1 v x q1 t1 o1 => b.ok (post_bnd q1) hn tk o1 (fun T2 L2 G2 H2 u y q2 t2 o2 pins s I => r.ok (post_bnd q2) hn tk o2 (fun T3 L3 G3 H3 ws zs q3 t3 o3 => by
      refine n T3 L3 G3 H3 _ _ q3 ((t1.trans t2).trans t3) (o3.as (stab_and o.st (stab_preps _ _)) ⟨o3.f.1.1.1, .cons ((o3.f.1.1.2 : DRep (kw X) T1 G3 v x).mono (Sm.refl _) (t2.trans t3)) ((o3.f.1.2 : DRep (kw X) T2 G3 u y).mono (Sm.refl _) t3) o3.f.2⟩)) ((xc.more t1 o.st).more t2 (stab_and o.st (stab_drep _ _))) pins s I) (xc.more t1 o.st)) xc pins s I)
      fun u s1 ⟨x, H1, I1, rx, q1⟩ => thn (q1 pins s1 I1) fun w2 s2 ⟨y, H2, I2, ry, q2⟩ => thn (q2 pins s2 I2) fun ws s3 ⟨ps, H3, I3, rel, q3⟩ => ⟨(x, y) :: ps, H3, I3, .cons ⟨rx, ry⟩ rel, q3⟩)⟩
theorem re_dict0 : RE X (.Dict [] [] pos) eDict0 :=
  ⟨fun {L env Q Ex} h {W B T G σ H R F} hn tk o n xc => mE_of pe_dnewK (fun p hp => n.own o hp h ⟨.dK [], [], upd_same, .inl ⟨[], rfl, rfl, rfl⟩, .nil⟩)⟩
/-- the stores of a display -/
theorem putAll_ok {B : Fra} {T : Tb} {σ : L2.St} {env : VEnv} {F : Hp → Prop} {n : Nat} {d : Addr} {pins : List (Addr × Obj)} {R : Hp → Prop} {E : Value → Shared → Prop} (hu : X.A.units + 64 < cLine) (hd : T[n]? = some d) :
    ∀ {xs : List (DV × DV)} {vs : List (V × V)} {ws : List (Value × Value)} {L L' : OL} {G H : Hp} {s : Shared}, OkF (kw X) B T L G σ H env F → PReps (kw X) T G vs xs → VV vs ws → Inv X pins σ H s → putAll n L xs = some L' → (∀ G' H', Sm G G' → OkF (kw X) B T L' G' σ H' env F → R H') →
      wpAny (model X.prog X.w) X.A (forIn ws PUnit.unit fun (x : Value × Value) (_ : PUnit) => (do dictSet d x.1 x.2; pure (ForInStep.yield PUnit.unit) : Sem (ForInStep PUnit))) (fun _ s' => ∃ H', Inv X pins σ H' s' ∧ R H') E s
  | [], _, _, L, L', G, H, s, o, .nil, .nil, I, h, q => by
    cases h
    rw [List.forIn_nil]
    exact wpAny_pure ⟨H, I, q G H (Sm.refl _) o⟩
  | (k, z) :: xs, (x, y) :: vs, w :: ws, L, L', G, H, s, o, .cons ra rb r, .cons rw' rs, I, h, q => by
    simp only [putAll] at h
    split at h
    · rename_i L1 h1
      rw [List.forIn_cons]
      refine wpAny_bind (wpAny_bind ?_)
      simp only [dputV] at h1
      split at h1
      · rename_i c0 hL
        cases hn' : see L k with
        | none => rw [hn'] at h1; cases h1
        | some nn =>
          rw [hn'] at h1
          simp only [] at h1
          split at h1
          · rename_i c1 hc
            cases h1
            have at0 := (o.own n d _ hd hL : AtO (kw X) T G H d c0)
            have go : ∀ {kvs : List (D × DV)}, AtO (kw X) T G H d (.k kvs) → kindN (kvs.map (·.1)) nn = true → kvs.length < sizeLine → (∀ H', AtO (kw X) T G H' d (.k (putG kvs nn z)) → AtO (kw X) T G H' d c1) →
                wpAny (model X.prog X.w) X.A (dictSet d w.1 w.2) (fun _ s₁ => wpAny (model X.prog X.w) X.A (pure (ForInStep.yield PUnit.unit)) (fun x s₂ => wpAny (model X.prog X.w) X.A (match x with | ForInStep.done b => pure b | ForInStep.yield b => forIn ws b fun (x : Value × Value) (_ : PUnit) => (do dictSet d x.1 x.2; pure (ForInStep.yield PUnit.unit) : Sem (ForInStep PUnit))) (fun _ s' => ∃ H', Inv X pins σ H' s' ∧ R H') E s₂) E s₁) E s := by
              intro kvs at1 hk hl fin
              obtain ⟨o1, us, a1, a2, a3⟩ := at1
              refine dv_set hu I o.sub a1 a2 a3 (view_key (kind_key hk) (o.see ra hn')) rw'.1 rw'.2 rb hk hl fun o' s' ha I' => wpAny_pure ?_
              exact putAll_ok hu hd (o.mod hd hL (fin _ ha)) r rs I' h q
            unfold dputC at hc
            split at hc
            · rename_i kvs
              obtain ⟨hb, hc'⟩ := br_some hc
              clear hc
              rw [Bool.and_eq_true, kindB_eq] at hb
              have at1 : AtO (kw X) T G H d (.k (kvs.map fun x => (x.1, DV.d x.2))) := by
                obtain ⟨o5, us, h1, h2, h3⟩ := (at0 : At (kw X) G H d (.dct kvs))
                refine ⟨o5, us, h1, by rw [List.map_map]; exact h2, ?_⟩
                have := Reps.dv (T := T) h3
                rw [List.map_map] at this ⊢
                exact this
              refine go at1 (by rw [List.map_map]; exact hb.1) (by rw [List.length_map]; exact szB_lt hb.2) fun H' ha => ?_
              split at hc'
              · cases hc'
                rw [putG_d] at ha
                exact at_kd ha
              · cases hc'
                exact ha
            · rename_i kvs
              obtain ⟨hb, hc'⟩ := br_some hc
              clear hc
              rw [Bool.and_eq_true, kindB_eq] at hb
              cases hc'
              exact go at0 hb.1 (szB_lt hb.2) fun H' ha => ha
            · cases hc
          · cases h1
      · cases h1
    · cases h
end
end FL

set_option Elab.async false
set_option linter.all false
set_option maxRecDepth 100000
set_option maxHeartbeats 4000000
namespace FL
open PySem PySem.Spec PyProof.Rows L2
section
variable {X : Cx} {e ea eb ec : Expr} {es : List Expr} {p p2 pos pos' : Pos} {fa fb fc : Ev} {as bs : Ea} {ps : Ep} {f : Str}
theorem paired_length {α β : Type} {P : α → β → Prop} {xs : List α} {ys : List β} (h : Paired P xs ys) : xs.length = ys.length := Paired.length h
theorem re_dict {keys : List (Option Expr)} {values : List Expr} (hu : X.A.units + 64 < cLine) (r : RP X pos keys values ps) (hall : keys.all (·.isSome) = true := by rfl) (hl : keys.length = values.length := by rfl) (h0 : keys ≠ [] := by simp) (h15 : keys.length ≤ 15 := by decide) : RE X (.Dict keys values pos) (eDict ps) :=
  ⟨fun {L env Q Ex} h {W B T G σ H R F} hn tk o n xc pins s I => by
    have hp := I.hok.fresh (Nat.le_refl s.heap.objs.size)
    have I1 := I.laid (a := s.heap.objs.size) (o := .dK []) (h' := s.heap.push { cls := .type "dict", data := .dict #[] }) (t' := s.toks) (fun _ _ q => Heap.get?_push_of_some _ q) (Nat.le_refl _) (dk_empty s.heap I.big)
    have o1 := o.alloc (o := .dK []) (c := .p (.dct [])) hp ⟨.dK [], [], upd_same, .inl ⟨[], rfl, rfl, rfl⟩, .nil⟩
    have hlen := pairTrees_length keys values X.env pos hall hl
    have hne : pairTrees keys values X.env pos ≠ [] := fun z => by rw [z] at hlen; exact h0 (List.length_eq_zero_iff.mp hlen.symm)
    have hd : (T ++ [s.heap.objs.size])[L.length]? = some s.heap.objs.size := o.hnd
    rw [arm_eval_Dict, zip_pairTrees keys values X.env pos hall hl, dictDisplay_pairs _ hne (by omega)]
    refine wpAny_bind (wpAny_standAt (wpAny_bind ?_))
    unfold subDict
    refine wpAny_bind (wpAny_alloc (wpAny_bind (wpAny_holding ?_)))
    rw [if_pos (by omega)]
    refine wpAny_bind (thn (r.ok (R := fun vs H2 => ∀ ws s2, Inv X pins σ H2 s2 → VV vs ws → wpAny (model X.prog X.w) X.A (forIn ws PUnit.unit fun (x : Value × Value) (_ : PUnit) => (do dictSet s.heap.objs.size x.1 x.2; pure (ForInStep.yield PUnit.unit) : Sem (ForInStep PUnit))) (fun _ s' => ∃ H', Inv X pins σ H' s' ∧ R (.ref s.heap.objs.size) H') X.xe s2) (post_bnd h) hn tk o1 (fun T2 L2 G2 H2 vs xs q t2 o2 ws s2 I2 rel => ?_) (xc.on (List.prefix_append _ _)) pins _ I1) fun ws s2 ⟨vs, H2, I2, rel, q⟩ => ?_)
    · obtain ⟨L3, h3, q⟩ := post_bopt q
      exact putAll_ok hu (pre_get t2 hd) (o2.drop o.st) o2.f.2 rel I2 h3 fun G' H' sm o3 => n T2 L3 G' H' _ _ q ((List.prefix_append _ _).trans t2) (o3.push (stab_drep _ _) (.h (pre_get t2 hd)))
    · refine wpAny_holding (wpAny_bind (wpAny_mono (q ws s2 I2 rel) (fun _ s3 h3 => ?_) fun _ _ z => z))
      obtain ⟨H3, I3, q3⟩ := h3
      exact wpAny_pure (wpAny_pure (wpAny_pure ⟨.ref _, H3, I3, rfl, q3⟩))⟩
/-! ### lists of one's own -/
def ownLst (L : OL) : DV → Option (Nat × List D)
  | .h k => match L[k]? with
    | some (.own (.p (.lst ds))) => some (k, ds)
    | _ => none
  | _ => none
theorem ownLst_at {K : KW} {B : Fra} {T : Tb} {L : OL} {G : Hp} {σ : L2.St} {H : Hp} {env : VEnv} {F : Hp → Prop} {v : V} {x : DV} {k : Nat} {ds : List D} (o : OkF K B T L G σ H env F) (r : DRep K T G v x) (h : ownLst L x = some (k, ds)) :
    ∃ p us, v = .ref p ∧ T[k]? = some p ∧ L[k]? = some (.own (.p (.lst ds))) ∧ H p = some (.lst us) ∧ Reps K G us ds := by
  cases r with
  | d r => cases h
  | h hk =>
    simp only [ownLst] at h
    split at h
    · rename_i hc
      cases h
      obtain ⟨us, hp, r⟩ := (o.own _ _ _ hk hc : AtO K T G H _ (.p (.lst _)))
      exact ⟨_, us, rfl, hk, hc, hp, r⟩
    · cases h
def one1 : List DV → Option DV
  | [x] => some x
  | _ => none
theorem one1_of {K : KW} {T : Tb} {G : Hp} {vs : List V} {xs : List DV} {x : DV} (r : DReps K T G vs xs) (h : one1 xs = some x) : ∃ v, vs = [v] ∧ DRep K T G v x := by
  cases r with
  | nil => cases h
  | cons a b =>
    cases b with
    | nil => cases h; exact ⟨_, rfl, a⟩
    | cons _ _ => cases h
def eApp (a : Ev) (b : Ea) : Ev := fun L env => bnd (a L env) fun L1 x => bnd (opt L1 (ownLst L1 x)) fun L1 _ => bnd (b L1 env) fun L2 ys => bnd (opt L2 (one1 ys)) fun L2 y => bnd (Fz L2 y) fun L3 d => bnd (opt L3 (ownLst L3 x)) fun L3 r => br (szB r.2.length) (some (.val (L3.set r.1 (.own (.p (.lst (r.2 ++ [d]))))) (.d .non))) none
theorem re_append {cpos apos : Pos} (a : RE X ea fa) (b : RA X [e] bs) (hbase : attributeBase ea "append" X.env (eval ea X.env) = eval ea X.env := by rfl)
    (hfew : ((backTo cpos (starEach [e] X.env)).all (fun x => !x.1) && (backToKw cpos (keywordEach [] X.env)).all (fun x => x.1.isSome) && decide ([e].length + ([] : List Keyword).length + (if ([] : List Keyword).isEmpty then 0 else 1) < 30)) = true := by rfl)
    (hline : (apos.endLine == cpos.line) = true := by rfl) (hs : starEach [e] X.env = (false, eval e X.env) :: starEach [] X.env := by rfl) (hplain : (backTo cpos (starEach [] X.env)).any (·.1) = false := by rfl) : RE X (.Call (.Attribute ea "append" apos) [e] [] cpos) (eApp fa bs) :=
  ⟨fun {L env Q Ex} h {W B T G σ H R F} hn tk o n xc => mE_of (pe_bm PySem.F.plainAttrs_list PySem.F.slot_list_append PySem.F.type_list_append mt_append pe_max pa_max hbase hfew hline hs hplain) (a.ok (post_bnd h) hn tk o (fun T1 L1 G1 H1 v x q t1 o1 => by
    obtain ⟨⟨k0, ds0⟩, h0, q⟩ := post_bopt q
    obtain ⟨p0, us0, rfl, hT0, hL0, hp0, _⟩ := ownLst_at (o1.drop o.st) o1.f.2 h0
    refine ⟨.inl ⟨rfl, us0, SqL.of hp0⟩, b.ok (post_bnd q) hn tk o1 (fun T2 L2 G2 H2 vs ys q2 t2 o2 => ?_) (xc.more t1 o.st)⟩
    obtain ⟨y, hy, q2⟩ := post_bopt q2
    obtain ⟨L3, d, hf, q2⟩ := post_fz (post_bnd q2)
    obtain ⟨⟨k, ds⟩, hk, q2⟩ := post_bopt q2
    obtain ⟨hl, q⟩ := post_br q2
    obtain ⟨v2, rfl, ry⟩ := one1_of o2.f.2 hy
    obtain ⟨G3, s3, o3, r3⟩ := (o2.as o.st o2.f.1.1).fz hf
    have rx := (o2.f.1.2 : DRep (kw X) T1 G2 (.ref p0) x).mono s3 t2
    obtain ⟨p3, us, e3, hT, hL, hp, r⟩ := ownLst_at o3 rx hk
    cases e3
    refine ⟨p0, us, v2, rfl, rfl, hp, by rw [r.length]; exact szB_lt hl, ?_⟩
    have o4 := o3.mod (o := .lst (us ++ [v2])) (c := .p (.lst (ds ++ [d]))) hT hL ⟨us ++ [v2], upd_same, r.append (.cons (r3 v2 ry) .nil)⟩
    exact n T2 _ G3 _ .non (.d .non) q (t1.trans t2) (o4.push (stab_drep _ _) (.d .non))) xc)⟩
/-- extend by a list -/
def rExtR : V → List V → Hp → VK → Prop := fun x vs H Q => ∃ l b xs zs, x = .ref l ∧ vs = [.ref b] ∧ H l = some (.lst xs) ∧ Rd H b (.lst zs) ∧ xs.length + zs.length ≤ sizeLine ∧ Q .non (upd H l (.lst (xs ++ zs)))
theorem mt_extR : MtM X "list.extend" rExtR := by
  intro pins s σ H x vs v us Q I rx rv h
  obtain ⟨l, b, xs, zs, rfl, rfl, hH, hB, hz, q⟩ := h
  cases rx
  obtain ⟨u, rfl, ru⟩ := rv.one
  cases ru
  obtain ⟨z, its, n, r, hl, e⟩ := I.lstM hH
  obtain ⟨z2, its2, n2, r2, e2⟩ := hB.ok I.hok
  have hl2 := r2.length
  have hsz : its.toArray.size + its2.toArray.size ≤ sizeLine := by rw [List.size_toArray, List.size_toArray]; omega
  have hlong : ¬ (!its.toArray.isEmpty && Builtin.List.listTooLong (its.toArray.size + its2.toArray.size)) = true := by
    rw [notLongL hsz, Bool.and_false]
    exact Bool.false_ne_true
  refine call_meets F.slot_list_extend ⟨_, e, rfl⟩ F.entry_list_extend (F.args_list_extend_2 _ _)
    (AutoSeq1.list_extend_list_list_0 l its.toArray n b its2.toArray n2 hlong (by rw [List.size_toArray]; omega) (by omega)) ⟨e, e2, ?_⟩
  refine ⟨.non, _, I.lset (its' := its ++ its2) hH e (by simp) (r.append r2) ?_, rfl, q⟩
  rw [List.length_append]
  omega
def lstOf : D → Option (List D)
  | .lst ds => some ds
  | _ => none
def eExt (a : Ev) (b : Ea) : Ev := fun L env => bnd (a L env) fun L1 x => bnd (opt L1 (ownLst L1 x)) fun L1 _ => bnd (b L1 env) fun L2 ys => bnd (opt L2 (one1 ys)) fun L2 y => bnd (Fz L2 y) fun L3 d => bnd (opt L3 (lstOf d)) fun L3 es => bnd (opt L3 (ownLst L3 x)) fun L3 r => br (szB (r.2.length + es.length)) (some (.val (L3.set r.1 (.own (.p (.lst (r.2 ++ es))))) (.d .non))) none
theorem re_extend {cpos apos : Pos} (a : RE X ea fa) (b : RA X [e] bs) (hbase : attributeBase ea "extend" X.env (eval ea X.env) = eval ea X.env := by rfl)
    (hfew : ((backTo cpos (starEach [e] X.env)).all (fun x => !x.1) && (backToKw cpos (keywordEach [] X.env)).all (fun x => x.1.isSome) && decide ([e].length + ([] : List Keyword).length + (if ([] : List Keyword).isEmpty then 0 else 1) < 30)) = true := by rfl)
    (hline : (apos.endLine == cpos.line) = true := by rfl) (hs : starEach [e] X.env = (false, eval e X.env) :: starEach [] X.env := by rfl) (hplain : (backTo cpos (starEach [] X.env)).any (·.1) = false := by rfl) : RE X (.Call (.Attribute ea "extend" apos) [e] [] cpos) (eExt fa bs) :=
  ⟨fun {L env Q Ex} h {W B T G σ H R F} hn tk o n xc => mE_of (pe_bm PySem.F.plainAttrs_list PySem.F.slot_list_extend PySem.F.type_list_extend mt_extR pe_max pa_max hbase hfew hline hs hplain) (a.ok (post_bnd h) hn tk o (fun T1 L1 G1 H1 v x q t1 o1 => by
    obtain ⟨⟨k0, ds0⟩, h0, q⟩ := post_bopt q
    obtain ⟨p0, us0, rfl, hT0, hL0, hp0, _⟩ := ownLst_at (o1.drop o.st) o1.f.2 h0
    refine ⟨.inl ⟨rfl, us0, SqL.of hp0⟩, b.ok (post_bnd q) hn tk o1 (fun T2 L2 G2 H2 vs ys q2 t2 o2 => ?_) (xc.more t1 o.st)⟩
    obtain ⟨y, hy, q2⟩ := post_bopt q2
    obtain ⟨L3, d, hf, q2⟩ := post_fz (post_bnd q2)
    obtain ⟨es, hes, q2⟩ := post_bopt q2
    obtain ⟨⟨k, ds⟩, hk, q2⟩ := post_bopt q2
    obtain ⟨hl, q⟩ := post_br q2
    obtain ⟨v2, rfl, ry⟩ := one1_of o2.f.2 hy
    obtain ⟨G3, s3, o3, r3⟩ := (o2.as o.st o2.f.1.1).fz hf
    have rx := (o2.f.1.2 : DRep (kw X) T1 G2 (.ref p0) x).mono s3 t2
    obtain ⟨p3, us, e3, hT, hL, hp, r⟩ := ownLst_at o3 rx hk
    cases e3
    have hd : d = .lst es := by cases d <;> cases hes; rfl
    subst hd
    obtain ⟨b3, ws, rfl, h5, h6⟩ := rep_lstR (r3 v2 ry)
    refine ⟨p0, b3, us, ws, rfl, rfl, hp, ex_rl o3.sub h5, by rw [r.length, h6.length]; exact szB_le hl, ?_⟩
    have o4 := o3.mod (o := .lst (us ++ ws)) (c := .p (.lst (ds ++ es))) hT hL ⟨us ++ ws, upd_same, r.append h6⟩
    exact n T2 _ G3 _ .non (.d .non) q (t1.trans t2) (o4.push (stab_drep _ _) (.d .non))) xc)⟩
/-- pop(i) -/
def popAt (ds : List D) (i : Int) : Option (D × List D) := match ixN ds.length i with
  | some n => match ds[n]? with
    | some d => some (d, ds.eraseIdx n)
    | none => none
  | none => none
def ePop (a : Ev) (b : Ea) : Ev := fun L env => bnd (a L env) fun L1 x => bnd (opt L1 (ownLst L1 x)) fun L1 _ => bnd (b L1 env) fun L2 ys => bnd (opt L2 (int1 ys)) fun L2 i => bnd (opt L2 (ownLst L2 x)) fun L2 r => bnd (opt L2 (popAt r.2 i)) fun L2 w => br (szB r.2.length) (some (.val (L2.set r.1 (.own (.p (.lst w.2)))) (.d w.1))) none
theorem re_pop {cpos apos : Pos} (a : RE X ea fa) (b : RA X [e] bs) (hbase : attributeBase ea "pop" X.env (eval ea X.env) = eval ea X.env := by rfl)
    (hfew : ((backTo cpos (starEach [e] X.env)).all (fun x => !x.1) && (backToKw cpos (keywordEach [] X.env)).all (fun x => x.1.isSome) && decide ([e].length + ([] : List Keyword).length + (if ([] : List Keyword).isEmpty then 0 else 1) < 30)) = true := by rfl)
    (hline : (apos.endLine == cpos.line) = true := by rfl) (hs : starEach [e] X.env = (false, eval e X.env) :: starEach [] X.env := by rfl) (hplain : (backTo cpos (starEach [] X.env)).any (·.1) = false := by rfl) : RE X (.Call (.Attribute ea "pop" apos) [e] [] cpos) (ePop fa bs) :=
  ⟨fun {L env Q Ex} h {W B T G σ H R F} hn tk o n xc => mE_of (pe_bm PySem.F.plainAttrs_list PySem.F.slot_list_pop PySem.F.type_list_pop mt_popAt pe_max pa_max hbase hfew hline hs hplain) (a.ok (post_bnd h) hn tk o (fun T1 L1 G1 H1 v x q t1 o1 => by
    obtain ⟨⟨k0, ds0⟩, h0, q⟩ := post_bopt q
    obtain ⟨p0, us0, rfl, hT0, hL0, hp0, _⟩ := ownLst_at (o1.drop o.st) o1.f.2 h0
    refine ⟨.inl ⟨rfl, us0, SqL.of hp0⟩, b.ok (post_bnd q) hn tk o1 (fun T2 L2 G2 H2 vs ys q2 t2 o2 => ?_) (xc.more t1 o.st)⟩
    obtain ⟨i, hi, q2⟩ := post_bopt q2
    obtain ⟨⟨k, ds⟩, hk, q2⟩ := post_bopt q2
    obtain ⟨⟨d, rest⟩, hw, q2⟩ := post_bopt q2
    obtain ⟨hl, q⟩ := post_br q2
    have ev := int1_of o2.f.2 hi
    subst ev
    have o3 := o2.as o.st o2.f.1.1
    obtain ⟨p3, us, e3, hT, hL, hp, r⟩ := ownLst_at o3 ((o2.f.1.2 : DRep (kw X) T1 G2 (.ref p0) x).mono (Sm.refl _) t2) hk
    cases e3
    unfold popAt at hw
    cases hx : ixN ds.length i with
    | none => rw [hx] at hw; cases hw
    | some m =>
      rw [hx] at hw
      cases hd : ds[m]? with
      | none => simp only [hd] at hw; cases hw
      | some d' =>
        simp only [hd] at hw
        cases hw
        obtain ⟨e1, e2, e3, e4⟩ := ixN_seq hx
        obtain ⟨y, hy, ry⟩ := r.get hd
        have hsz : ds.length ≤ sizeLine := szB_le hl
        have hz : sizeLine < 2 ^ 62 := by decide
        refine ⟨p0, us, i, m, y, rfl, rfl, hp, by omega, by omega, by rw [r.length]; exact e1, hy, ?_⟩
        have o4 := o3.mod (o := .lst (us.eraseIdx m)) (c := .p (.lst (ds.eraseIdx m))) hT hL ⟨us.eraseIdx m, upd_same, r.eraseIdx m⟩
        exact n T2 _ G2 _ y (.d d) q (t1.trans t2) (o4.push (stab_drep _ _) (.d ry))) xc)⟩
theorem Reps.dropLast {K : KW} {G : Hp} : ∀ {vs : List V} {ds : List D}, Reps K G vs ds → Reps K G vs.dropLast ds.dropLast
  | _, _, .nil => .nil
  | _, _, .cons _ .nil => .nil
  | _, _, .cons a (.cons b c) => .cons a (Reps.dropLast (.cons b c))
def ePop0 (a : Ev) : Ev := fun L env => bnd (a L env) fun L1 x => bnd (opt L1 (ownLst L1 x)) fun L1 r => bnd (opt L1 (r.2[r.2.length - 1]?)) fun L1 d => some (.val (L1.set r.1 (.own (.p (.lst r.2.dropLast)))) (.d d))
theorem re_pop0 {cpos apos : Pos} (a : RE X ea fa) (hbase : attributeBase ea "pop" X.env (eval ea X.env) = eval ea X.env := by rfl) (hline : (apos.endLine == cpos.line) = true := by rfl) : RE X (.Call (.Attribute ea "pop" apos) [] [] cpos) (ePop0 fa) :=
  ⟨fun {L env Q Ex} h {W B T G σ H R F} hn tk o n xc => mE_of (pe_bm0 PySem.F.plainAttrs_list PySem.F.slot_list_pop PySem.F.type_list_pop mt_pop pe_max hbase hline) (a.ok (post_bnd h) hn tk o (fun T1 L1 G1 H1 v x q t1 o1 => by
    obtain ⟨⟨k, ds⟩, hk, q⟩ := post_bopt q
    obtain ⟨d, hd, q⟩ := post_bopt q
    have o3 := o1.drop o.st
    obtain ⟨p0, us, rfl, hT, hL, hp, r⟩ := ownLst_at o3 o1.f.2 hk
    have hd : ds[ds.length - 1]? = some d := hd
    rw [← r.length] at hd
    obtain ⟨y, hy, ry⟩ := r.get hd
    refine ⟨.inl ⟨rfl, us, SqL.of hp⟩, p0, us, y, rfl, rfl, hp, hy, ?_⟩
    have o4 := o3.mod (o := .lst us.dropLast) (c := .p (.lst ds.dropLast)) hT hL ⟨us.dropLast, upd_same, r.dropLast⟩
    exact n T1 _ G1 _ y (.d d) q t1 (o4.push (stab_drep _ _) (.d ry))) xc)⟩
/-! ### *x in a display, an argument list -/
def starOf (L : OL) (x : DV) : Option (List D) := match see L x with
  | some (.lst ds) => some ds
  | some (.tup ds) => some ds
  | _ => none
theorem starOf_ok {K : KW} {B : Fra} {T : Tb} {L : OL} {G : Hp} {σ : L2.St} {H : Hp} {env : VEnv} {F : Hp → Prop} {v : V} {x : DV} {ds : List D} (o : OkF K B T L G σ H env F) (r : DRep K T G v x) (h : starOf L x = some ds) : ∃ p xs, v = .ref p ∧ (SqT K.K H p xs ∨ SqL K.K H p xs) ∧ Reps K G xs ds := by
  unfold starOf at h
  split at h
  · rename_i es hs
    cases h
    obtain ⟨a, vs, rfl, h1, h2⟩ := (o.see r hs : View K G H v (.lst ds))
    exact ⟨a, vs, rfl, .inr (.inl h1), h2⟩
  · rename_i es hs
    cases h
    have z : Rep K G v (.tup ds) := o.see r hs
    obtain ⟨a, vs, rfl, h1, h2⟩ := rep_tup z
    exact ⟨a, vs, rfl, .inl (ex_t o.sub h1), h2⟩
  · cases h
def aStar (a : Ev) (b : Ea) : Ea := fun L env => bnd (a L env) fun L1 x => bnd (opt L1 (starOf L1 x)) fun L1 ds => bnd (b L1 env) fun L2 xs => some (.val L2 (ds.map DV.d ++ xs))
theorem ra_star (a : RE X e fa) (b : RA X es bs) (hs : starEach (.Starred e p :: es) X.env = (true, eval e X.env) :: starEach es X.env := by rfl) : RA X (.Starred e p :: es) (aStar fa bs) :=
  ⟨fun {L env Q Ex} h {W B T G σ H R F} hn tk o n xc => mA_of (StX.pa_star pe_max pa_max hs) (a.ok (post_bnd h) hn tk o (fun T1 L1 G1 H1 v x q1 t1 o1 => by
    obtain ⟨ds, hd, q1⟩ := post_bopt q1
    have o2 := o1.drop o.st
    obtain ⟨q, xs, rfl, h1, h2⟩ := starOf_ok o2 o1.f.2 hd
    refine ⟨q, xs, rfl, h1, b.ok (post_bnd q1) hn tk (o2.push (stab_reps xs ds) h2) (fun T2 L2 G2 H2 vs ys q2 t2 o3 => ?_) ((xc.on t1).more (List.prefix_refl _) o.st)⟩
    exact n T2 L2 G2 H2 (xs ++ vs) _ q2 (t1.trans t2) (o3.as (stab_and o.st (stab_dreps _ _)) ⟨o3.f.1.1, (Reps.dv o3.f.1.2).append o3.f.2⟩)) xc)⟩
end
end FL

set_option Elab.async false
set_option linter.all false
set_option maxRecDepth 100000
set_option maxHeartbeats 4000000
namespace FL
open PySem PySem.Spec PyProof.Rows L2
/-! ### built-ins -/
inductive Views (K : KW) (G H : Hp) : List V → List D → Prop
  | nil : Views K G H [] []
  | cons {v : V} {d : D} {vs : List V} {ds : List D} : View K G H v d → Views K G H vs ds → Views K G H (v :: vs) (d :: ds)
def sees (L : OL) : List DV → Option (List D)
  | [] => some []
  | x :: xs => match see L x, sees L xs with
    | some a, some as => some (a :: as)
    | _, _ => none
theorem OkF.sees {K : KW} {B : Fra} {T : Tb} {L : OL} {G : Hp} {σ : L2.St} {H : Hp} {env : VEnv} {F : Hp → Prop} (o : OkF K B T L G σ H env F) : ∀ {vs : List V} {xs : List DV} {ds : List D}, DReps K T G vs xs → sees L xs = some ds → Views K G H vs ds
  | _, _, _, .nil, h => by cases h; exact .nil
  | _, _, _, .cons a b, h => by
    simp only [FL.sees] at h
    split at h
    · rename_i h1 h2
      cases h
      exact .cons (o.see a h1) (o.sees b h2)
    · cases h
def mCall (X : Cx) (f : Value) : List V → Hp → VK → Prop := fun xs H R => ∀ pins s σ us, Inv X pins σ H s → Vals xs us → wpAny (model X.prog X.w) X.A (call f us) (EP X pins σ R) X.xe s
theorem views1 {K : KW} {G H : Hp} {xs : List V} {d : D} (h : Views K G H xs [d]) : ∃ v, xs = [v] ∧ View K G H v d := by
  cases h with
  | cons a b => cases b; exact ⟨_, rfl, a⟩
theorem views2 {K : KW} {G H : Hp} {xs : List V} {d d' : D} (h : Views K G H xs [d, d']) : ∃ v v', xs = [v, v'] ∧ View K G H v d ∧ View K G H v' d' := by
  cases h with
  | cons a b =>
    cases b with
    | cons b c => cases c; exact ⟨_, _, rfl, a, b⟩
section
variable {X : Cx} {e ea eb ec : Expr} {es : List Expr} {p pos : Pos} {x : Str} {id T : String} {fa fb fc : Ev} {as : Ea}
theorem call_max {f : Value} : CallR X f (mCall X f) := fun pins s σ H xs us Q I r h => h pins s σ us I r
theorem mCall_of {f : Value} {r : List V → Hp → VK → Prop} (c : CallR X f r) {xs : List V} {H : Hp} {R : VK} (h : r xs H R) : mCall X f xs H R := fun pins s σ us I rx => c pins s σ H xs us R I rx h
def CbV (X : Cx) (f : Value) (fn : List D → Option Res) : Prop := ∀ {G H xs ds res R}, Views (kw X) G H xs ds → Sm G H → fn ds = some res → FinR (kw X) G H res R → mCall X f xs H R
def eCb (fn : List D → Option Res) (a : Ea) : Ev := fun L env => bnd (a L env) fun L1 xs => fin L1 (obnd (sees L1 xs) fn)
theorem okB {f : Value} {fn : List D → Option Res} (c : CbV X f fn) {B : Fra} {T : Tb} {L : OL} {G : Hp} {σ : L2.St} {H : Hp} {env : VEnv} {F : Hp → Prop} {vs : List V} {xs : List DV} {Q : QV} {Ex : XQ} {R : VK} (o : OkF (kw X) B T L G σ H env F) (r : DReps (kw X) T G vs xs) (h : post (fin L (obnd (FL.sees L xs) fn)) Q Ex) (n : Nrm (kw X) B T σ env F Q R) : mCall X f vs H R := by
  obtain ⟨res, hr, q⟩ := fin_ok o h n
  obtain ⟨ds, hd, hr⟩ := obnd_some hr
  exact c (o.sees r hd) o.sub hr q
theorem re_cb {fn : List D → Option Res} (c : CbV X (.builtin id) fn) (hg : Gl X x) (hm : X.mg x = none) (hv : bootBuiltins x = some (.builtin id)) (a : RA X (e :: es) as) (hn : x ≠ "__name__" := by decide) (hdb : (x == ("__debug__" : Str)) = false := by decide)
    (he : starEach (e :: es) X.env = (false, eval e X.env) :: starEach es X.env := by rfl) (hpl : (backTo pos (starEach es X.env)).any (·.1) = false := by rfl) : RE X (.Call (.Name x p) (e :: es) [] pos) (eCb fn as) :=
  ⟨fun {L env Q Ex} h {W B T G σ H R F} hB tk o n xc => mE_of (pe_callB call_max hg hm hv pa_max hn hdb he hpl) (a.ok (post_bnd h) hB tk o (fun T1 L1 G1 H1 vs xs q t1 o1 => okB c (o1.drop o.st) o1.f.2 q (n.on t1)) xc)⟩
theorem re_cty {fn : List D → Option Res} (c : CbV X (.type T) fn) (hg : Gl X x) (hm : X.mg x = none) (hv : bootBuiltins x = some (.type T)) (a : RA X (e :: es) as) (hn : x ≠ "__name__" := by decide) (hdb : (x == ("__debug__" : Str)) = false := by decide)
    (he : starEach (e :: es) X.env = (false, eval e X.env) :: starEach es X.env := by rfl) (hpl : (backTo pos (starEach es X.env)).any (·.1) = false := by rfl) : RE X (.Call (.Name x p) (e :: es) [] pos) (eCb fn as) :=
  ⟨fun {L env Q Ex} h {W B T G σ H R F} hB tk o n xc => mE_of (pe_callTy call_max hg hm hv pa_max hn hdb he hpl) (a.ok (post_bnd h) hB tk o (fun T1 L1 G1 H1 vs xs q t1 o1 => okB c (o1.drop o.st) o1.f.2 q (n.on t1)) xc)⟩
theorem call_lenN {A : Around} {E : Value → Shared → Prop} {s : Shared} {d : Addr} {es : Array DictEntry} {ep : Nat} {Q : Value → Shared → Prop} (hd : (d == sysModules) = false) (hm : s.heap.DictRaw d es ep) (hfit : (es.size : Int) < 2 ^ 63)
    (h : Q (.int es.size (s.toks + 1)) { s with toks := s.toks + 1 + 1 }) : wpAny (model X.prog X.w) A (call (.builtin "len") [.ref d]) Q E s := by
  refine Calls.call_function_entry kind_len plain_len entry_len (args_len1 _) ?_
  unfold Builtin.«len»
  refine wpAny_bind (m := oneArg "len" _) (wpAny_pure ?_)
  refine wpAny_bind (m := callSpecial? (.ref d) (Str.ofString "__len__")) (wpAny_callSpecial?_slot (name := Str.ofString "__len__") hm.typeIs F.slot_dict_len
    (call_meetsIn F.slot_dict_len hm.typeIs F.entry_dict_len (F.args_dict_len_1 _) (meets_dict_len_raw d hd) ⟨es, ep, hm, ?_⟩))
  show wpAny _ _ _ _ _ { s with toks := s.toks + 1 }
  refine wpAny_bind (wpAny_holding (wpAny_pure ?_))
  refine wpAny_bind (wpAny_letGo ?_)
  show wpAny _ _ (if ((es.size : Nat) : Int) < 0 then _ else _) _ _ _
  rw [if_neg (by omega)]
  show wpAny _ _ (if ((es.size : Nat) : Int) ≥ 2 ^ 63 then _ else _) _ _ _
  rw [if_neg (by omega)]
  exact wpAny_bind (wpAny_mkInt (wpAny_pure ⟨_, rfl, h⟩))
def fLen : List D → Option Res
  | [.lst ds] => some (.val (.int ds.length))
  | [.tup ds] => some (.val (.int ds.length))
  | [.dct ds] => some (.val (.int ds.length))
  | _ => none
theorem vb_len : CbV X (.builtin "len") fLen := fun {G H xs ds res R} v sm e r => by
  unfold fLen at e
  split at e
  · cases e
    obtain ⟨u, rfl, v1⟩ := views1 v
    obtain ⟨p, vs, rfl, h1, h2⟩ := v1
    exact mCall_of call_len_seq ⟨p, vs, rfl, .inl (.inl h1), by rw [h2.length]; exact r _ (.int _)⟩
  · cases e
    obtain ⟨u, rfl, v1⟩ := views1 v
    have v : Rep (kw X) G u _ := v1
    obtain ⟨p, vs, rfl, h1, h2⟩ := rep_tup v
    exact mCall_of call_len_seq ⟨p, vs, rfl, .inr (ex_t sm h1), by rw [h2.length]; exact r _ (.int _)⟩
  · rename_i ds_1
    cases e
    obtain ⟨u, rfl, v1⟩ := views1 v
    obtain ⟨p, us, rfl, dv, h2⟩ := v1
    have hl := dv.len
    rw [List.length_map] at hl
    intro pins s σ ws I rx
    obtain ⟨w1, rfl, r1⟩ := vals1 rx
    cases (show w1 = Value.ref p from r1)
    have q := r _ (.int _)
    rcases dv with ⟨kvs, h1, h3, rfl⟩ | ⟨xs, h1, h3, h4, h5, rfl⟩
    · have e0 : kvs.length = ds_1.length := by simpa using hl.symm
      have e : (kvs.length : Int) = (ds_1.length : Int) := by rw [e0]
      rw [← e] at q
      exact d_len I h1 fun t s' I' => ⟨.int kvs.length, H, I', ⟨t, rfl⟩, q⟩
    · obtain ⟨⟨h0, hz, ys, hp, o, es, ep, g1, g2, g3, g4, g5⟩, _, _⟩ := h1.ok I.hok
      have e1 : es.size = xs.length := by
        have := congrArg List.length g4
        simp only [Array.length_toList, List.length_map] at this
        rw [this, ← paired_len hp]
      have e0 : xs.length = ds_1.length := by simpa using hl.symm
      have e2 : (xs.length : Int) = (ds_1.length : Int) := by rw [e0]
      refine call_lenN h0 ⟨o, g1, g2, g3⟩ (by rw [e1]; rw [sizeLine_eq] at hz; omega) ?_
      rw [e1]
      refine ⟨.int _, H, I.tok _, ⟨_, rfl⟩, ?_⟩
      rw [e2]
      exact q
  · cases e
def fTuple : List D → Option Res
  | [.lst ds] => some (.tup ds)
  | [.tup ds] => some (.tup ds)
  | _ => none
theorem vb_tuple : CbV X (.type "tuple") fTuple := fun {G H xs ds res R} v sm e r => by
  unfold fTuple at e
  split at e
  · cases e
    obtain ⟨u, rfl, v1⟩ := views1 v
    obtain ⟨p, vs, rfl, h1, h2⟩ := v1
    exact mCall_of call_tuple_of ⟨p, vs, rfl, .inl ⟨.inl h1, fun l hl => r.2 l vs hl h2⟩⟩
  · cases e
    obtain ⟨u, rfl, v1⟩ := views1 v
    have v : Rep (kw X) G u _ := v1
    obtain ⟨p, vs, rfl, h1, h2⟩ := rep_tup v
    exact mCall_of call_tuple_of ⟨p, vs, rfl, .inr ⟨ex_t sm h1, r.1 _ v⟩⟩
  · cases e
def fList : List D → Option Res
  | [.lst ds] => some (.lst ds)
  | [.tup ds] => some (.lst ds)
  | _ => none
theorem vb_list : CbV X (.type "list") fList := fun {G H xs ds res R} v sm e r => by
  unfold fList at e
  split at e
  · cases e
    obtain ⟨u, rfl, v1⟩ := views1 v
    obtain ⟨p, vs, rfl, h1, h2⟩ := v1
    exact mCall_of call_list_of ⟨p, vs, rfl, .inl (.inl h1), fun l hl => r l vs hl h2⟩
  · cases e
    obtain ⟨u, rfl, v1⟩ := views1 v
    have v : Rep (kw X) G u _ := v1
    obtain ⟨p, vs, rfl, h1, h2⟩ := rep_tup v
    exact mCall_of call_list_of ⟨p, vs, rfl, .inr (ex_t sm h1), fun l hl => r l vs hl h2⟩
  · cases e
/-! ### None -/
def isN (L : OL) : DV → Option Bool
  | .h k => match L[k]? with
    | some (.own _) => some false
    | some (.fz _) => some false
    | _ => none
  | .d .non => some true
  | .d _ => some false
theorem isN_ok {K : KW} {T : Tb} {G : Hp} {L : OL} {v : V} {x : DV} {b : Bool} (r : DRep K T G v x) (h : isN L x = some b) : decide (v = .non) = b := by
  cases r with
  | h hk =>
    simp only [isN] at h
    split at h <;> first | (cases h; rfl) | cases h
  | d r =>
    cases r <;> first | (cases h; rfl) | (cases h; exact decide_eq_false (by intro z; cases z)) | cases h
def eIsN (a : Ev) : Ev := fun L env => bnd (a L env) fun L1 x => bnd (opt L1 (isN L1 x)) fun L1 b => some (.val L1 (.d (.bl b)))
def eNotN (a : Ev) : Ev := fun L env => bnd (a L env) fun L1 x => bnd (opt L1 (isN L1 x)) fun L1 b => some (.val L1 (.d (.bl (!b))))
theorem re_isN {j : Nat} {p' : Pos} (a : RE X ea fa) : RE X (.Compare ea [.Is] [.Constant .none j p'] pos) (eIsN fa) :=
  ⟨fun {L env Q Ex} h {W B T G σ H R F} hn tk o n xc => mE_of (pe_cmp (pc_isN pe_max) rfl) (a.ok (post_bnd h) hn tk o (fun T1 L1 G1 H1 v x q t1 o1 => by
    obtain ⟨b, hb, q⟩ := post_bopt q
    have e := isN_ok o1.f.2 hb
    show R (.bl (decide (v = V.non))) H1
    rw [e]
    exact n T1 L1 G1 H1 _ _ q t1 ((o1.drop o.st).push (stab_drep _ _) (.d (.bl b)))) xc)⟩
theorem re_notN {j : Nat} {p' : Pos} (a : RE X ea fa) : RE X (.Compare ea [.IsNot] [.Constant .none j p'] pos) (eNotN fa) :=
  ⟨fun {L env Q Ex} h {W B T G σ H R F} hn tk o n xc => mE_of (pe_cmp (pc_notN pe_max) rfl) (a.ok (post_bnd h) hn tk o (fun T1 L1 G1 H1 v x q t1 o1 => by
    obtain ⟨b, hb, q⟩ := post_bopt q
    have e := isN_ok o1.f.2 hb
    show R (.bl (!decide (v = V.non))) H1
    rw [e]
    exact n T1 L1 G1 H1 _ _ q t1 ((o1.drop o.st).push (stab_drep _ _) (.d (.bl (!b))))) xc)⟩
/-- a constant of the module -/
def ConstV (P : Program) (W : World) (K : PySem.W.Frag) (mg : Str → Option Value) (nm : Str) (d : D) : Prop := ∃ v a, mg nm = some a ∧ RelV v a ∧ ∀ G : Hp, Rep ⟨K, P, W⟩ G v d
theorem re_glob {nm : Str} {d : D} (h : ConstV X.prog X.w X.K X.mg nm d) (hg : Gl X nm) (hd : (nm == ("__debug__" : Str)) = false := by decide) : RE X (.Name nm p) (eCst d) := by
  obtain ⟨v, u, hm, rl, hr⟩ := h
  exact re_cst (pe_glob hg hm rl hd) hr
/-! ### min, max, abs, int -/
def fInt2 (g : Int → Int → Int) : List D → Option Res
  | [.int i, .int j] => some (.val (.int (g i j)))
  | _ => none
def fMin2 : List D → Option Res := fInt2 fun i j => if j < i then j else i
def fMax2 : List D → Option Res := fInt2 fun i j => if j > i then j else i
theorem vb_min2 (hc : X.calm = true) : CbV X (.builtin "min") fMin2 := fun {G H xs ds res R} v sm e r => by
  unfold fMin2 fInt2 at e
  split at e
  · cases e
    obtain ⟨u, u', rfl, v1, v2⟩ := views2 v
    rw [view_int v1, view_int v2]
    exact mCall_of (call_min2 hc) ⟨_, _, rfl, r _ (.int _)⟩
  · cases e
theorem vb_max2 (hc : X.calm = true) : CbV X (.builtin "max") fMax2 := fun {G H xs ds res R} v sm e r => by
  unfold fMax2 fInt2 at e
  split at e
  · cases e
    obtain ⟨u, u', rfl, v1, v2⟩ := views2 v
    rw [view_int v1, view_int v2]
    exact mCall_of (call_max2 hc) ⟨_, _, rfl, r _ (.int _)⟩
  · cases e
def fInt1 (g : Int → Int) : List D → Option Res
  | [.int i] => some (.val (.int (g i)))
  | _ => none
def fAbs : List D → Option Res := fInt1 fun i => if i < 0 then -i else i
theorem vb_abs : CbV X (.builtin "abs") fAbs := fun {G H xs ds res R} v sm e r => by
  unfold fAbs fInt1 at e
  split at e
  · cases e
    obtain ⟨u, rfl, v1⟩ := views1 v
    rw [view_int v1]
    exact mCall_of call_abs ⟨_, rfl, r _ (.int _)⟩
  · cases e
def fIntB : List D → Option Res
  | [.int i] => some (.val (.int i))
  | [.bl b] => some (.val (.int (if b = true then 1 else 0)))
  | _ => none
theorem vb_int : CbV X (.type "int") fIntB := fun {G H xs ds res R} v sm e r => by
  unfold fIntB at e
  split at e
  · cases e
    obtain ⟨u, rfl, v1⟩ := views1 v
    rw [view_int v1]
    exact mCall_of call_int1 (.inl ⟨_, rfl, r _ (.int _)⟩)
  · cases e
    obtain ⟨u, rfl, v1⟩ := views1 v
    rw [view_bl v1]
    exact mCall_of call_int1 (.inr ⟨_, rfl, r _ (.int _)⟩)
  · cases e
/-! ### all, any -/
def isTrueD : D → Bool
  | .bl b => b
  | _ => false
def allBl : List D → Bool
  | [] => true
  | .bl _ :: r => allBl r
  | _ => false
theorem allBl_of : ∀ {ds : List D}, allBl ds = true → ∃ bs : List Bool, ds = bs.map D.bl
  | [], _ => ⟨[], rfl⟩
  | .bl b :: r, h => by obtain ⟨bs, rfl⟩ := allBl_of (ds := r) h; exact ⟨b :: bs, rfl⟩
  | .non :: r, h => by cases h
  | .int _ :: r, h => by cases h
  | .str _ :: r, h => by cases h
  | .lst _ :: r, h => by cases h
  | .tup _ :: r, h => by cases h
  | .dct _ :: r, h => by cases h
  | .obj _ _ :: r, h => by cases h
  | .ty _ :: r, h => by cases h
  | .cn _ :: r, h => by cases h
def fAll : List D → Option Res
  | [.lst ds] => br (allBl ds) (some (.val (.bl (ds.all isTrueD)))) none
  | _ => none
def fAny : List D → Option Res
  | [.lst ds] => br (allBl ds) (some (.val (.bl (ds.any isTrueD)))) none
  | _ => none
theorem all_bls : ∀ bs : List Bool, (bs.map D.bl).all isTrueD = bs.all (fun b => b)
  | [] => rfl
  | b :: bs => by simp only [List.map_cons, List.all_cons, all_bls bs]; rfl
theorem any_bls : ∀ bs : List Bool, (bs.map D.bl).any isTrueD = bs.any (fun b => b)
  | [] => rfl
  | b :: bs => by simp only [List.map_cons, List.any_cons, any_bls bs]; rfl
theorem vb_all (hc : X.calm = true) : CbV X (.builtin "all") fAll := fun {G H xs ds res R} v sm e r => by
  unfold fAll at e
  split at e
  · obtain ⟨hb, e⟩ := br_some e
    cases e
    obtain ⟨bs, rfl⟩ := allBl_of hb
    obtain ⟨u, rfl, v1⟩ := views1 v
    obtain ⟨p, vs, rfl, h1, h2⟩ := v1
    rw [reps_bls h2] at h1
    simp only [all_bls] at r
    exact mCall_of (cr_all hc) ⟨p, bs, rfl, .inl h1, r _ (.bl _)⟩
  · cases e
theorem vb_any (hc : X.calm = true) : CbV X (.builtin "any") fAny := fun {G H xs ds res R} v sm e r => by
  unfold fAny at e
  split at e
  · obtain ⟨hb, e⟩ := br_some e
    cases e
    obtain ⟨bs, rfl⟩ := allBl_of hb
    obtain ⟨u, rfl, v1⟩ := views1 v
    obtain ⟨p, vs, rfl, h1, h2⟩ := v1
    rw [reps_bls h2] at h1
    simp only [any_bls] at r
    exact mCall_of (cr_any hc) ⟨p, bs, rfl, .inl h1, r _ (.bl _)⟩
  · cases e
end
/-! ### sorted -/
theorem reads_there {h : Heap} : ∀ {v : Value} {d : PyData} {as : List Addr}, Reads h v d as → ∀ a ∈ as, ∃ o, h.get? a = some o := by
  intro v d as r
  exact (Reads.rec (motive_1 := fun v d as _ => ∀ a ∈ as, ∃ o, h.get? a = some o) (motive_2 := fun vs ds as _ => ∀ a ∈ as, ∃ o, h.get? a = some o)
    (by intro a h; cases h) (by intro b a h; cases h) (by intro i t a h; cases h) (by intro x t a h; cases h)
    (fun h1 _ _ _ ih a ha => by rcases List.mem_cons.mp ha with rfl | ha; exact ⟨_, h1⟩; exact ih a ha)
    (fun h1 _ _ _ ih a ha => ih a ha)
    (fun h1 _ _ _ _ ih1 ih2 a ha => by
      rcases List.mem_append.mp ha with ha | ha
      · rcases List.mem_cons.mp ha with rfl | ha
        · exact ⟨_, h1⟩
        · exact ih1 a ha
      · exact ih2 a ha)
    (by intro a h; cases h)
    (fun _ _ ih1 ih2 a ha => by rcases List.mem_append.mp ha with ha | ha; exact ih1 a ha; exact ih2 a ha) r)
/-- by the second part -/
def srtV (vs : List V) (ds : List PyData) : List V := ((vs.zip ds).mergeSort (PySem.W.dataLe false (fun b : V × PyData => b.2))).map (·.1)
def rSortX (K : PySem.W.Frag) : List V → Hp → VK → Prop := fun xs H Q => ∃ (a : Addr) (vs : List V) (ds : List PyData), xs = [.ref a] ∧ (SqL K H a vs ∨ SqT K H a vs) ∧ DpAll K H vs ds ∧ PySem.W.AllAlike ds ∧ PySem.W.Sortable ds ∧ (∀ d ∈ ds, d.depth ≤ 50) ∧
  ∀ p, H p = none → Q (.ref p) (upd H p (.lst (srtV vs ds)))
theorem dps_len {K : PySem.W.Frag} {H : Hp} : ∀ {vs : List V} {ds : List PyData}, DpAll K H vs ds → vs.length = ds.length
  | _, _, .nil => rfl
  | _, _, .cons _ r => by simp [dps_len r]
theorem each_zip {X : Cx} {pins : List (Addr × Obj)} {σ : L2.St} {H : Hp} {s : Shared} (I : Inv X pins σ H s) {h' : Heap} {L : Addr} (hk : ∀ b o, s.heap.get? b = some o → h'.get? b = some o) (hL : ∀ o, s.heap.get? L ≠ some o) :
    ∀ {vs : List V} {ds : List PyData} {its : List Value}, Vals vs its → DpAll X.K H vs ds → PySem.W.EachIs (fun v (b : V × PyData) => RelV b.1 v) its (vs.zip ds) ∧ PySem.W.EachIs (fun v (b : V × PyData) => ∃ as, Reads h' v b.2 as ∧ L ∉ as) its (vs.zip ds)
  | _, _, _, .nil, .nil => ⟨.nil, .nil⟩
  | _, _, _, .cons r t, .cons d e => by
    obtain ⟨h1, h2⟩ := each_zip I hk hL t e
    obtain ⟨as, q⟩ := Dp.reads I _ _ _ d r
    exact ⟨.cons r h1, .cons ⟨as, PyProof.Rows.Reads.keeps hk q, fun z => let ⟨o, e⟩ := reads_there q L z; hL o e⟩ h2⟩
theorem each_vals : ∀ {out : List Value} {bs : List (V × PyData)}, PySem.W.EachIs (fun v (b : V × PyData) => RelV b.1 v) out bs → Vals (bs.map (·.1)) out
  | _, _, .nil => .nil
  | _, _, .cons r t => .cons r (each_vals t)
theorem cr_sortedX {X : Cx} (hu : X.A.units + 64 < cLine) : CallR X (.builtin "sorted") (rSortX X.K) := by
  intro pins s σ H xs us Q I r h
  obtain ⟨a, vs, ds, rfl, hq, hd, hal, hk, hdep, q⟩ := h
  obtain ⟨u, rfl, rx⟩ := vals1 r
  cases rx
  obtain ⟨its, T, o, n, rv, hT, ho, hc, hdt, hz⟩ : ∃ (its : List Value) (T : String) (o : Obj) (n : Nat), Vals vs its ∧ (T = "list" ∨ T = "tuple") ∧ s.heap.get? a = some o ∧ o.cls = .type T ∧ o.data = .seq its.toArray n ∧ vs.length ≤ sizeLine := by
    rcases hq with hq | hq
    · obtain ⟨its, rv, ⟨o, n, ho, hc, _, hdt⟩, hz⟩ := I.list hq
      exact ⟨its, "list", o, n, rv, .inl rfl, ho, hc, hdt, hz⟩
    · obtain ⟨its, rv, ⟨o, ho, hc, n, hdt⟩, hz⟩ := I.tuple hq
      exact ⟨its, "tuple", o, n, rv, .inr rfl, ho, hc, hdt, hz⟩
  have li : its.length = vs.length := rv.length.symm
  refine Calls.call_function_entry PyProof.Rows.kind_sorted PyProof.Rows.plain_sorted PyProof.Rows.entry_sorted (PyProof.Rows.args_sorted1 _) ?_
  unfold Builtin.«sorted»
  refine wpAny_bind (m := checkCount "sorted" 1 1 _) (wpAny_pure ?_)
  refine wpAny_bind (wpAny_collect_seq a hT ho hc hdt (fun h' hk' => ?_) (by rw [List.size_toArray, li]; exact hz))
  have I1 : Inv X pins σ H { s with heap := h' } := I.kept hk'
  have ea : its.toArray.toList = its := by simp
  rw [ea]
  refine wpAny_bind (wpAny_newList ?_ (by rw [li]; exact hz))
  have hL : ∀ o, s.heap.get? h'.objs.size ≠ some o := fun o e => Nat.lt_irrefl _ (Heap.lt_size (hk' _ _ e))
  have kp : ∀ b o, s.heap.get? b = some o → (h'.push (seqObj "list" its.toArray 0)).get? b = some o := fun b o e => Heap.get?_push_of_some _ (hk' b o e)
  have hoL : (h'.push (seqObj "list" its.toArray 0)).get? h'.objs.size = some (seqObj "list" its.toArray 0) := Heap.get?_push_size _ rfl
  obtain ⟨e1, e2⟩ := each_zip (L := h'.objs.size) I kp hL rv hd
  have eb : (vs.zip ds).map (fun b : V × PyData => b.2) = ds := List.map_snd_zip (by rw [dps_len hd]; exact Nat.le_refl _)
  show wpAny _ _ _ _ _ { s with heap := h'.push (seqObj "list" its.toArray 0) }
  refine wpAny_bind (wpAny_holding (PySem.W.list_sort_data (s := { s with heap := h'.push (seqObj "list" its.toArray 0) }) (enc := fun b : V × PyData => b.2) hoL e1 e2 (by rw [eb]; exact hal) (by rw [eb]; exact hk) (by rw [List.length_zip, dps_len hd, Nat.min_self, ← dps_len hd]; exact hz) (fun b hb => ?_) (fun out ho' eo => ?_)))
  · have hb2 : b.2 ∈ ds := by rw [← eb]; exact List.mem_map.mpr ⟨b, hb, rfl⟩
    have := hdep _ hb2
    show X.A.units + 1 + 1 + b.2.depth < cLine
    omega
  · obtain ⟨e', he'⟩ := PyProof.Rows.sortedHeap_at (vs := its) (out := out.toArray) hoL
    have rs := each_vals eo
    have hlen : (srtV vs ds).length ≤ sizeLine := by
      unfold srtV
      rw [List.length_map, List.length_mergeSort, List.length_zip]
      exact Nat.le_trans (Nat.min_le_left _ _) hz
    refine wpAny_pure ⟨_, rfl, .ref h'.objs.size, upd H h'.objs.size (.lst (srtV vs ds)), I1.laid (t' := s.toks) (fun b u e => ?_) (Nat.le_refl _) ⟨hlen, out, e', rs, he'⟩, rfl, q _ (I1.hok.fresh (Nat.le_refl _))⟩
    have hb : b < h'.objs.size := Heap.lt_size e
    exact (PyProof.Rows.sortedHeap_old (Nat.ne_of_lt hb) (by rw [Heap.size_push]; exact Nat.lt_succ_of_lt hb)).trans (Heap.get?_push_of_some _ e)
def leD (a b : D) : Bool := PySem.W.dataLe false py a b
def srt (ds : List D) : List D := ds.mergeSort leD
section
variable {K : KW}
theorem reps_zip {G : Hp} : ∀ {vs : List V} {ds : List D}, Reps K G vs ds → ∀ z ∈ vs.zip ds, Rep K G z.1 z.2
  | _, _, .nil, z, h => by simp at h
  | _, _, .cons r t, z, h => by
    rcases List.mem_cons.mp h with rfl | h
    · exact r
    · exact reps_zip t z h
theorem reps_of {G : Hp} : ∀ {zs : List (V × D)}, (∀ z ∈ zs, Rep K G z.1 z.2) → Reps K G (zs.map (·.1)) (zs.map (·.2))
  | [], _ => .nil
  | z :: zs, h => .cons (h z List.mem_cons_self) (reps_of fun y hy => h y (List.mem_cons_of_mem _ hy))
theorem srt_reps {G : Hp} {vs : List V} {ds : List D} (r : Reps K G vs ds) : Reps K G (srtV vs (pys ds)) (srt ds) := by
  have hl : vs.length = ds.length := r.length
  have e1 : vs.zip (pys ds) = (vs.zip ds).map (fun z => (z.1, py z.2)) := by
    rw [pys_map, List.zip_map_right]; rfl
  have e2 : ds = (vs.zip ds).map (·.2) := (List.map_snd_zip (by omega)).symm
  have e3 : srtV vs (pys ds) = ((vs.zip ds).mergeSort (fun a b => leD a.2 b.2)).map (·.1) := by
    unfold srtV
    rw [e1, ← List.map_mergeSort (r := fun a b : V × D => leD a.2 b.2) (f := fun z : V × D => (z.1, py z.2)) (fun a _ b _ => rfl), List.map_map]
    rfl
  have e4 : srt ds = ((vs.zip ds).mergeSort (fun a b => leD a.2 b.2)).map (·.2) := by
    unfold srt
    conv => lhs; rw [e2]
    rw [← List.map_mergeSort (r := fun a b : V × D => leD a.2 b.2) (fun a _ b _ => rfl)]
  rw [e3, e4]
  exact reps_of fun z hz => reps_zip r z (List.mem_mergeSort.mp hz)

end
end FL

set_option Elab.async false
set_option linter.all false
set_option maxRecDepth 100000
set_option maxHeartbeats 4000000
namespace FL
open PySem PySem.Spec PyProof.Rows L2
/-! ### sorted, by insertion -/
def insD (a : D) : List D → List D
  | [] => [a]
  | b :: r => match leD a b with
    | true => a :: b :: r
    | false => b :: insD a r
def srtI : List D → List D
  | [] => []
  | a :: r => insD a (srtI r)
theorem leD_tot : PySem.W.TotalLe leD := PySem.W.sortLe_total _ false _
theorem leD_total (a b : D) : (leD a b || leD b a) = true := by
  rw [Bool.or_eq_true]
  exact leD_tot.total a b
theorem leD_trans (a b c : D) (h : leD a b = true) (k : leD b c = true) : leD a c = true := leD_tot.trans a b c h k
theorem insD_eq {a : D} : ∀ {l1 l2 : List D}, (∀ b ∈ l1, leD a b = false) → (∀ c ∈ l2.head?, leD a c = true) → insD a (l1 ++ l2) = l1 ++ a :: l2
  | [], [], _, _ => rfl
  | [], c :: l2, _, h => by
    show (match leD a c with | true => a :: c :: l2 | false => c :: insD a l2) = _
    rw [h c (by simp)]
    rfl
  | b :: l1, l2, h, k => by
    show (match leD a b with | true => a :: b :: (l1 ++ l2) | false => b :: insD a (l1 ++ l2)) = _
    rw [h b List.mem_cons_self]
    show b :: insD a (l1 ++ l2) = _
    rw [insD_eq (fun c hc => h c (List.mem_cons_of_mem _ hc)) k]
    rfl
theorem srtI_eq : ∀ ds : List D, srtI ds = srt ds
  | [] => by simp [srtI, srt]
  | a :: r => by
    obtain ⟨l1, l2, e1, e2, h⟩ := List.mergeSort_cons (le := leD) leD_trans leD_total a r
    have s := List.pairwise_mergeSort (le := leD) leD_trans leD_total (a :: r)
    rw [srtI, srtI_eq r]
    unfold srt
    rw [e1, e2]
    rw [e1] at s
    refine insD_eq (fun b hb => by simpa using h b hb) fun c hc => ?_
    have s2 := (List.pairwise_append.mp s).2.1
    cases l2 with
    | nil => simp at hc
    | cons d l2 =>
      simp at hc
      subst hc
      exact (List.pairwise_cons.mp s2).1 d List.mem_cons_self
def allAlikeB (ds : List D) : Bool := ds.all fun a => ds.all fun b => PySem.W.alike (py a) (py b)
def tup1 : D → Bool
  | .tup (_ :: _) => true
  | _ => false
def noTup : D → Bool
  | .tup _ => false
  | .non => false
  | _ => true
def depB (ds : List D) : Bool := ds.all fun d => Nat.ble (py d).depth 50
def sortB (ds : List D) : Bool := pls ds && (allAlikeB ds && ((ds.all tup1 || ds.all noTup) && depB ds))
theorem mem_pys {d : PyData} {ds : List D} (h : d ∈ pys ds) : ∃ x ∈ ds, d = py x := by
  rw [pys_map] at h
  obtain ⟨x, hx, rfl⟩ := List.mem_map.mp h
  exact ⟨x, hx, rfl⟩
theorem sortB_of {ds : List D} (h : sortB ds = true) : pls ds = true ∧ PySem.W.AllAlike (pys ds) ∧ PySem.W.Sortable (pys ds) ∧ ∀ x ∈ pys ds, x.depth ≤ 50 := by
  unfold sortB at h
  simp only [Bool.and_eq_true, Bool.or_eq_true] at h
  obtain ⟨h1, h2, h3, h4⟩ := h
  refine ⟨h1, fun d hd d' hd' => ?_, ?_, fun d hd => ?_⟩
  · obtain ⟨x, hx, rfl⟩ := mem_pys hd
    obtain ⟨y, hy, rfl⟩ := mem_pys hd'
    exact List.all_eq_true.mp (List.all_eq_true.mp h2 x hx) y hy
  · rcases h3 with h3 | h3
    · refine .inl fun d hd => ?_
      obtain ⟨x, hx, rfl⟩ := mem_pys hd
      have := List.all_eq_true.mp h3 x hx
      cases x with
      | tup xs => cases xs with
        | nil => cases this
        | cons a r => exact ⟨py a, pys r, by rw [show py (.tup (a :: r)) = PyData.tuple (pys (a :: r)) by rw [py], pys]⟩
      | _ => cases this
    · refine .inr fun d hd => ?_
      obtain ⟨x, hx, rfl⟩ := mem_pys hd
      have := List.all_eq_true.mp h3 x hx
      have hp : pl x = true := by
        rw [pls_all] at h1
        exact List.all_eq_true.mp h1 x hx
      cases x with
      | bl b => unfold py; exact ⟨fun z => (nomatch z), fun _ z => (nomatch z)⟩
      | int b => unfold py; exact ⟨fun z => (nomatch z), fun _ z => (nomatch z)⟩
      | str b => unfold py; exact ⟨fun z => (nomatch z), fun _ z => (nomatch z)⟩
      | lst b => unfold py; exact ⟨fun z => (nomatch z), fun _ z => (nomatch z)⟩
      | tup b => cases this
      | non => cases this
      | _ => cases hp
  · obtain ⟨x, hx, rfl⟩ := mem_pys hd
    exact Nat.le_of_ble_eq_true (List.all_eq_true.mp h4 x hx)
section
variable {X : Cx} {e ea eb ec : Expr} {es : List Expr} {p pos : Pos} {x : Str} {fa fb fc : Ev} {as : Ea}
def fSorted : List D → Option Res
  | [.lst ds] => br (sortB ds) (some (.lst (srtI ds))) none
  | [.tup ds] => br (sortB ds) (some (.lst (srtI ds))) none
  | _ => none
theorem vb_sorted (hu : X.A.units + 64 < cLine) : CbV X (.builtin "sorted") fSorted := fun {G H xs ds res R} v sm e r => by
  unfold fSorted at e
  split at e
  · obtain ⟨hb, e⟩ := br_some e
    cases e
    obtain ⟨h1, h2, h3, h4⟩ := sortB_of hb
    obtain ⟨u, rfl, v1⟩ := views1 v
    obtain ⟨p, vs, rfl, k1, k2⟩ := v1
    refine mCall_of (cr_sortedX hu) ⟨p, vs, _, rfl, .inl (.inl k1), dps_mono sm (k2.dp h1), h2, h3, h4, fun q hq => r q _ hq ?_⟩
    rw [srtI_eq]
    exact srt_reps k2
  · obtain ⟨hb, e⟩ := br_some e
    cases e
    obtain ⟨h1, h2, h3, h4⟩ := sortB_of hb
    obtain ⟨u, rfl, v1⟩ := views1 v
    have v2 : Rep (kw X) G u _ := v1
    obtain ⟨p, vs, rfl, k1, k2⟩ := rep_tup v2
    refine mCall_of (cr_sortedX hu) ⟨p, vs, _, rfl, .inr (ex_t sm k1), dps_mono sm (k2.dp h1), h2, h3, h4, fun q hq => r q _ hq ?_⟩
    rw [srtI_eq]
    exact srt_reps k2
  · cases e
end
/-! ### repr -/
def rRepr (K : PySem.W.Frag) : List V → Hp → VK → Prop := fun xs H Q => ∃ (a : Addr) (d : PyData), xs = [.ref a] ∧ Dp K H (.ref a) d ∧ d.showable = true ∧ d.hasDict = false ∧ d.depth ≤ 50 ∧ d.shown.length ≤ sizeLine ∧ Q (.str d.shown) H
theorem call_repr {X : Cx} {K : PySem.W.Frag} (e : X.K = K) (hg : X.A.guards = some []) (hu : X.A.units + 64 < cLine) : CallR X (.builtin "repr") (rRepr K) := by
  subst e
  intro pins s σ H xs us Q I r h
  obtain ⟨a, d, rfl, hd, h1, h2, h3, h4, q⟩ := h
  obtain ⟨u, rfl, rx⟩ := vals1 r
  obtain rfl : u = Value.ref a := rx
  obtain ⟨as, rd⟩ := Dp.reads I _ _ _ hd rfl
  refine repr_of_reads' rd h1 (fun z => by rw [h2] at z; cases z) hg (by omega) (fun _ _ z => z) (fun h' u tk hk => ?_) h4
  exact ⟨.str _, H, I.kept hk, ⟨_, rfl⟩, q⟩
theorem call_reprB {X : Cx} : CallR X (.builtin "repr") (fun xs H Q => ∃ b, xs = [.bl b] ∧ Q (.str (if b then "True" else "False")) H) := by
  intro pins s σ H xs us Q I r h
  obtain ⟨b, rfl, q⟩ := h
  obtain ⟨u, rfl, rx⟩ := vals1 r
  obtain rfl : u = Value.bool b := rx
  exact PySem.P.repr_of_bool ⟨.str _, H, I.tok _, ⟨_, rfl⟩, q⟩

def reprB (d : D) : Bool := pl d && ((py d).showable && (!(py d).hasDict && (Nat.ble (py d).depth 50 && szB (py d).shown.length)))
theorem reprB_of {d : D} (h : reprB d = true) : pl d = true ∧ (py d).showable = true ∧ (py d).hasDict = false ∧ (py d).depth ≤ 50 ∧ (py d).shown.length ≤ sizeLine := by
  unfold reprB at h
  simp only [Bool.and_eq_true, Bool.not_eq_true'] at h
  exact ⟨h.1, h.2.1, h.2.2.1, Nat.le_of_ble_eq_true h.2.2.2.1, szB_le h.2.2.2.2⟩
def fRepr : List D → Option Res
  | [.bl b] => some (.val (.str (if b then "True" else "False")))
  | [.lst ds] => br (reprB (.lst ds)) (some (.val (.str (py (.lst ds)).shown))) none
  | [.tup ds] => br (reprB (.tup ds)) (some (.val (.str (py (.tup ds)).shown))) none
  | _ => none
section
variable {X : Cx} {e ea eb ec : Expr} {es : List Expr} {p pos : Pos} {x : Str} {fa fb fc : Ev} {as : Ea}
theorem vb_repr (hg : X.A.guards = some []) (hu : X.A.units + 64 < cLine) : CbV X (.builtin "repr") fRepr := fun {G H xs ds res R} v sm e r => by
  unfold fRepr at e
  split at e
  · cases e
    obtain ⟨u, rfl, v1⟩ := views1 v
    rw [view_bl v1]
    exact mCall_of call_reprB ⟨_, rfl, r _ (.str _)⟩
  · obtain ⟨hb, e⟩ := br_some e
    cases e
    obtain ⟨h1, h2, h3, h4, h5⟩ := reprB_of hb
    obtain ⟨u, rfl, v1⟩ := views1 v
    have z := v1.rep sm
    obtain ⟨p, vs, rfl, k1, k2⟩ := v1
    exact mCall_of (call_repr (K := X.K) rfl hg hu) ⟨p, _, rfl, z.dp h1, h2, h3, h4, h5, r _ (.str _)⟩
  · obtain ⟨hb, e⟩ := br_some e
    cases e
    obtain ⟨h1, h2, h3, h4, h5⟩ := reprB_of hb
    obtain ⟨u, rfl, v1⟩ := views1 v
    have z := v1.rep sm
    have v2 : Rep (kw X) G u _ := v1
    obtain ⟨p, vs, rfl, k1, k2⟩ := rep_tup v2
    exact mCall_of (call_repr (K := X.K) rfl hg hu) ⟨p, _, rfl, z.dp h1, h2, h3, h4, h5, r _ (.str _)⟩
  · cases e
/-! ### - x, chains -/
def eNeg (a : Ev) : Ev := fun L env => bnd (a L env) fun L1 x => bnd (opt L1 (intOf x)) fun L1 i => some (.val L1 (.d (.int (-i))))
theorem re_neg (a : RE X ea fa) : RE X (.UnaryOp .USub ea pos) (eNeg fa) :=
  ⟨fun {L env Q Ex} h {W B T G σ H R F} hn tk o n xc => mE_of (pe_un un_neg pe_max) (a.ok (post_bnd h) hn tk o (fun T1 L1 G1 H1 v x q t1 o1 => by
    obtain ⟨i, hi, q⟩ := post_bopt q
    exact ⟨i, int_of o1.f.2 hi, n T1 L1 G1 H1 _ _ q t1 ((o1.drop o.st).push (stab_drep _ _) (.d (.int _)))⟩) xc)⟩
def eChain (g g' : Int → Int → Bool) (a b c : Ev) : Ev := fun L env => bnd (a L env) fun L1 x => bnd (b L1 env) fun L2 y => bnd (opt L2 (int2 [x, y])) fun L2 ij => br (g ij.1 ij.2) (bnd (c L2 env) fun L3 z => bnd (opt L3 (int2 [y, z])) fun L3 jk => some (.val L3 (.d (.bl (g' jk.1 jk.2))))) (some (.val L2 (.d (.bl false))))
theorem re_chain {op op' : CmpOp} {g g' : Int → Int → Bool} (h1 : OpR X (compareOp op) (rI0 fun i j => .bl (g i j))) (h2 : OpR X (compareOp op') (rI0 fun i j => .bl (g' i j))) (a : RE X ea fa) (b : RE X eb fb) (c : RE X ec fc) (hm : lastMarks [op, op'] [eb, ec] = false := by with_unfolding_all rfl) : RE X (.Compare ea [op, op'] [eb, ec] pos) (eChain g g' fa fb fc) :=
  ⟨fun {L env Q Ex} h {W B T G σ H R F} hn tk o n xc => mE_of (pe_chain h1 h2 pe_max pe_max pe_max hm) (a.ok (post_bnd h) hn tk o (fun T1 L1 G1 H1 v x q1 t1 o1 => b.ok (post_bnd q1) hn tk o1 (fun T2 L2 G2 H2 u y q2 t2 o2 => by
    obtain ⟨⟨i, j⟩, hij, q2⟩ := post_bopt q2
    have rx := (o2.f.1.2 : DRep (kw X) T1 G2 v x).mono (Sm.refl _) t2
    have ry : DRep (kw X) T2 G2 u y := o2.f.2
    have e := int2_of (DReps.cons rx (.cons ry .nil)) hij
    obtain ⟨rfl, rfl⟩ : v = .int i ∧ u = .int j := by simpa using e
    have o3 := o2.as o.st o2.f.1.1
    have n3 := n.on (t1.trans t2)
    refine ⟨i, j, rfl, rfl, g i j, rfl, ?_⟩
    have q2' : post (br (g i j) (bnd (fc L2 env) fun L3 z => bnd (opt L3 (int2 [y, z])) fun L3 jk => some (.val L3 (.d (.bl (g' jk.1 jk.2))))) (some (.val L2 (.d (.bl false))))) Q Ex := q2
    clear q2
    generalize g i j = bb at q2'
    cases bb with
    | false => exact n3.d o3 q2' (.bl _)
    | true =>
      refine c.ok (post_bnd q2') hn tk (o3.push (stab_drep (.int j) y) ry) (fun T4 L4 G4 H4 z' z q4 t4 o4 => ?_) ((xc.on (t1.trans t2)).more (List.prefix_refl _) o.st)
      obtain ⟨⟨j', k⟩, hjk, q4⟩ := post_bopt q4
      have e4 := int2_of (DReps.cons ((o4.f.1.2 : DRep (kw X) T2 G4 (.int j) y).mono (Sm.refl _) t4) (.cons o4.f.2 .nil)) hjk
      obtain ⟨e5, rfl⟩ : V.int j = .int j' ∧ z' = .int k := by simpa using e4
      cases e5
      exact ⟨j, k, rfl, rfl, n3 T4 L4 G4 H4 _ _ q4 t4 ((o4.as o.st o4.f.1.1).push (stab_drep _ _) (.d (.bl _)))⟩) (xc.more t1 o.st)) xc)⟩
end
end FL

set_option Elab.async false
set_option linter.all false
set_option maxRecDepth 100000
set_option maxHeartbeats 4000000
namespace FL
open PySem PySem.Spec PyProof.Rows L2
/-! ### isinstance -/
def tyN : D → Option String
  | .non => some "NoneType"
  | .bl _ => some "bool"
  | .int _ => some "int"
  | .str _ => some "str"
  | .lst _ => some "list"
  | .tup _ => some "tuple"
  | .dct _ => some "dict"
  | _ => none
/-- what isinstance asks of a class of the program -/
structure IsC (K : PySem.W.Frag) (C : Addr) : Prop where
  cl : Cls K C
  ha : PySem.W.findIn K (.ref C) "__class__" = some (some (.builtin "object.__class__"))
  hn : PySem.W.specialIn K (.builtin "object.__class__") "__get__" = some (some (.builtin "getset_descriptor.__get__"))
  htk : PySem.W.takesIn K (.builtin "object.__class__") = some true
  hm : PySem.W.mroIn K C (.type "object") = some true

section
variable {X : Cx} {pins : List (Addr × Obj)} {σ : L2.St} {G H : Hp} {s : Shared}
theorem kit_view {x : V} {u : Value} {d : D} {t : String} (I : Inv X pins σ H s) (sm : Sm G H) (vw : View (kw X) G H x d) (rx : RelV x u) (ht : tyN d = some t) : ∃ P : Heap → Prop, PySem.W.KitX X.K u (.type t) P ∧ P s.heap ∧ u ≠ .builtin "__main__.__loader__#opaque" := by
  cases d with
  | non => cases ht; rw [view_non vw] at rx; exact kit_of I rx (.base .non)
  | bl b => cases ht; rw [view_bl vw] at rx; exact kit_of I rx (.base (.bl b))
  | int b => cases ht; rw [view_int vw] at rx; exact kit_of I rx (.base (.int b))
  | str b => cases ht; rw [view_str vw] at rx; exact kit_of I rx (.base (.str b))
  | lst ds =>
    cases ht
    obtain ⟨a, vs, rfl, h1, _⟩ := vw
    rcases h1 with h | ⟨o, h⟩
    · exact kit_of I rx (.base (.lst h))
    · exact kit_of I rx (.base (.frz h))
  | tup ds =>
    cases ht
    have vw : Rep (kw X) G x _ := vw
    obtain ⟨a, vs, rfl, h1, _⟩ := rep_tup vw
    rcases ex_t sm h1 with (h | ⟨o, h⟩) | ⟨o, its, n, h1, h2, _⟩
    · exact kit_of I rx (.base (.tup h))
    · exact kit_of I rx (.fTuple h)
    · exact kit_of I rx (.kTuple h1 h2)
  | dct ds =>
    cases ht
    obtain ⟨a, us, rfl, dv, _⟩ := vw
    cases (show u = Value.ref a from rx)
    obtain ⟨o, h1, h2⟩ := dv_type I dv
    exact ⟨_, PySem.W.kitx_dict, ⟨o, h1, h2⟩, fun z => nomatch z⟩
  | _ => cases ht
theorem kit_obj {x : V} {u : Value} {C : Str} {fs : List (Str × D)} (I : Inv X pins σ H s) (vw : View (kw X) G H x (.obj C fs)) (rx : RelV x u) (z : IsC X.K (He.ga X.K C)) : ∃ P : Heap → Prop, PySem.W.KitX X.K u (.ref (He.ga X.K C)) P ∧ P s.heap ∧ u ≠ .builtin "__main__.__loader__#opaque" := by
  obtain ⟨a, dx, us, rfl, h1, _⟩ := vw
  exact kit_of I rx (.base (.ins h1 z.cl z.ha z.hn z.htk z.hm))
end
/-- is a built-in type t one of T -/
def subT (t T : String) : Bool := decide (t = T) || (decide (t = "bool") && decide (T = "int"))
def tyOk (T : String) : Bool := decide (T = "str") || decide (T = "int") || decide (T = "bool") || decide (T = "tuple") || decide (T = "list") || decide (T = "dict")
theorem kit_ok {K : PySem.W.Frag} {d : D} {t T : String} (h : tyN d = some t) (hT : tyOk T = true) : PySem.W.kitOne K (.type t) (.type T) = some (subT t T) := by
  unfold tyOk at hT
  simp only [Bool.or_eq_true, decide_eq_true_eq] at hT
  rcases hT with ((((rfl | rfl) | rfl) | rfl) | rfl) | rfl <;> cases d <;> first | (cases h; done) | (cases h; exact kit_ty (r := true) (by decide +kernel)) | (cases h; exact kit_ty (r := false) (by decide +kernel))
/-- what isinstance asks of an own class, Cs the own classes of values -/
structure IsiOk (K : PySem.W.Frag) (Cs : List Str) (C : Str) : Prop where
  isC : ∀ C0 ∈ Cs, IsC K (He.ga K C0)
  own : ∀ C0 ∈ Cs, PySem.W.kitOne K (.ref (He.ga K C0)) (.ref (He.ga K C)) = some (sEq C0 C)
  blt : ∀ T ∈ ["NoneType", "bool", "int", "str", "list", "tuple", "dict"], PySem.W.kitOne K (.type T) (.ref (He.ga K C)) = some false
structure IsiTy (K : PySem.W.Frag) (Cs : List Str) (T : String) : Prop where
  isC : ∀ C0 ∈ Cs, IsC K (He.ga K C0)
  ty : ∀ C0 ∈ Cs, PySem.W.kitOne K (.ref (He.ga K C0)) (.type T) = some false
def memS (C : Str) : List Str → Bool
  | [] => false
  | a :: r => sEq a C || memS C r
theorem memS_of {C : Str} : ∀ {Cs : List Str}, memS C Cs = true → C ∈ Cs
  | [], h => by cases h
  | a :: r, h => by
    simp only [memS, Bool.or_eq_true] at h
    rcases h with h | h
    · rw [of_decide_eq_true h]; exact List.mem_cons_self
    · exact List.mem_cons_of_mem _ (memS_of h)
def fIsiC (Cs : List Str) (C : Str) (d : D) : Option Bool := match tyN d with
  | some _ => some false
  | none => match d with
    | .obj C0 _ => br (memS C0 Cs) (some (sEq C0 C)) none
    | _ => none
def fIsiT (Cs : List Str) (T : String) (d : D) : Option Bool := match tyN d with
  | some t => some (subT t T)
  | none => match d with
    | .obj C0 _ => br (memS C0 Cs) (some false) none
    | _ => none
def sOf : Option Bool → Option Res
  | some b => some (.val (.bl b))
  | none => none
def fIsi (Cs : List Str) : List D → Option Res
  | [d, .ty T] => sOf (fIsiT Cs T d)
  | [d, .cn C] => sOf (fIsiC Cs C d)
  | [d, .tup [.ty T, .ty T']] => match fIsiT Cs T d, fIsiT Cs T' d with
    | some a, some b => some (.val (.bl (a || b)))
    | _, _ => none
  | _ => none
theorem tyN_mem {d : D} {t : String} (h : tyN d = some t) : t ∈ ["NoneType", "bool", "int", "str", "list", "tuple", "dict"] := by
  cases d <;> cases h <;> decide
section
variable {X : Cx} {e ea eb ec : Expr} {es : List Expr} {p pos : Pos} {x : Str} {fa fb fc : Ev} {as : Ea} {Cs : List Str}
theorem view_cn {K : KW} {G H : Hp} {v : V} {C : Str} (r : View K G H v (.cn C)) : v = .ref (ga K C) := by
  have r : Rep K G v (.cn C) := r
  cases r; rfl
theorem view_ty {K : KW} {G H : Hp} {v : V} {C : String} (r : View K G H v (.ty C)) : v = .ty C := by
  have r : Rep K G v (.ty C) := r
  cases r; rfl
/-- all that isinstance may be asked by in the program: types Ts, own classes Ds -/
structure Isi (K : PySem.W.Frag) (Cs Ds : List Str) : Prop where
  ty : ∀ T, tyOk T = true → IsiTy K Cs T
  cn : ∀ C ∈ Ds, IsiOk K Cs C
def fIsi2 (Cs Ds : List Str) : List D → Option Res
  | [d, .ty T] => br (tyOk T) (sOf (fIsiT Cs T d)) none
  | [d, .cn C] => br (memS C Ds) (sOf (fIsiC Cs C d)) none
  | [d, .tup [.ty T, .ty T']] => br (tyOk T && tyOk T') (match fIsiT Cs T d, fIsiT Cs T' d with
    | some a, some b => some (.val (.bl (a || b)))
    | _, _ => none) none
  | _ => none
theorem isiT_kit2 {pins : List (Addr × Obj)} {σ : L2.St} {G H : Hp} {s : Shared} {v : V} {u : Value} {d : D} {T T' : String} {b b' : Bool} (z : IsiTy X.K Cs T) (z' : IsiTy X.K Cs T') (hT : tyOk T = true) (hT' : tyOk T' = true) (I : Inv X pins σ H s) (sm : Sm G H) (vw : View (kw X) G H v d) (rx : RelV v u) (h : fIsiT Cs T d = some b) (h' : fIsiT Cs T' d = some b') :
    ∃ (t : Value) (P : Heap → Prop), PySem.W.KitX X.K u t P ∧ P s.heap ∧ u ≠ .builtin "__main__.__loader__#opaque" ∧ PySem.W.kitOne X.K t (.type T) = some b ∧ PySem.W.kitOne X.K t (.type T') = some b' := by
  unfold fIsiT at h h'
  cases ht : tyN d with
  | some t =>
    rw [ht] at h h'
    cases h
    cases h'
    obtain ⟨P, k1, k2, k3⟩ := kit_view I sm vw rx ht
    exact ⟨_, P, k1, k2, k3, kit_ok ht hT, kit_ok ht hT'⟩
  | none =>
    rw [ht] at h h'
    cases d with
    | obj C0 fs =>
      obtain ⟨hm, h⟩ := br_some (show br (memS C0 Cs) (some false) none = some b from h)
      obtain ⟨_, h'⟩ := br_some (show br (memS C0 Cs) (some false) none = some b' from h')
      cases h
      cases h'
      have hm := memS_of hm
      obtain ⟨P, k1, k2, k3⟩ := kit_obj I vw rx (z.isC C0 hm)
      exact ⟨_, P, k1, k2, k3, z.ty C0 hm, z'.ty C0 hm⟩
    | _ => cases h
theorem isiC_kit {pins : List (Addr × Obj)} {σ : L2.St} {G H : Hp} {s : Shared} {v : V} {u : Value} {d : D} {C : Str} {b : Bool} (z : IsiOk X.K Cs C) (I : Inv X pins σ H s) (sm : Sm G H) (vw : View (kw X) G H v d) (rx : RelV v u) (h : fIsiC Cs C d = some b) :
    ∃ (t : Value) (P : Heap → Prop), PySem.W.KitX X.K u t P ∧ P s.heap ∧ u ≠ .builtin "__main__.__loader__#opaque" ∧ PySem.W.kitOne X.K t (.ref (He.ga X.K C)) = some b := by
  unfold fIsiC at h
  cases ht : tyN d with
  | some t =>
    rw [ht] at h
    cases h
    obtain ⟨P, k1, k2, k3⟩ := kit_view I sm vw rx ht
    exact ⟨_, P, k1, k2, k3, z.blt t (tyN_mem ht)⟩
  | none =>
    rw [ht] at h
    cases d with
    | obj C0 fs =>
      obtain ⟨hm, h⟩ := br_some (show br (memS C0 Cs) (some (sEq C0 C)) none = some b from h)
      cases h
      have hm := memS_of hm
      obtain ⟨P, k1, k2, k3⟩ := kit_obj I vw rx (z.isC C0 hm)
      exact ⟨_, P, k1, k2, k3, z.own C0 hm⟩
    | _ => cases h
theorem vb_isinstance {Ds : List Str} (z : Isi X.K Cs Ds) : CbV X (.builtin "isinstance") (fIsi2 Cs Ds) := fun {G H xs ds res R} v sm e r => by
  unfold fIsi2 at e
  split at e
  · rename_i d T
    obtain ⟨hT, e⟩ := br_some e
    cases hb : fIsiT Cs T d with
    | none => rw [hb] at e; cases e
    | some b =>
      rw [hb] at e
      cases e
      obtain ⟨u, u', rfl, v1, v2⟩ := views2 v
      intro pins s σ us I rv
      obtain ⟨w1, w2, rfl, r1, r2⟩ := vals2 rv
      rw [view_ty v2] at r2
      cases (show w2 = Value.type T from r2)
      obtain ⟨t, P, k1, k2, k3, k4, _⟩ := isiT_kit2 (z.ty T hT) (z.ty T hT) hT hT I sm v1 r1 hb hb
      exact PySem.W.kia_one k1 I.kIn k2 k4 k3 fun tk => ⟨.bl b, H, I.tok tk, rfl, r _ (.bl _)⟩
  · rename_i d C
    obtain ⟨hC, e⟩ := br_some e
    cases hb : fIsiC Cs C d with
    | none => rw [hb] at e; cases e
    | some b =>
      rw [hb] at e
      cases e
      obtain ⟨u, u', rfl, v1, v2⟩ := views2 v
      intro pins s σ us I rv
      obtain ⟨w1, w2, rfl, r1, r2⟩ := vals2 rv
      rw [view_cn v2] at r2
      cases (show w2 = Value.ref (He.ga X.K C) from r2)
      obtain ⟨t, P, k1, k2, k3, k4⟩ := isiC_kit (z.cn C (memS_of hC)) I sm v1 r1 hb
      exact PySem.W.kia_one k1 I.kIn k2 k4 k3 fun tk => ⟨.bl b, H, I.tok tk, rfl, r _ (.bl _)⟩
  · rename_i d T T'
    obtain ⟨hT, e⟩ := br_some e
    rw [Bool.and_eq_true] at hT
    split at e
    · rename_i a b ha hb
      cases e
      obtain ⟨u, u', rfl, v1, v2⟩ := views2 v
      have v2 : Rep (kw X) G u' _ := v2
      obtain ⟨tp, ws, rfl, g1, g2⟩ := rep_tup v2
      have ev : ws = [.ty T, .ty T'] := by
        cases g2 with
        | cons a b => cases b with
          | cons b c => cases c; cases a; cases b; rfl
      subst ev
      intro pins s σ us I rv
      obtain ⟨w1, w2, rfl, r1, r2⟩ := vals2 rv
      cases (show w2 = Value.ref tp from r2)
      obtain ⟨t, P, k1, k2, k3, k4, k6⟩ := isiT_kit2 (z.ty T hT.1) (z.ty T' hT.2) hT.1 hT.2 I sm v1 r1 ha hb
      have k5 : PySem.W.kitAny X.K t [.type T, .type T'] = some (a || b) := by
        refine kitAny_cons k4 (fun ha => kitAny_cons k6 (fun hb => ?_) (fun hb => ?_)) (fun ha => ?_)
        · rw [ha, hb]; rfl
        · rw [ha, hb]; rfl
        · rw [ha]; rfl
      obtain ⟨its, rv', ⟨o, h1, h2, n, h3⟩, _⟩ := I.tuple (ex_t sm g1)
      obtain rfl := ClsV.all (.cons (.ty T) (.cons (.ty T') .nil)) rv'
      obtain ⟨oc, od, dt, sl⟩ := o
      simp only at h2 h3
      subst h2 h3
      exact PySem.W.kia_tup k1 I.kIn k2 h1 k5 k3 fun tk => ⟨.bl _, H, I.tok tk, rfl, r _ (.bl _)⟩
    · cases e
  · cases e
/-- a class as a value -/
theorem re_tyV {T : String} (pe : PE X e (tC (.ty T))) : RE X e (eCst (.ty T)) := re_cst pe fun _ => .ty T
theorem re_cn {C : Str} (hm : X.mg C = some (.ref (He.ga X.K C))) (hg : Gl X C) (hd : (C == ("__debug__" : Str)) = false := by decide) : RE X (.Name C p) (eCst (.cn C)) := re_cst (pe_glob (v := .ref (He.ga X.K C)) hg hm rfl hd) fun _ => .cn C
end
end FL

set_option Elab.async false
set_option linter.all false
set_option maxRecDepth 100000
set_option maxHeartbeats 4000000
namespace FL
open PySem PySem.Spec PyProof.Rows L2
/-! ### either of two rules -/
def eAlt (a b : Ev) : Ev := fun L env => match a L env with
  | some o => some o
  | none => b L env
theorem re_alt {X : Cx} {e : Expr} {a b : Ev} (ra : RE X e a) (rb : RE X e b) : RE X e (eAlt a b) :=
  ⟨fun {L env Q Ex} h => by
    unfold eAlt at h
    cases q : a L env with
    | some o => rw [q] at h; exact ra.ok (by rw [q]; exact h)
    | none => rw [q] at h; exact rb.ok h⟩
/-! ### calls with keywords and defaults -/
def pk {α : Type} : List Nat → List α → List α
  | [], _ => []
  | i :: is, xs => match xs[i]? with
    | some x => x :: pk is xs
    | none => pk is xs
theorem reps_pk {K : KW} {T : Tb} {G : Hp} {vs : List V} {xs : List DV} (r : DReps K T G vs xs) : ∀ is, DReps K T G (pk is vs) (pk is xs)
  | [] => .nil
  | i :: is => by
    unfold pk
    cases h : xs[i]? with
    | none =>
      have hv : vs[i]? = none := by
        have := r.length
        rw [List.getElem?_eq_none_iff] at h ⊢; omega
      rw [hv]; exact reps_pk r is
    | some x =>
      obtain ⟨v, hv, rv⟩ := r.get h
      rw [hv]; exact .cons rv (reps_pk r is)
theorem vals_pk {vs : List V} {us : List Value} (r : Vals vs us) : ∀ is, Vals (pk is vs) (pk is us)
  | [] => .nil
  | i :: is => by
    unfold pk
    cases h : vs[i]? with
    | none =>
      have hv : us[i]? = none := by
        have := r.length
        rw [List.getElem?_eq_none_iff] at h ⊢; omega
      rw [hv]; exact vals_pk r is
    | some x =>
      obtain ⟨u, hv, rv⟩ := r.get h
      rw [hv]; exact .cons rv (vals_pk r is)
def BindG (K : PySem.W.Frag) (fd : FuncData) (ps : List Str) (n : Nat) (ks : List Str) (sel : List Nat) (dvs : List V) : Prop :=
  ∃ ds, Vals dvs ds ∧ ∀ (s : Shared) (us ws : List Value), K.In s.heap → us.length = n → ws.length = ks.length → BindsTo s fd ⟨us, ks.zip ws⟩ (ps.zip (pk sel (us ++ (ws ++ ds))))
/-- the defaults as data -/
def DflIs (K : KW) (dvs : List V) (dds : List D) : Prop := ∀ G, Reps K G dvs dds
def mK (X : Cx) (kws : List Keyword) : TA := fun σ H R => ∀ pos pins s, Inv X pins σ H s → wpAny (model X.prog X.w) X.A (evalAll ((backToKw pos (keywordEach kws X.env)).map (·.2))) (AP X pins σ R) X.xe s
structure RK (X : Cx) (kws : List Keyword) (ev : Ea) : Prop where
  ok : ∀ {L env Q Ex}, post (ev L env) Q Ex → ∀ {W B T G σ H R F}, B.n = X.N.length → Takes X W → OkF (kw X) B T L G σ H env F → NrmA (kw X) B T σ env F Q R → Xc (kw X) B T σ env F Ex W → mK X kws σ H R
section
variable {X : Cx} {k k' n : Nat} {nm : Str} {ps ks : List Str} {m : Fn} {bs : List Bool} {p pos kpos apos : Pos} {e eo : Expr} {es : List Expr} {as ka : Ea} {fa fo : Ev} {kws : List Keyword} {sel : List Nat} {dvs : List V} {dds : List D} {ko : Option Str}
theorem rk_nil : RK X [] aNil := ⟨fun {L env Q Ex} h {W B T G σ H R F} hn tk o n xc pos pins s I => wpAny_evalAll_nil ⟨[], H, I, .nil, n T L G H [] [] h (List.prefix_refl _) (o.push (stab_dreps _ _) .nil)⟩⟩
theorem rk_cons (a : RE X e fa) (b : RK X kws ka) : RK X (⟨ko, e, kpos⟩ :: kws) (aCons fa ka) :=
  ⟨fun {L env Q Ex} h {W B T G σ H R F} hn tk o n xc pos pins s I => by
    show wpAny _ _ (evalAll ((do let v ← eval e X.env; standAt pos; pure v) :: (backToKw pos (keywordEach kws X.env)).map (·.2))) _ _ s
    refine wpAny_evalAll_cons (wpAny_bind (thn (a.ok (R := fun v H1 => mK X kws σ H1 fun vs H2 => R (v :: vs) H2) (post_bnd h) hn tk o (fun T1 L1 G1 H1 v x q1 t1 o1 => ?_) xc pins s I) fun u s1 ⟨x, H1, I1, r1, q1⟩ => wpAny_bind (wpAny_standAt (wpAny_pure ?_))))
    · exact b.ok (post_bnd q1) hn tk o1 (fun T2 L2 G2 H2 vs xs q2 t2 o2 => n T2 L2 G2 H2 (v :: vs) (x :: xs) q2 (t1.trans t2) (o2.as (stab_and o.st (stab_dreps _ _)) ⟨o2.f.1.1, .cons (DRep.mono (Sm.refl _) t2 o2.f.1.2) o2.f.2⟩)) (xc.more t1 o.st)
    · exact thn (q1 pos pins s1 I1) fun us s2 ⟨xs, H2, I2, r2, q2⟩ => ⟨x :: xs, H2, I2, .cons r1 r2, q2⟩⟩
/-- the arguments of a call -/
def aGo (as ka : Ea) : OL → VEnv → Mo (List DV × List DV) := fun L env => bnd (as L env) fun L1 xs => bnd (ka L1 env) fun L2 ys => some (.val L2 (xs, ys))
structure ShapeG (X : Cx) (es : List Expr) (kws : List Keyword) (ks : List Str) (pos : Pos) (as ka : Ea) : Prop where
  ok : ∀ {L env} {Q : OL → List DV × List DV → Prop} {Ex}, post (aGo as ka L env) Q Ex → ∀ {W B T G σ H F} {R : List V → List V → Hp → Prop}, B.n = X.N.length → Takes X W → OkF (kw X) B T L G σ H env F →
    (∀ T' L' G' H' vs zs xs ys, Q L' (xs, ys) → T <+: T' → OkF (kw X) B T' L' G' σ H' env (fun G => F G ∧ DReps (kw X) T' G vs xs ∧ DReps (kw X) T' G zs ys) → R vs zs H') → Xc (kw X) B T σ env F Ex W →
    ∀ {f : Value} {frst : List Value} {Q' : Value → Shared → Prop} {pins s}, Inv X pins σ H s → PySem.W.keepIn X.K f = true →
      (∀ vs zs us ws H' s', Inv X pins σ H' s' → Vals vs us → Vals zs ws → R vs zs H' → wpAny (model X.prog X.w) X.A (call f (frst ++ us) (ks.zip ws)) Q' X.xe s') →
      wpAny (model X.prog X.w) X.A (callWith pos f frst (backTo pos (starEach es X.env)) (backToKw pos (keywordEach kws X.env))) Q' X.xe s
theorem shape_cons (a : RA X (e :: es) as) (b : RK X kws ka) (hall : (backToKw pos (keywordEach kws X.env)).all (·.1.isSome) = true := by rfl) (hks : (backToKw pos (keywordEach kws X.env)).filterMap (·.1) = ks := by rfl)
    (he : starEach (e :: es) X.env = (false, eval e X.env) :: starEach es X.env := by rfl) (hpl : ((backTo pos (starEach (e :: es) X.env)).any (·.1) || (backToKw pos (keywordEach kws X.env)).any (·.1.isNone)) = false := by rfl) : ShapeG X (e :: es) kws ks pos as ka :=
  ⟨fun {L env Q Ex} h {W B T G σ H F R} hn tk o n xc f frst Q' pins s I kp hc => by
    refine PySem.W.callWith_KW (h₀ := X.base) I.ok.mod.kin kp hall (thn (a.ok (R := fun vs H1 => mK X kws σ H1 fun zs H2 => R vs zs H2) (post_bnd h) hn tk o (fun T1 L1 G1 H1 vs xs q1 t1 o1 => ?_) xc pos pins s I) fun us s1 ⟨vs, H1, I1, r, q⟩ => ?_) hpl he
    · exact b.ok (post_bnd q1) hn tk o1 (fun T2 L2 G2 H2 zs ys q2 t2 o2 => n T2 L2 G2 H2 vs zs xs ys q2 (t1.trans t2) (o2.as (stab_and o.st (stab_and (stab_dreps _ _) (stab_dreps _ _))) ⟨o2.f.1.1, DReps.mono (Sm.refl _) t2 o2.f.1.2, o2.f.2⟩)) (xc.more t1 o.st)
    · refine thn (q pos pins s1 I1) fun ws s2 ⟨zs, H2, I2, rz, q2⟩ => ⟨I2.kIn, ?_⟩
      rw [hks]
      exact hc vs zs us ws H2 s2 I2 r rz q2⟩
theorem shape_nil (b : RK X kws ka) (hall : (backToKw pos (keywordEach kws X.env)).all (·.1.isSome) = true := by rfl) (hks : (backToKw pos (keywordEach kws X.env)).filterMap (·.1) = ks := by rfl)
    (hpl : ((backTo pos (starEach [] X.env)).any (·.1) || (backToKw pos (keywordEach kws X.env)).any (·.1.isNone)) = false := by rfl) : ShapeG X [] kws ks pos aNil ka :=
  ⟨fun {L env Q Ex} h {W B T G σ H F R} hn tk o n xc f frst Q' pins s I kp hc => by
    refine PySem.W.callWith_KW0 (h₀ := X.base) I.ok.mod.kin kp hall (thn (b.ok (L := L) (env := env) (Q := fun L ys => Q L ([], ys)) (Ex := Ex) (R := fun zs H2 => R [] zs H2) (post_bnd (k := fun L2 ys => some (.val L2 (([] : List DV), ys))) h) hn tk o (fun T1 L1 G1 H1 zs ys q1 t1 o1 => ?_) xc pos pins s I) fun ws s1 ⟨zs, H1, I1, rz, q⟩ => ⟨I1.kIn, ?_⟩) hpl
    · exact n T1 L1 G1 H1 [] zs [] ys q1 t1 (o1.as (stab_and o.st (stab_and (stab_dreps _ _) (stab_dreps _ _))) ⟨o1.f.1, .nil, o1.f.2⟩)
    · rw [hks]
      exact hc [] zs [] ws H1 s1 I1 .nil rz q⟩
/-- the values in the parameters' order -/
def ord (n k : Nat) (sel : List Nat) (dds : List D) (fst : List DV) (a : List DV × List DV) : Option (List DV) := match Nat.beq (fst ++ a.1).length n && Nat.beq a.2.length k with
  | true => some (pk sel ((fst ++ a.1) ++ (a.2 ++ dds.map DV.d)))
  | false => none
theorem ord_ok {K : KW} {T : Tb} {G : Hp} {n k : Nat} {fst : List DV} {fv : List V} {vs zs : List V} {xs ys zz : List DV} (hd : DflIs K dvs dds) (r0 : DReps K T G fv fst) (r1 : DReps K T G vs xs) (r2 : DReps K T G zs ys) (h : ord n k sel dds fst (xs, ys) = some zz) :
    (fv ++ vs).length = n ∧ zs.length = k ∧ DReps K T G (pk sel ((fv ++ vs) ++ (zs ++ dvs))) zz := by
  unfold ord at h
  split at h
  · rename_i e
    cases h
    simp only [Bool.and_eq_true] at e
    have e1 := Nat.eq_of_beq_eq_true e.1
    have e2 := Nat.eq_of_beq_eq_true e.2
    refine ⟨?_, ?_, reps_pk ((r0.append r1).append (r2.append (hd G).dv)) _⟩
    · have := (r0.append r1).length; omega
    · have := r2.length; omega
  · cases h
theorem runG {f : Addr} {fd : FuncData} {sp : Sp} {pins : List (Addr × Obj)} {σ : L2.St} {H : Hp} {s : Shared} {Q : VK} {W : WX} {us ws : List Value} {vs zs : List V} (F : FnV X.prog X.w X.K X.mg X.base k f fd ps sp) (hg : X.A.guards = some []) (hr : Room k X.A) (hb : BindG X.K fd ps n ks sel dvs) (tk : Takes X W)
    (I : Inv X pins σ H s) (r : Vals vs us) (rz : Vals zs ws) (h1 : vs.length = n) (h2 : zs.length = ks.length) (h : sp (pk sel (vs ++ (zs ++ dvs))) H Q (fun cls d H' => W cls d σ H')) : wpAny (model X.prog X.w) X.A (call (.ref f) us (ks.zip ws)) (EP X pins σ Q) X.xe s := by
  obtain ⟨ds, vd, hb⟩ := hb
  have r2 : Vals (pk sel (vs ++ (zs ++ dvs))) (pk sel (us ++ (ws ++ ds))) := vals_pk (r.append (rz.append vd)) sel
  refine wpAny_call (codeAny_mono (F.run X.A X.stack s H ⟨us, ks.zip ws⟩ _ _ Q _ hg hr I.env0 (hb s us ws I.kIn (by rw [← r.length]; exact h1) (by rw [← rz.length]; exact h2)) r2 h) fun res s' hq => ?_)
  cases res with
  | error e => exact tk e s' (XE.of_call I (fun cls d H' h => h) hq)
  | ok fl => cases fl with
    | ret u => exact I.after hq
    | next => exact hq.elim
    | brk => exact hq.elim
    | cont => exact hq.elim
/-- a def called so -/
def DefB (P : Program) (W : World) (K : PySem.W.Frag) (mg : Str → Option Value) (base : Heap) (nm : Str) (k : Nat) (ps : List Str) (n : Nat) (ks : List Str) (sel : List Nat) (dds : List D) (m : Fn) : Prop :=
  ∃ (f : Addr) (fd : FuncData) (dvs : List V), mg nm = some (.ref f) ∧ PySem.W.keepIn K (.ref f) = true ∧ BindG K fd ps n ks sel dvs ∧ DflIs ⟨K, P, W⟩ dvs dds ∧ FnV P W K mg base k f fd ps (SpF ⟨K, P, W⟩ m)
def eCallG (m : Fn) (bs : List Bool) (n k : Nat) (sel : List Nat) (dds : List D) (as ka : Ea) : Ev := fun L env => bnd (aGo as ka L env) fun L1 a => bnd (opt L1 (ord n k sel dds [] a)) fun L2 zs => callM m bs L2 zs
theorem re_callG (d : DefB X.prog X.w X.K X.mg X.base nm k ps n ks sel dds m) (hg : X.A.guards = some []) (hr : Room k' X.A) (hk : k ≤ k') (gl : Gl X nm) (a : ShapeG X es kws ks pos as ka) (hdb : (nm == ("__debug__" : Str)) = false := by decide) :
    RE X (.Call (.Name nm p) es kws pos) (eCallG m bs n ks.length sel dds as ka) :=
  ⟨fun {L env Q Ex} h {W B T G σ H R F} hn tk o nr xc pins s I => by
    obtain ⟨f, fd, dvs, hm, kp, b, hd, Fn⟩ := d
    refine wpAny_Call_Name_kw (ld_glob I gl hm ?_ hdb)
    refine a.ok (R := fun vs zs H1 => vs.length = n ∧ zs.length = ks.length ∧ SpF (kw X) m (pk sel (vs ++ (zs ++ dvs))) H1 R (fun cls d H' => W cls d σ H')) (post_bnd h) hn tk o (fun T1 L1 G1 H1 vs zs xs ys q t1 o1 => ?_) xc I kp fun vs zs us ws H1 s1 I1 r rz ⟨h1, h2, q⟩ => ?_
    · obtain ⟨zz, hz, q⟩ := post_bopt q
      obtain ⟨h1, h2, r⟩ := ord_ok hd .nil o1.f.2.1 o1.f.2.2 hz
      exact ⟨h1, h2, callM_sp (o1.drop o.st) r q (nr.on t1) (xc.on t1)⟩
    · exact runG Fn hg (hr.mono hk) b tk I1 r rz h1 h2 q⟩
/-! ### objects made -/
theorem guards_make {A : Around} (hg : A.guards = some []) (C : Addr) (us : List Value) (kw : List (Str × Value)) : (A.under (.builtin "type.__call__" ⟨.ref C :: us, kw⟩)).guards = some [] := by
  first | exact hg | (simpa [Around.under, Around.guards, Code.isGuard, guardIds] using hg)
theorem runMakeG {C f : Addr} {fd : FuncData} {sp : Sp} {pins : List (Addr × Obj)} {σ : L2.St} {H : Hp} {s : Shared} {Q : VK} {W : WX} {us ws : List Value} {vs zs : List V} (M : Mk X.K C f) (F : FnV X.prog X.w X.K X.mg X.base k f fd ps sp) (hg : X.A.guards = some []) (hr : Room (k + 1) X.A) (hb : BindG X.K fd ps n ks sel dvs) (tk : Takes X W)
    (I : Inv X pins σ H s) (r : Vals vs us) (rz : Vals zs ws) (h1 : vs.length + 1 = n) (h2 : zs.length = ks.length)
    (h : ∀ x dx, H x = none → H dx = none → dx ≠ x → sp (pk sel ((.ref x :: vs) ++ (zs ++ dvs))) (upd (upd H dx (.own x)) x (.ins C dx [])) (fun v H2 => v = .non ∧ Q (.ref x) H2) (fun cls d H' => W cls d σ H')) :
    wpAny (model X.prog X.w) X.A (call (.ref C) us (ks.zip ws)) (EP X pins σ Q) X.xe s := by
  obtain ⟨ds, vd, hb⟩ := hb
  have hq := h (s.heap.objs.size + 1) s.heap.objs.size (I.hok.fresh (Nat.le_succ _)) (I.hok.fresh (Nat.le_refl _)) (Nat.ne_of_lt (Nat.lt_succ_self _))
  have J := Inv.made (C := C) I
  have r1 : Vals (V.ref (s.heap.objs.size + 1) :: vs) (Value.ref (s.heap.objs.size + 1) :: us) := .cons rfl r
  have rr : Vals (pk sel ((V.ref (s.heap.objs.size + 1) :: vs) ++ (zs ++ dvs))) (pk sel ((Value.ref (s.heap.objs.size + 1) :: us) ++ (ws ++ ds))) := vals_pk (r1.append (rz.append vd)) sel
  refine wpAny_call (make_map (f := f) I.kIn M.makes M.init (beq_iff_eq.mp M.fn) (codeAny_mono (F.run _ X.stack _ _ ⟨.ref (s.heap.objs.size + 1) :: us, ks.zip ws⟩ _ _ _ _ (guards_make hg C us (ks.zip ws)) (hr.make C us (ks.zip ws)) (J.env0.make C us (ks.zip ws)) (hb _ (.ref (s.heap.objs.size + 1) :: us) ws J.kIn (by rw [List.length_cons, ← r.length]; exact h1) (by rw [← rz.length]; exact h2)) rr hq) fun res s' hq' => ?_))
  cases res with
  | error e => exact tk e s' (XE.of_call J (fun cls d H' h => h) hq')
  | ok fl => cases fl with
    | ret u =>
      obtain ⟨v, H', I3, rv, ev, q3⟩ := J.after hq'
      subst ev
      exact ⟨rv, ⟨V.ref (s.heap.objs.size + 1), H', I3, rfl, q3⟩⟩
    | next => exact hq'.elim
    | brk => exact hq'.elim
    | cont => exact hq'.elim
def ClsB (P : Program) (W : World) (K : PySem.W.Frag) (mg : Str → Option Value) (base : Heap) (nm : Str) (k : Nat) (ps : List Str) (n : Nat) (ks : List Str) (sel : List Nat) (dds : List D) (m : Fn) : Prop :=
  mg nm = some (.ref (He.ga K nm)) ∧ ∃ (f : Addr) (fd : FuncData) (dvs : List V), Mk K (He.ga K nm) f ∧ BindG K fd ps n ks sel dvs ∧ DflIs ⟨K, P, W⟩ dvs dds ∧ FnV P W K mg base k f fd ps (SpF ⟨K, P, W⟩ m)
/-- an object made by its __init__ -/
def makeM (C : Str) (m : Fn) (bs : List Bool) (n k : Nat) (sel : List Nat) (dds : List D) (L : OL) (a : List DV × List DV) : Mo DV :=
  bnd (opt (L ++ [.own (.p (.obj C []))]) (ord n k sel dds [.h L.length] a)) fun L2 zs => bnd (callM m (true :: bs) L2 zs) fun L3 y => match y with
    | .d .non => some (.val L3 (.h L.length))
    | _ => none
def eMake (C : Str) (m : Fn) (bs : List Bool) (n k : Nat) (sel : List Nat) (dds : List D) (as ka : Ea) : Ev := fun L env => bnd (aGo as ka L env) fun L1 a => makeM C m bs n k sel dds L1 a
theorem re_make (d : ClsB X.prog X.w X.K X.mg X.base nm k ps n ks sel dds m) (hg : X.A.guards = some []) (hr : Room k' X.A) (hk : k + 1 ≤ k') (gl : Gl X nm) (a : ShapeG X es kws ks pos as ka) (hdb : (nm == ("__debug__" : Str)) = false := by decide) :
    RE X (.Call (.Name nm p) es kws pos) (eMake nm m bs n ks.length sel dds as ka) :=
  ⟨fun {L env Q Ex} h {W B T G σ H R F} hn tk o nr xc pins s I => by
    obtain ⟨hm, f, fd, dvs, M, b, hd, Fn⟩ := d
    refine wpAny_Call_Name_kw (ld_glob I gl hm ?_ hdb)
    refine a.ok (R := fun vs zs H1 => vs.length + 1 = n ∧ zs.length = ks.length ∧ ∀ x dx, H1 x = none → H1 dx = none → dx ≠ x → SpF (kw X) m (pk sel ((.ref x :: vs) ++ (zs ++ dvs))) (upd (upd H1 dx (.own x)) x (.ins (He.ga X.K nm) dx [])) (fun v H2 => v = .non ∧ R (.ref x) H2) (fun cls d H' => W cls d σ H')) (post_bnd h) hn tk o (fun T1 L1 G1 H1 vs zs xs ys q t1 o1 => ?_) xc I M.kp fun vs zs us ws H1 s1 I1 r rz ⟨h1, h2, q⟩ => ?_
    · obtain ⟨zz, hz, q⟩ := post_bopt q
      refine ⟨?_, ?_, fun x dx hx hdx hne => ?_⟩
      · have := ord_ok (T := T1 ++ [0]) hd (.cons (.h (p := 0) (by rw [← o1.tl]; simp)) .nil) (o1.f.2.1.mono (Sm.refl _) (List.prefix_append _ _)) (o1.f.2.2.mono (Sm.refl _) (List.prefix_append _ _)) hz
        simpa [Nat.add_comm] using this.1
      · have := ord_ok (T := T1 ++ [0]) hd (.cons (.h (p := 0) (by rw [← o1.tl]; simp)) .nil) (o1.f.2.1.mono (Sm.refl _) (List.prefix_append _ _)) (o1.f.2.2.mono (Sm.refl _) (List.prefix_append _ _)) hz
        exact this.2.1
      · have o2 := (o1.junk (o := .own x) hdx)
        have hx2 : (upd H1 dx (.own x)) x = none := by rw [upd_ne hne.symm]; exact hx
        have o3 := o2.alloc (o := .ins (He.ga X.K nm) dx []) (c := .p (.obj nm [])) hx2 ⟨dx, [], upd_same, rfl, .nil⟩
        obtain ⟨_, _, r⟩ := ord_ok (fv := [.ref x]) hd (.cons (.h o1.hnd) .nil) (o3.f.2.1.mono (Sm.refl _) (List.prefix_append T1 [x])) (o3.f.2.2.mono (Sm.refl _) (List.prefix_append T1 [x])) hz
        refine callM_sp (o3.drop o.st) r (post_bnd q) (fun T' L' G' H' v y qq t o' => ?_) ((xc.on t1).on (List.prefix_append _ _))
        cases y with
        | h j => exact qq.elim
        | d y =>
          cases y with
          | non =>
            have rn := o'.f.2
            cases rn with
            | d rn =>
              cases rn
              exact ⟨rfl, nr T' L' G' H' (.ref x) (.h L1.length) qq (t1.trans ((List.prefix_append _ _).trans t)) (o'.as (stab_and o.st (stab_drep _ _)) ⟨o'.f.1, .h (pre_get t o1.hnd)⟩)⟩
          | _ => exact qq.elim
    · exact runMakeG M Fn hg (hr.mono hk) b tk I1 r rz h1 h2 q⟩
end
end FL

set_option Elab.async false
set_option linter.all false
set_option maxRecDepth 100000
set_option maxHeartbeats 4000000
namespace FL
open PySem PySem.Spec PyProof.Rows L2
/-! ### o.m(..) -/
/-- an object of the class C that has no field m -/
def clsOf (L : OL) (C m : Str) (x : DV) : Option Unit := match x with
  | .h k => match L[k]? with
    | some (.own (.o C' fs)) => match sEq C' C, fget m fs with
      | true, none => some ()
      | _, _ => none
    | some (.own (.p (.obj C' fs))) => match sEq C' C, fget m fs with
      | true, none => some ()
      | _, _ => none
    | some (.fz (.obj C' fs)) => match sEq C' C, fget m fs with
      | true, none => some ()
      | _, _ => none
    | _ => none
  | .d (.obj C' fs) => match sEq C' C, fget m fs with
    | true, none => some ()
    | _, _ => none
  | _ => none
theorem look_none {α β : Type} {m : Str} : ∀ {ds : List (Str × α)} {fs : List (Str × β)}, ds.map (·.1) = fs.map (·.1) → fget m ds = none → fs.lookup m = none
  | [], [], _, _ => rfl
  | [], _ :: _, h, _ => by simp at h
  | _ :: _, [], h, _ => by simp at h
  | (a, x) :: ds, (b, y) :: fs, h, e => by
    simp only [List.map_cons, List.cons.injEq] at h
    obtain ⟨rfl, h⟩ := h
    have ih := look_none (m := m) (ds := ds) (fs := fs) h
    rw [lookup_eq] at ih ⊢
    unfold fget at e ⊢
    cases q : sEq a m with
    | true => rw [q] at e; cases e
    | false => rw [q] at e; exact ih e
section
variable {K : KW} {B : Fra} {T : Tb} {L : OL} {G : Hp} {σ : L2.St} {H : Hp} {env : VEnv} {F : Hp → Prop} {v : V} {x : DV} {C m : Str}
theorem clsOf_ok (o : OkF K B T L G σ H env F) (r : DRep K T G v x) (h : clsOf L C m x = some ()) : ∃ a dx fs, v = .ref a ∧ H a = some (.ins (ga K C) dx fs) ∧ fs.lookup m = none := by
  have data : ∀ {C' : Str} {fs : List (Str × D)}, Rep K G v (.obj C' fs) → (match sEq C' C, fget m fs with | true, none => some () | _, _ => none) = some () → ∃ a dx fs, v = .ref a ∧ H a = some (.ins (ga K C) dx fs) ∧ fs.lookup m = none := by
    intro C' fs r h
    split at h
    · rename_i e1 e2
      obtain rfl := of_decide_eq_true e1
      obtain ⟨a, dx, us, e, h1, k, _⟩ := (r.view o.sub : View K G H v (.obj C' fs))
      exact ⟨a, dx, us, e, h1, look_none k e2⟩
    · cases h
  unfold clsOf at h
  split at h
  · rename_i k
    cases r with
    | h hk =>
      split at h
      · rename_i C' fs hL
        split at h
        · rename_i e1 e2
          obtain rfl := of_decide_eq_true e1
          obtain ⟨dx, us, h1, k1, _⟩ := (o.own k _ _ hk hL : AtO K T G H _ (.o C' fs))
          exact ⟨_, dx, us, rfl, h1, look_none k1 e2⟩
        · cases h
      · rename_i C' fs hL
        split at h
        · rename_i e1 e2
          obtain rfl := of_decide_eq_true e1
          obtain ⟨dx, us, h1, k1, _⟩ := (o.own k _ _ hk hL : At K G H _ (.obj C' fs))
          exact ⟨_, dx, us, rfl, h1, look_none k1 e2⟩
        · cases h
      · rename_i C' fs hL
        exact data (o.own k _ _ hk hL : Rep K G (.ref _) (.obj C' fs)) h
      · cases h
  · rename_i C' fs
    cases r with
    | d r => exact data r h
  · cases h
end
def MethB (P : Program) (W : World) (K : PySem.W.Frag) (mg : Str → Option Value) (base : Heap) (C m : Str) (k : Nat) (ps : List Str) (n : Nat) (ks : List Str) (sel : List Nat) (dds : List D) (fn : Fn) : Prop :=
  Cls K (He.ga K C) ∧ ∃ (f : Addr) (fd : FuncData) (dvs : List V), Meth K (He.ga K C) m f ∧ BindG K fd ps n ks sel dvs ∧ DflIs ⟨K, P, W⟩ dvs dds ∧ FnV P W K mg base k f fd ps (SpF ⟨K, P, W⟩ fn)
def PropB (P : Program) (W : World) (K : PySem.W.Frag) (mg : Str → Option Value) (base : Heap) (C m : Str) (k : Nat) (fn : Fn) : Prop :=
  Cls K (He.ga K C) ∧ ∃ (p g : Addr) (fd : FuncData), PropOf K (He.ga K C) m p g ∧ Binds K fd ["self"] [] ∧ FnV P W K mg base k g fd ["self"] (SpF ⟨K, P, W⟩ fn)
section
variable {X : Cx} {k k' n : Nat} {C m : Str} {ps ks : List Str} {fn : Fn} {bs : List Bool} {p pos kpos apos : Pos} {e eo : Expr} {es : List Expr} {as ka : Ea} {fa fo : Ev} {kws : List Keyword} {sel : List Nat} {dvs : List V} {dds : List D} {pl : Sem Bool}
def eMeth (C m : Str) (fn : Fn) (bs : List Bool) (n k : Nat) (sel : List Nat) (dds : List D) (o : Ev) (as ka : Ea) : Ev := fun L env => bnd (o L env) fun L1 x => bnd (opt L1 (clsOf L1 C m x)) fun L1 _ => bnd (aGo as ka L1 env) fun L2 a => bnd (opt L2 (ord n k sel dds [x] a)) fun L2 zs => callM fn bs L2 zs
theorem re_meth (d : MethB X.prog X.w X.K X.mg X.base C m k ps n ks sel dds fn) (hg : X.A.guards = some []) (hr : Room k' X.A) (hk : k ≤ k') (ro : RE X eo fo) (a : ShapeG X es kws ks pos as ka)
    (ht : eval (.Call (.Attribute eo m apos) es kws pos) X.env = (do
      let ov ← eval eo X.env
      standAt apos.atName
      let (g, frst) ← holding [ov] (getMethod ov m pl)
      callWith pos g frst (backTo pos (starEach es X.env)) (backToKw pos (keywordEach kws X.env))) := by rfl) : RE X (.Call (.Attribute eo m apos) es kws pos) (eMeth C m fn bs n ks.length sel dds fo as ka) :=
  ⟨fun {L env Q Ex} h {W B T G σ H R F} hn tk o nr xc pins s I => by
    obtain ⟨c, f, fd, dvs, M, b, hd, Fn⟩ := d
    refine PySem.W.methodCall_KW (pl := pl) (thn (ro.ok (R := fun v H1 => ∃ a0 dx fs, v = .ref a0 ∧ H1 a0 = some (.ins (He.ga X.K C) dx fs) ∧ fs.lookup m = none ∧ ∃ T1 L1 G1 x, T <+: T1 ∧ OkF (kw X) B T1 L1 G1 σ H1 env (fun G => F G ∧ DRep (kw X) T1 G v x) ∧ post (bnd (aGo as ka L1 env) fun L2 a => bnd (opt L2 (ord n ks.length sel dds [x] a)) fun L2 zs => callM fn bs L2 zs) Q Ex) (post_bnd h) hn tk o (fun T1 L1 G1 H1 v x q1 t1 o1 => ?_) xc pins s I) fun u s1 ⟨x, H1, I1, rx, a0, dx, fs, ex, ea, l, T1, L1, G1, x1, t1, o1, q⟩ => ?_) ht
    · obtain ⟨_, hc, q1⟩ := post_bopt q1
      obtain ⟨a0, dx, fs, e1, e2, e3⟩ := clsOf_ok (o1.drop o.st) o1.f.2 hc
      exact ⟨a0, dx, fs, e1, e2, e3, T1, L1, G1, x, t1, o1, q1⟩
    · subst ex
      obtain rfl : u = Value.ref a0 := rx
      refine getmeth_ok I1 ea c M l ?_
      refine a.ok (R := fun vs zs H2 => (V.ref a0 :: vs).length = n ∧ zs.length = ks.length ∧ SpF (kw X) fn (pk sel ((.ref a0 :: vs) ++ (zs ++ dvs))) H2 R (fun cls d H' => W cls d σ H')) (post_bnd q) hn tk o1 (fun T2 L2 G2 H2 vs zs xs ys q t2 o2 => ?_) (xc.more t1 o.st) I1 M.kp fun vs zs us ws H2 s2 I2 r rz ⟨h1, h2, q⟩ => ?_
      · obtain ⟨zz, hz, q⟩ := post_bopt q
        obtain ⟨h1, h2, r⟩ := ord_ok (fv := [.ref a0]) hd (.cons (DRep.mono (Sm.refl _) t2 o2.f.1.2) .nil) o2.f.2.1 o2.f.2.2 hz
        exact ⟨h1, h2, callM_sp (o2.as o.st o2.f.1.1) r q (nr.on (t1.trans t2)) (xc.on (t1.trans t2))⟩
      · exact runG (us := .ref a0 :: us) (vs := .ref a0 :: vs) Fn hg (hr.mono hk) b tk I2 (.cons rfl r) rz h1 h2 q⟩
/-! ### properties -/
def eProp (C m : Str) (fn : Fn) (o : Ev) : Ev := fun L env => bnd (o L env) fun L1 x => bnd (opt L1 (clsOf L1 C m x)) fun L1 _ => match callM fn [true] L1 [x] with
  | some (.val L2 y) => some (.val L2 y)
  | _ => none
theorem guards_in1 {A : Around} (hg : A.guards = some []) : A.in1.guards = some [] := by
  first | exact hg | (simpa [Around.in1, Around.guards, Code.isGuard, guardIds] using hg)
theorem re_prop (d : PropB X.prog X.w X.K X.mg X.base C m k fn) (hg : X.A.guards = some []) (hr : Room k' X.A) (hk : k + 1 ≤ k') (ro : RE X eo fo) (hab : attributeBase eo m X.env (eval eo X.env) = eval eo X.env := by rfl) : RE X (.Attribute eo m pos) (eProp C m fn fo) :=
  ⟨fun {L env Q Ex} h {W B T G σ H R F} hn tk o nr xc pins s I => by
    obtain ⟨c, pa, g, fd, hp, b, Fn⟩ := d
    refine attr_of hab (thn (ro.ok (R := fun v H1 => ∃ a0 dx fs, v = .ref a0 ∧ H1 a0 = some (.ins (He.ga X.K C) dx fs) ∧ SpF (kw X) fn [v] H1 R (fun _ _ _ => False)) (post_bnd h) hn tk o (fun T1 L1 G1 H1 v x q1 t1 o1 => ?_) xc pins s I) fun u s1 ⟨x, H1, I1, rx, a0, dx, fs, ex, ea, q⟩ => ?_)
    · obtain ⟨_, hc, q1⟩ := post_bopt q1
      obtain ⟨a0, dx, fs, e1, e2, e3⟩ := clsOf_ok (o1.drop o.st) o1.f.2 hc
      refine ⟨a0, dx, fs, e1, e2, ?_⟩
      have q2 : post (callM fn [true] L1 [x]) Q (fun _ _ => False) := by
        cases q : callM fn [true] L1 [x] with
        | none => rw [q] at q1; exact q1
        | some out =>
          rw [q] at q1
          cases out with
          | val L2 y => exact q1
          | exc L2 y => exact q1
      exact callM_sp (W := fun _ _ _ _ => False) (o1.drop o.st) (.cons o1.f.2 .nil) q2 (nr.on t1) (fun _ _ _ _ _ _ _ z => z.elim)
    · subst ex
      obtain rfl : u = Value.ref a0 := rx
      obtain ⟨mA, O, _, _, _, _⟩ := ins_get I1.hok ea
      obtain ⟨od, J, _⟩ := O.look
      obtain ⟨rest, hrec⟩ := hp.rec_
      have I2 := I1.tok (s1.toks + 1)
      have hc : (PySem.W.clsIn X.K (He.ga X.K C)).isSome = true := by
        obtain ⟨cd, hc, _⟩ := PySem.W.any_some c.hd
        rw [hc]
        rfl
      refine PySem.W.get_bind I1.kIn J (PySem.W.plainGet_of (c.get m)).1 (PySem.W.findObj_data hc hp.at_ hp.get hp.tak) (PySem.W.plainGet_of (c.get m)).2 (wpAny_call (PySem.W.prop_get (s := { s1 with toks := s1.toks + 1 }) I1.kIn hrec ?_))
      refine codeAny_mono (Fn.run X.A.in1 X.stack { s1 with toks := s1.toks + 1 } H1 ⟨[.ref a0], []⟩ [.ref a0] [.ref a0] R _ (guards_in1 hg) (hr.mono hk).in1 I2.env0.in1 (b _ [.ref a0] I2.kIn rfl) (.cons rfl .nil) q) fun r s' hq => ?_
      cases r with
      | error er => obtain ⟨_, _, _, _, _, _, _, _, _, _, _, _, hE⟩ := hq; exact hE.elim
      | ok fl =>
        cases fl with
        | ret u =>
          obtain ⟨v, H', I3, rv, q3⟩ := I2.after hq
          show wpAny _ _ (handedOut u) _ _ _
          rw [PySem.W.handedOut_of (handed_of rv)]
          exact wpAny_pure ⟨v, H', I3, rv, q3⟩
        | next => exact False.elim hq
        | brk => exact False.elim hq
        | cont => exact False.elim hq⟩
end
end FL

set_option Elab.async false
set_option linter.all false
set_option maxRecDepth 100000
set_option maxHeartbeats 4000000
namespace FL
open PySem PySem.Spec PyProof.Rows L2
/-! ### walks over dicts: the dict is locked for good -/
section
variable {K : KW} {B : Fra} {T : Tb} {L : OL} {G : Hp} {σ : L2.St} {H : Hp} {env : VEnv} {F : Hp → Prop} {d : Addr} {u0 u1 : HO}
theorem sm_relock (hG : G d = some u0) (c : Lok u0 u1) : Sm G (upd G d u1) := fun a o h => by
  by_cases e : a = d
  · subst e
    rw [hG] at h; cases h
    exact ⟨u1, upd_same, c⟩
  · exact ⟨o, by rw [upd_ne e]; exact h, .inl rfl⟩
theorem OkF.relock (o : OkF K B T L G σ H env F) (hG : G d = some u0) (c : Lok u0 u1) : OkF K B T L (upd G d u1) σ (upd H d u1) env F := by
  have e := sm_relock hG c
  have nd : ∀ {k : Nat} {p : Addr} {x : OO}, T[k]? = some p → L[k]? = some (.own x) → p ≠ d := fun h1 h2 z => by
    have := o.nG _ _ _ h1 h2
    rw [z, hG] at this; cases this
  refine { o with sl := o.sl.mono e (List.prefix_refl _), sub := fun a u q => ?_, own := fun i q x h1 h2 => ?_, nG := fun i q x h1 h2 => ?_, hid := fun a u z => ?_, f := o.st _ _ e o.f }
  · by_cases z : a = d
    · subst z
      rw [upd_same] at q ⊢
      exact ⟨u, q, .inl rfl⟩
    · rw [upd_ne z] at q ⊢
      exact o.sub a u q
  · have z := o.own i q x h1 h2
    cases x with
    | own c => exact AtO.mono z e (List.prefix_refl _) (upd_ne (nd h1 h2))
    | fz x => exact Rep.mono e z
    | gone => trivial
  · rw [upd_ne (nd h1 h2)]; exact o.nG i q x h1 h2
  · obtain ⟨a1, a2, a3⟩ := o.hid a u z
    have : a ≠ d := fun y => by rw [y, hG] at a2; cases a2
    exact ⟨by rw [upd_ne this]; exact a1, by rw [upd_ne this]; exact a2, a3⟩
end
/-- the locked dict's raw form -/
structure Lkd (o : Obj) (d : Addr) (ks vs : List V) (es : Array DictEntry) (ep : Nat) : Prop where
  sys : (d == sysModules) = false
  ex : o.ExactDict
  dat : o.data = .dict es ep
  ks : Vals ks (es.toList.map (·.key))
  vs : Vals vs (es.toList.map (·.val))
theorem paired_of {α β : Type} {R : α → β → Prop} : ∀ {l1 : List α} {l2 : List β}, l1.length = l2.length → (∀ (i : Nat) (a : α) (b : β), l1[i]? = some a → l2[i]? = some b → R a b) → Paired R l1 l2
  | [], [], _, _ => .nil
  | [], _ :: _, h, _ => by simp at h
  | _ :: _, [], h, _ => by simp at h
  | a :: l1, b :: l2, h, r => .cons (r 0 a b rfl rfl) (paired_of (by simpa using h) fun i x y h1 h2 => r (i + 1) x y (by simpa using h1) (by simpa using h2))
theorem reps_kV {K : KW} {G : Hp} : ∀ (kvs : List (Key × V)), Reps K G (kvs.map fun x => kV x.1) (kvs.map fun x => kD x.1)
  | [] => .nil
  | (.inl i, v) :: r => .cons (.int i) (reps_kV r)
  | (.inr x, v) :: r => .cons (.str x) (reps_kV r)
section
variable {X : Cx} {pins : List (Addr × Obj)} {σ : L2.St} {G H : Hp} {s : Shared} {d : Addr} {ns : List D} {us : List V}
theorem dct_lkd (I : Inv X pins σ H s) (h : DctV (kw X) G H d ns us) : ∃ (u : HO) (o : Obj), Rd H d u ∧ lk u = true ∧ Mut (some u) ∧ s.heap.get? d = some o ∧ ∃ ks es ep, Lkd o d ks us es ep ∧ Reps (kw X) G ks ns := by
  rcases h with ⟨kvs, h1, rfl, rfl⟩ | ⟨xs, h1, h2, h3, h4, rfl⟩
  · obtain ⟨z, hd, vs, rel, dd⟩ := dk_rd I.hok h1
    obtain ⟨es, ep, ⟨o, ho, hx, hdt⟩, hsz, hk⟩ := dd.raw
    have hl : kvs.length = vs.length := Paired.length rel
    refine ⟨.dK kvs, o, h1, rfl, trivial, ho, _, es, ep, ⟨hd, hx, hdt, paired_of (by simp; omega) fun i a b e1 e2 => ?_, paired_of (by simp; omega) fun i a b e1 e2 => ?_⟩, reps_kV kvs⟩
    · rw [List.getElem?_map] at e1 e2
      cases e : kvs[i]? with
      | none => rw [e] at e1; cases e1
      | some p =>
        obtain ⟨k, v⟩ := p
        rw [e] at e1; cases e1
        obtain ⟨u, hu, ru⟩ := kv_get rel e
        have hi : i < es.size := by
          have := (List.getElem?_eq_some_iff.mp e).1
          omega
        rw [Array.getElem?_toList, Array.getElem?_eq_getElem hi] at e2
        cases e2
        exact relV_key (hk i hi k u hu).1
    · rw [List.getElem?_map] at e1 e2
      cases e : kvs[i]? with
      | none => rw [e] at e1; cases e1
      | some p =>
        obtain ⟨k, v⟩ := p
        rw [e] at e1; cases e1
        obtain ⟨u, hu, ru⟩ := kv_get rel e
        have hi : i < es.size := by
          have := (List.getElem?_eq_some_iff.mp e).1
          omega
        rw [Array.getElem?_toList, Array.getElem?_eq_getElem hi] at e2
        cases e2
        show RelV v es[i].val
        rw [(hk i hi k u hu).2]
        exact ru
  · obtain ⟨⟨h0, _, ys, hp, o, es, ep, g1, g2, g3, g4, g5⟩, _, _⟩ := h1.ok I.hok
    refine ⟨_, o, h1, rfl, trivial, g1, _, es, ep, ⟨h0, g2, g3, ?_, ?_⟩, h3⟩
    · rw [g4, List.map_map]
      refine paired_of (by simp; exact Paired.length hp) fun i a b e1 e2 => ?_
      rw [List.getElem?_map] at e1 e2
      cases e : xs[i]? with
      | none => rw [e] at e1; cases e1
      | some p =>
        rw [e] at e1; cases e1
        obtain ⟨y, hy, r1, r2, r3⟩ := paired_get hp e
        rw [hy] at e2; cases e2
        show RelV (.ref p.2.1) (.ref y.2.1)
        rw [r2]; exact rfl
    · rw [g4, List.map_map]
      refine paired_of (by simp; exact Paired.length hp) fun i a b e1 e2 => ?_
      rw [List.getElem?_map] at e1 e2
      cases e : xs[i]? with
      | none => rw [e] at e1; cases e1
      | some p =>
        rw [e] at e1; cases e1
        obtain ⟨y, hy, r1, r2, r3⟩ := paired_get hp e
        rw [hy] at e2; cases e2
        exact r3
/-- lock it -/
theorem lock_it {K : KW} {B : Fra} {T : Tb} {L : OL} {env : VEnv} {F : Hp → Prop} {ds : List (D × D)} (hK : K = kw X) (I : Inv X pins σ H s) (k : OkF K B T L G σ H env F) (r : Rep K G (.ref d) (.dct ds)) :
    ∃ (u : HO) (o : Obj) (G1 H1 : Hp) (ks vs : List V) (es : Array DictEntry) (ep : Nat), Sm G G1 ∧ Inv X pins σ H1 s ∧ OkF K B T L G1 σ H1 env F ∧ G1 d = some (.frz o u) ∧ s.heap.get? d = some o ∧ Lkd o d ks vs es ep ∧ Reps K G1 ks (ds.map (·.1)) ∧ Reps K G1 vs (ds.map (·.2)) := by
  subst hK
  obtain ⟨p, us, e, dv, ru⟩ := rep_dct r
  cases e
  obtain ⟨u, o, rd, hl, mu, ho, ks, es, ep, lkd, rk⟩ := dct_lkd I (dv.up k.sub)
  obtain ⟨u0, hG⟩ : ∃ u0, G d = some u0 := by
    rcases dv with ⟨kvs, h1 | ⟨b, h1⟩, _⟩ | ⟨xs, h1 | ⟨b, h1⟩, _⟩ <;> exact ⟨_, h1⟩
  obtain ⟨u2, hu2, lo⟩ := k.sub d u0 hG
  rcases rd with rd | ⟨b, rd⟩
  · rw [rd] at hu2; cases hu2
    have lo2 : Lok u (.frz o u) := .inr ⟨hl, o, rfl⟩
    obtain ⟨od, I1⟩ := I.lock rd mu
    have e : od = o := by
      have := (I1.hok d _ upd_same).1
      rw [ho] at this
      exact (Option.some.inj this).symm
    subst e
    have c := lo.trans lo2
    exact ⟨u, od, _, _, ks, us, es, ep, sm_relock hG c, I1, k.relock hG c, upd_same, ho, lkd, rk.mono (sm_relock hG c), ru.mono (sm_relock hG c)⟩
  · rw [rd] at hu2; cases hu2
    have e : b = o := by
      have := (I.hok d _ rd).1
      rw [ho] at this
      exact (Option.some.inj this).symm
    subst e
    have eH : upd H d (.frz b u) = H := funext fun a => by
      by_cases c : a = d
      · subst c; rw [upd_same, rd]
      · rw [upd_ne c]
    have k1 := k.relock hG lo
    rw [eH] at k1
    exact ⟨u, b, _, H, ks, us, es, ep, sm_relock hG lo, I, k1, upd_same, ho, lkd, rk.mono (sm_relock hG lo), ru.mono (sm_relock hG lo)⟩
end
def Itw (d : Addr) (o : Obj) (u : HO) (ks : List V) : It :=
  ⟨fun i H => H d = some (.frz o u) ∧ i < ks.length, fun i H x H' => H' = H ∧ ks[i]? = some x, fun i H => H d = some (.frz o u) ∧ ks.length ≤ i⟩
def Itp (d : Addr) (o : Obj) (u : HO) (ks vs : List V) : It :=
  ⟨fun i H => H d = some (.frz o u) ∧ i < ks.length, fun i H x H' => ∃ T k v, ks[i]? = some k ∧ vs[i]? = some v ∧ x = .ref T ∧ H T = none ∧ H' = upd H T (.tup [k, v]), fun i H => H d = some (.frz o u) ∧ ks.length ≤ i⟩
section
variable {K : KW} {d : Addr} {o : Obj} {u : HO} {ks vs : List V} {ns ms : List D}
theorem itok_w : ItOk K (Itw d o u ks) ns (fun G => G d = some (.frz o u) ∧ Reps K G ks ns) := by
  refine ⟨fun G G' e z => ⟨ex_eq e z.1 rfl, z.2.mono e⟩, ?_, ?_, ?_⟩
  · intro G H i f s hi
    exact ⟨ex_eq s f.1 rfl, by rw [f.2.length]; exact hi⟩
  · rintro G H i x H' f s hi ⟨rfl, hy⟩
    obtain ⟨n, hn, r⟩ := f.2.getV hy
    exact ⟨n, hn, .inl ⟨rfl, r⟩⟩
  · intro G H f s
    exact ⟨ex_eq s f.1 rfl, by rw [f.2.length]; exact Nat.le_refl _⟩
theorem itok_p : ItOk K (Itp d o u ks vs) (zipD ns ms) (fun G => G d = some (.frz o u) ∧ (Reps K G ks ns ∧ Reps K G vs ms) ∧ ns.length = ms.length) := by
  refine ⟨fun G G' e z => ⟨ex_eq e z.1 rfl, ⟨z.2.1.1.mono e, z.2.1.2.mono e⟩, z.2.2⟩, ?_, ?_, ?_⟩
  · intro G H i f s hi
    rw [zipD_length] at hi
    exact ⟨ex_eq s f.1 rfl, by rw [f.2.1.1.length]; omega⟩
  · rintro G H i x H' f s hi ⟨T, k, v, hk, hv, rfl, hT, rfl⟩
    obtain ⟨n, hn, r1⟩ := f.2.1.1.getV hk
    obtain ⟨m, hm, r2⟩ := f.2.1.2.getV hv
    exact ⟨_, zipD_get hn hm, .inr ⟨T, _, _, hT, rfl, rfl, rfl, .cons r1 (.cons r2 .nil)⟩⟩
  · intro G H f s
    refine ⟨ex_eq s f.1 rfl, ?_⟩
    rw [zipD_length, f.2.1.1.length, f.2.2]; omega
end
section
variable {P : Program} {w : World} {K : PySem.W.Frag} {tg : Expr} {d : Addr} {o : Obj} {u : HO} {ks vs : List V} {es : Array DictEntry} {ep : Nat}
theorem frz_raw {X : Cx} {pins : List (Addr × Obj)} {σ : L2.St} {H : Hp} {s : Shared} (I : Inv X pins σ H s) (l : Lkd o d ks vs es ep) (h : H d = some (.frz o u)) : s.heap.DictRaw d es ep := ⟨o, (I.hok d _ h).1, l.ex, l.dat⟩
theorem Lkd.kl (l : Lkd o d ks vs es ep) : ks.length = es.size := by have := l.ks.length; simpa using this
theorem Lkd.vl (l : Lkd o d ks vs es ep) : vs.length = es.size := by have := l.vs.length; simpa using this
theorem Lkd.key (l : Lkd o d ks vs es ep) {i : Nat} (hi : i < es.size) : ∃ k, ks[i]? = some k ∧ RelV k es[i].key := by
  have hk : i < ks.length := by rw [l.kl]; exact hi
  obtain ⟨u, h1, h2⟩ := l.ks.get (List.getElem?_eq_getElem hk)
  rw [List.getElem?_map, Array.getElem?_toList, Array.getElem?_eq_getElem hi] at h1
  cases h1
  exact ⟨_, List.getElem?_eq_getElem hk, h2⟩
theorem Lkd.val (l : Lkd o d ks vs es ep) {i : Nat} (hi : i < es.size) : ∃ k, vs[i]? = some k ∧ RelV k es[i].val := by
  have hk : i < vs.length := by rw [l.vl]; exact hi
  obtain ⟨u, h1, h2⟩ := l.vs.get (List.getElem?_eq_getElem hk)
  rw [List.getElem?_map, Array.getElem?_toList, Array.getElem?_eq_getElem hi] at h1
  cases h1
  exact ⟨_, List.getElem?_eq_getElem hk, h2⟩
theorem turn_wk (it : Addr) (l : Lkd o d ks vs es ep) : Turn P w K tg (Itw d o u ks) [it] it (fun i h => h.IsKeyIter it d i es.size ep) where
  mem := by simp
  obj := fun i h st b hb => by
    have e : b = it := by simpa using hb
    subst e
    obtain ⟨oi, e, c, dd⟩ := st
    exact ⟨oi, e, fun v z => by rw [dd] at z; cases z⟩
  keep := fun i h h' st k => st.at fun oi e => k it (by simp) oi e
  item := by
    intro X hP hw hK hc i pins s σ H E I hf st hg
    subst hP hw hK
    obtain ⟨hd, hi⟩ := hg
    obtain ⟨f0, f1, f2, f3, f4, f5⟩ := hf it (by simp)
    rw [l.kl] at hi
    obtain ⟨k, hk, rk⟩ := l.key hi
    refine wpAny_pyNext_keys_item_raw st (frz_raw I l hd) hi fun h' st' sb => ?_
    have I1 : Inv X pins σ H { s with heap := h' } := I.turned (t' := s.toks) (fun b ob hb e => (sb.2 b hb).trans e) f0 f1 f3 f4 f5
    obtain ⟨oi, e, c, dd⟩ := id st'
    exact ⟨_, rfl, go_of (s := { s with heap := h' }) e c dd (by decide) ⟨k, H, I1, rk, ⟨rfl, hk⟩, st', fun b hb => (hf b hb).1⟩⟩
  done := by
    intro X hP hw hK hc i pins s σ H E I hf st hg
    subst hP hw hK
    obtain ⟨hd, hi⟩ := hg
    obtain ⟨f0, f1, f2, f3, f4, f5⟩ := hf it (by simp)
    rw [l.kl] at hi
    exact wpAny_pyNext_keys_end_raw (I.ok.hd hc) st (frz_raw I l hd) hi fun h' eb => ⟨rfl, I.turned (t' := s.toks) (fun b ob hb e => eb b ob hb e) f0 f1 f3 f4 f5⟩
  self := fun A i s Q E st h => by
    refine wpAny_pyIter_slot st.typeIs F.slot_dict_keyiterator_iter (wpAny_call_entry F.slot_dict_keyiterator_iter st.typeIs F.entry_dict_keyiterator_iter ?_ (F.args_dict_keyiterator_iter_1 _))
    show wpAny _ _ (ret (.ref it)) _ _ s
    exact wpAny_pure ⟨_, rfl, "dict_keyiterator", _, st.typeIs, F.slot_dict_keyiterator_next.lookup, h⟩
theorem turn_wv (it : Addr) (l : Lkd o d ks vs es ep) : Turn P w K tg (Itw d o u vs) [it] it (fun i h => h.IsValIter it d i es.size ep) where
  mem := by simp
  obj := fun i h st b hb => by
    have e : b = it := by simpa using hb
    subst e
    obtain ⟨oi, e, c, dd⟩ := st
    exact ⟨oi, e, fun v z => by rw [dd] at z; cases z⟩
  keep := fun i h h' st k => st.at fun oi e => k it (by simp) oi e
  item := by
    intro X hP hw hK hc i pins s σ H E I hf st hg
    subst hP hw hK
    obtain ⟨hd, hi⟩ := hg
    obtain ⟨f0, f1, f2, f3, f4, f5⟩ := hf it (by simp)
    rw [l.vl] at hi
    obtain ⟨k, hk, rk⟩ := l.val hi
    refine wpAny_pyNext_values_item_raw st (frz_raw I l hd) hi fun h' st' sb => ?_
    have I1 : Inv X pins σ H { s with heap := h' } := I.turned (t' := s.toks) (fun b ob hb e => (sb.2 b hb).trans e) f0 f1 f3 f4 f5
    obtain ⟨oi, e, c, dd⟩ := id st'
    exact ⟨_, rfl, go_of (s := { s with heap := h' }) e c dd (by decide) ⟨k, H, I1, rk, ⟨rfl, hk⟩, st', fun b hb => (hf b hb).1⟩⟩
  done := by
    intro X hP hw hK hc i pins s σ H E I hf st hg
    subst hP hw hK
    obtain ⟨hd, hi⟩ := hg
    obtain ⟨f0, f1, f2, f3, f4, f5⟩ := hf it (by simp)
    rw [l.vl] at hi
    exact wpAny_pyNext_values_end_raw (I.ok.hd hc) st (frz_raw I l hd) hi fun h' eb => ⟨rfl, I.turned (t' := s.toks) (fun b ob hb e => eb b ob hb e) f0 f1 f3 f4 f5⟩
  self := fun A i s Q E st h => wpAny_pyIter_valiter st h
theorem turn_wp {elts : List Expr} {kk : Nat} {tpos : Pos} (it : Addr) (l : Lkd o d ks vs es ep) : Turn P w K (.Tuple elts kk tpos) (Itp d o u ks vs) [it] it (fun i h => ∃ ok ov, IsItemIter h it d i es.size ep ok ov) where
  mem := by simp
  obj := fun i h st b hb => by
    have e : b = it := by simpa using hb
    subst e
    obtain ⟨ok, ov, e⟩ := st
    exact ⟨_, e, fun v z => nomatch z⟩
  keep := fun i h h' st k => let ⟨ok, ov, e⟩ := st; ⟨ok, ov, k it (by simp) _ e⟩
  item := by
    intro X hP hw hK hc i pins s σ H E I hf st hg
    subst hP hw hK
    obtain ⟨hd, hi⟩ := hg
    rw [l.kl] at hi
    obtain ⟨k, hk, rk⟩ := l.key hi
    obtain ⟨v, hv, rv⟩ := l.val hi
    obtain ⟨ok, ov, he⟩ := st
    have hlt : it < s.heap.objs.size := Heap.lt_size he
    refine wpAny_pyNext_items_item_raw he (frz_raw I l hd) hi fun h' ho hT hz hk2 => ?_
    refine ⟨_, rfl, wpAny_letOwnedTupleGo_items (s := { s with heap := h' }) ho fun h'' he' sb => ?_⟩
    have hT2 : h''.get? s.heap.objs.size = some { cls := .type "tuple", data := .seq #[es[i].key, es[i].val] } := (sb.2 _ (Nat.ne_of_gt hlt)).trans hT
    have new : ObjOk X.prog X.w (upd H s.heap.objs.size (.tup [k, v])) h'' s.heap.objs.size (.tup [k, v]) :=
      ⟨by show 2 ≤ sizeLine; decide, [es[i].key, es[i].val], .cons rk (.cons rv .nil), ⟨_, hT2, rfl, _, rfl⟩⟩
    have I1 : Inv X pins σ (upd H s.heap.objs.size (.tup [k, v])) { s with heap := h'' } :=
      I.turnedNew (t' := s.toks) (ch := [it]) (fun b ob hb e => (sb.2 b (by simpa using hb)).trans (hk2 b ob (by simpa using hb) e)) hf (Nat.le_refl _) new
    refine ⟨.ref s.heap.objs.size, _, I1, rfl, ⟨_, k, v, hk, hv, rfl, I.hok.fresh (Nat.le_refl _), rfl⟩, ⟨_, _, he'⟩, fun b hb => ?_⟩
    have e : b = it := by simpa using hb
    rw [e, upd_ne (Nat.ne_of_lt hlt)]
    exact (hf it (by simp)).1
  done := by
    intro X hP hw hK hc i pins s σ H E I hf st hg
    subst hP hw hK
    obtain ⟨hd, hi⟩ := hg
    obtain ⟨f0, f1, f2, f3, f4, f5⟩ := hf it (by simp)
    rw [l.kl] at hi
    obtain ⟨ok, ov, he⟩ := st
    exact wpAny_pyNext_items_end_raw (I.ok.hd hc) he (frz_raw I l hd) hi fun h' eb => ⟨rfl, I.turned (t' := s.toks) (fun b ob hb e => eb b ob hb e) f0 f1 f3 f4 f5⟩
  self := fun A i s Q E st h => let ⟨_, _, e⟩ := st; PySem.W.kcp_self e h
end
end FL

set_option Elab.async false
set_option linter.all false
set_option maxRecDepth 100000
set_option maxHeartbeats 4000000
namespace FL
open PySem PySem.Spec PyProof.Rows L2
section
variable {X : Cx} {tg e : Expr} {pos apos cpos : Pos} {fa : Ev}
/-- a list, a tuple, or the keys of a dict -/
def itOf : D → Option (List D)
  | .lst ds => some ds
  | .tup ds => some ds
  | .dct kvs => some (kvs.map (·.1))
  | _ => none
def iItE (a : Ev) : Ei := fun L env => bnd (a L env) fun L1 x => bnd (Fz L1 x) fun L2 d => opt L2 (itOf d)
/-- what has come: the value v stands for the data d -/
def Come (X : Cx) (B : Fra) (T : Tb) (σ : L2.St) (env : VEnv) (F : Hp → Prop) (v : V) (H1 : Hp) (d : D) (Q : OL → Prop) : Prop :=
  ∃ T1 L1 G1, T <+: T1 ∧ OkF (kw X) B T1 L1 G1 σ H1 env F ∧ Rep (kw X) G1 v d ∧ Q L1
theorem ri_it (a : RE X e fa) : RI X tg e (iItE fa) :=
  ⟨fun {L env Q Ex} h {W B T G σ H R F} hn tk o n xc pins s I => by
    refine thn (a.ok (R := fun v H1 => ∃ d xs, itOf d = some xs ∧ Come X B T σ env F v H1 d (fun L => Q L xs)) (post_bnd h) hn tk o (fun T1 L1 G1 H1 v x q t1 o1 => ?_) xc pins s I) fun u s1 ⟨x, H1, I1, r, d, xs, hs, T1, L1, G1, t1, o1, rd, q⟩ => ?_
    · obtain ⟨L2, d, hf, q⟩ := post_fz (post_bnd q)
      obtain ⟨xs, hs, q⟩ := post_opt q
      obtain ⟨G2, s2, o2, r2⟩ := (o1.drop o.st).fz hf
      exact ⟨d, xs, hs, T1, L2, G2, t1, o2, r2 v o1.f.2, q⟩
    · cases d with
      | lst ds =>
        cases hs
        obtain ⟨b, vs, rfl, h1, h2⟩ := rep_lst rd
        cases r
        exact it_lst I1 (ex_l o1.sub h1) (n T1 L1 G1 H1 _ _ _ q t1 (o1.push itok_list.st ⟨h1, h2⟩) itok_list)
      | tup ds =>
        cases hs
        obtain ⟨b, vs, rfl, h1, h2⟩ := rep_tup rd
        cases r
        exact it_tup I1 (ex_t o1.sub h1) (n T1 L1 G1 H1 _ _ _ q t1 (o1.push itok_tup.st ⟨h1, h2⟩) itok_tup)
      | dct ds =>
        cases hs
        obtain ⟨b, us, rfl, _⟩ := rep_dct rd
        cases r
        obtain ⟨u, od, G2, H2, ks, vs, es, ep, sm, I2, o2, hG, ho, l, rk, rv⟩ := lock_it rfl I1 o1 rd
        refine wpAny_pyIter_dict_raw l.sys ⟨od, ho, l.ex, l.dat⟩ (pi_one (tk := s1.toks) I2 _ (turn_wk (u := u) _ l) ⟨_, Heap.get?_push_size _ rfl, rfl, rfl⟩ ?_)
        exact n T1 L1 G2 H2 _ _ _ q t1 (o2.push (itok_w (o := od) (u := u) (ks := ks)).st ⟨hG, rk⟩) itok_w
      | _ => cases hs⟩
def dctOf : D → Option (List (D × D))
  | .dct kvs => some kvs
  | _ => none
def iValsE (a : Ev) : Ei := fun L env => bnd (a L env) fun L1 x => bnd (Fz L1 x) fun L2 d => bnd (opt L2 (dctOf d)) fun L2 kvs => some (.val L2 (kvs.map (·.2)))
def iItemsE (a : Ev) : Ei := fun L env => bnd (a L env) fun L1 x => bnd (Fz L1 x) fun L2 d => bnd (opt L2 (dctOf d)) fun L2 kvs => some (.val L2 (zipD (kvs.map (·.1)) (kvs.map (·.2))))
theorem run_dct {L : OL} {env : VEnv} {Ex : XQ} {W : WX} {B : Fra} {T : Tb} {G : Hp} {σ : L2.St} {H : Hp} {F : Hp → Prop} {pins : List (Addr × Obj)} {s : Shared} {k : OL → List (D × D) → Mo (List D)} {Q : OL → List D → Prop} (a : RE X e fa) (h : post (bnd (fa L env) fun L1 x => bnd (Fz L1 x) fun L2 d => bnd (opt L2 (dctOf d)) k) Q Ex) (hn : B.n = X.N.length) (tk : Takes X W) (o : OkF (kw X) B T L G σ H env F) (xc : Xc (kw X) B T σ env F Ex W) (I : Inv X pins σ H s) :
    wpAny (model X.prog X.w) X.A (eval e X.env) (fun v s1 => ∃ (d : Addr) (ds : List (D × D)) (u : HO) (od : Obj) (G2 H2 : Hp) (ks vs : List V) (es : Array DictEntry) (ep : Nat) (T1 : Tb) (L1 : OL), v = .ref d ∧ T <+: T1 ∧ Inv X pins σ H2 s1 ∧ OkF (kw X) B T1 L1 G2 σ H2 env F ∧ G2 d = some (.frz od u) ∧ s1.heap.get? d = some od ∧ Lkd od d ks vs es ep ∧ Reps (kw X) G2 ks (ds.map (·.1)) ∧ Reps (kw X) G2 vs (ds.map (·.2)) ∧ post (k L1 ds) Q Ex) X.xe s := by
  refine thn (a.ok (R := fun v H1 => ∃ ds, Come X B T σ env F v H1 (.dct ds) (fun L => post (k L ds) Q Ex)) (post_bnd h) hn tk o (fun T1 L1 G1 H1 v x q t1 o1 => ?_) xc pins s I) fun u s1 ⟨x, H1, I1, r, ds, T1, L1, G1, t1, o1, rd, q⟩ => ?_
  · obtain ⟨L2, d, hf, q⟩ := post_fz (post_bnd q)
    obtain ⟨kvs, hs, q⟩ := post_bopt q
    obtain ⟨G2, s2, o2, r2⟩ := (o1.drop o.st).fz hf
    cases d with
    | dct ds => cases hs; exact ⟨kvs, T1, L2, G2, t1, o2, r2 v o1.f.2, q⟩
    | _ => cases hs
  · obtain ⟨b, us, rfl, _⟩ := rep_dct rd
    cases r
    obtain ⟨u, od, G2, H2, ks, vs, es, ep, sm, I2, o2, hG, ho, l, rk, rv⟩ := lock_it rfl I1 o1 rd
    exact ⟨b, ds, u, od, G2, H2, ks, vs, es, ep, T1, L1, rfl, t1, I2, o2, hG, ho, l, rk, rv, q⟩
theorem ri_values (a : RE X e fa) (hbase : attributeBase e "values" X.env (eval e X.env) = eval e X.env := by rfl) (hline : (apos.endLine == cpos.line) = true := by rfl) : RI X tg (.Call (.Attribute e "values" apos) [] [] cpos) (iValsE fa) :=
  ⟨fun {L env Q Ex} h {W B T G σ H R Fr} hn tk o n xc pins s I => by
    refine wpAny_Call_method (T := "dict") (id := "dict.values") hbase rfl hline F.plainAttrs_dict F.slot_dict_values F.type_dict_values (thn (run_dct a h hn tk o xc I) fun v s1 ⟨d, ds, u, od, G2, H2, ks, vs, es, ep, T1, L1, ev, t1, I2, o2, hG, ho, l, rk, rv, q⟩ => ?_)
    subst ev
    refine ⟨⟨od, ho, l.ex.1⟩, fun _ z => by cases z; exact ⟨od, ho, l.ex.2.1⟩, ?_⟩
    have I3 : Inv X pins σ H2 { s1 with heap := s1.heap.push { cls := .type "dict_values", data := .fields #[.ref d] } } := I2.kept (t' := s1.toks) fun b ob q => Heap.get?_push_of_some _ q
    have fin : wpAny (model X.prog X.w) X.A (pyIter (.ref s1.heap.objs.size)) (PIE X pins σ tg R) X.xe { s1 with heap := s1.heap.push { cls := .type "dict_values", data := .fields #[.ref d] } } := by
      refine wpAny_pyIter_values_raw (d := d) ⟨_, Heap.get?_push_size _ rfl, rfl, rfl⟩ ⟨od, Heap.get?_push_of_some _ ho, l.ex, l.dat⟩ (pi_one (tk := s1.toks) I3 _ (turn_wv (u := u) _ l) ⟨_, Heap.get?_push_size _ rfl, rfl, rfl⟩ ?_)
      exact n T1 L1 G2 H2 _ _ _ q t1 (o2.push (itok_w (o := od) (u := u) (ks := vs)).st ⟨hG, rv⟩) itok_w
    show wpAny _ _ (callWith cpos (.builtin "dict.values") [.ref d] [] []) _ X.xe s1
    exact method_meetsIn F.slot_dict_values F.entry_dict_values rfl (PySem.evalArgs_none ⟨rfl, ⟨od, ho, l.ex.1⟩, F.args_dict_values_1 _, _, meets_dict_values_raw d l.sys, ⟨es, ep, od, ho, l.ex, l.dat⟩, fin⟩)⟩
theorem ri_items {elts : List Expr} {kk : Nat} {tpos : Pos} (a : RE X e fa) (hbase : attributeBase e "items" X.env (eval e X.env) = eval e X.env := by rfl) (hline : (apos.endLine == cpos.line) = true := by rfl) : RI X (.Tuple elts kk tpos) (.Call (.Attribute e "items" apos) [] [] cpos) (iItemsE fa) :=
  ⟨fun {L env Q Ex} h {W B T G σ H R Fr} hn tk o n xc pins s I => by
    refine wpAny_Call_method (T := "dict") (id := "dict.items") hbase rfl hline F.plainAttrs_dict F.slot_dict_items F.type_dict_items (thn (run_dct a h hn tk o xc I) fun v s1 ⟨d, ds, u, od, G2, H2, ks, vs, es, ep, T1, L1, ev, t1, I2, o2, hG, ho, l, rk, rv, q⟩ => ?_)
    subst ev
    refine ⟨⟨od, ho, l.ex.1⟩, fun _ z => by cases z; exact ⟨od, ho, l.ex.2.1⟩, ?_⟩
    have I3 : Inv X pins σ H2 { s1 with heap := s1.heap.push { cls := .type "dict_items", data := .fields #[.ref d] } } := I2.kept (t' := s1.toks) fun b ob q => Heap.get?_push_of_some _ q
    have fin : wpAny (model X.prog X.w) X.A (pyIter (.ref s1.heap.objs.size)) (PIE X pins σ (.Tuple elts kk tpos) R) X.xe { s1 with heap := s1.heap.push { cls := .type "dict_items", data := .fields #[.ref d] } } := by
      refine wpAny_pyIter_items_raw (d := d) ⟨_, Heap.get?_push_size _ rfl, rfl, rfl⟩ ⟨od, Heap.get?_push_of_some _ ho, l.ex, l.dat⟩ (pi_one (tk := s1.toks) I3 _ (turn_wp (u := u) _ l) ⟨.none, .none, Heap.get?_push_size _ rfl⟩ ?_)
      exact n T1 L1 G2 H2 _ _ _ q t1 (o2.push (itok_p (o := od) (u := u) (ks := ks) (vs := vs)).st ⟨hG, ⟨rk, rv⟩, by simp⟩) itok_p
    show wpAny _ _ (callWith cpos (.builtin "dict.items") [.ref d] [] []) _ X.xe s1
    exact method_meetsIn F.slot_dict_items F.entry_dict_items rfl (PySem.evalArgs_none ⟨rfl, ⟨od, ho, l.ex.1⟩, F.args_dict_items_1 _, _, meets_dict_items_raw d l.sys, ⟨es, ep, od, ho, l.ex, l.dat⟩, fin⟩)⟩
end
end FL

set_option Elab.async false
set_option linter.all false
set_option maxRecDepth 100000
set_option maxHeartbeats 4000000
namespace FL
open PySem PySem.Spec PyProof.Rows L2
def alt2 (a b : List D → Option Res) : List D → Option Res := fun ds => match a ds with
  | some r => some r
  | none => b ds
theorem cbv_alt {X : Cx} {f : Value} {a b : List D → Option Res} (ha : CbV X f a) (hb : CbV X f b) : CbV X f (alt2 a b) := fun {G H xs ds res R} v sm e r => by
  unfold alt2 at e
  cases q : a ds with
  | some z => rw [q] at e; cases e; exact ha v sm q r
  | none => rw [q] at e; exact hb v sm e r
/-! ### what a dict holds, collected -/
section
variable {prog : Program} {w : World} {A : Around} {E : Value → Shared → Prop} {s : Shared} {T : String} {r d : Addr} {n : Nat} {P : Nat → Value → Prop} {OK : Heap → Prop}
theorem collect_kdl {Q : List Value → Shared → Prop} (K : PySem.W.KdlSrc prog w T r d n P OK) (hh : A.handled = none) (hok : OK s.heap) (hn : n ≤ sizeLine)
    (hQ : ∀ h' tk acc, (∀ b o, s.heap.get? b = some o → h'.get? b = some o) → ItemsOf P acc n → Q acc.toList { s with heap := h', toks := tk }) : wpAny (model prog w) A (collect (.ref r)) Q E s := by
  obtain ⟨l1, l2⟩ := K.there _ hok
  unfold collect
  refine wpAny_bind (wpAny_runValue (codeAny_builtin F.entry_proto_collect ?_))
  rw [Around.under_plainId F.plain_proto_collect _]
  show wpAny _ A.in1 (newList [] >>= fun l => again (.builtin "list.__iadd__" ⟨[l, .ref r], []⟩)) _ _ s
  refine wpAny_bind (wpAny_newObj_type ?_)
  refine wpAny_pure ⟨plainId_quiet F.plain_list_iadd _, codeAny_builtin F.entry_list_iadd ?_⟩
  rw [Around.under_plainId F.plain_list_iadd _]
  have hS₁ : (s.heap.push { cls := .type "list", data := .seq ([] : List Value).toArray }).get? s.heap.objs.size = some { cls := .type "list", data := .seq ([] : List Value).toArray } := Heap.get?_push_size _ rfl
  show wpAny _ A.in1 (Builtin.List.listExtendWith (.ref s.heap.objs.size) (.ref r) (.ref s.heap.objs.size)) _ _ _
  refine PySem.W.kdl_extend (R := fun r s' => match r with
    | .ok (.ret v) => wpAny (model prog w) A (match v with
      | .ref a => do
        match (← load a).data with
          | .seq xs _ => pure xs.toList
          | _ => unsupported "internal:collect"
      | _ => unsupported "internal:collect") Q E s'
    | .ok _ => False
    | .error e => E e s') (s := { s with heap := s.heap.push { cls := .type "list", data := .seq ([] : List Value).toArray } }) K hh (K.keep _ _ hok fun b _ o e => Heap.get?_push_of_some _ e) s.heap.objs.size (Nat.ne_of_gt l1) (Nat.ne_of_gt l2) (.ref s.heap.objs.size) 0 hS₁ (fun h' tk acc' c' hk hS' hacc => ?_) hn
  show wpAny _ A (load s.heap.objs.size >>= _) _ _ _
  refine wpAny_bind (wpAny_load hS' ?_)
  exact wpAny_pure (hQ h' tk acc' (fun b o e => hk b o (Nat.ne_of_lt (Heap.lt_size e)) (Heap.get?_push_of_some _ e)) hacc)
end
theorem items_vals {es : Array DictEntry} {ks : List V} {acc : Array Value} (l : Vals ks (es.toList.map (·.key))) (h : ItemsOf (fun i v => ∃ hi : i < es.size, v = es[i].key) acc es.size) : Vals ks acc.toList := by
  have e : acc.toList = es.toList.map (·.key) := by
    refine List.ext_getElem? fun i => ?_
    by_cases hi : i < es.size
    · have hi2 : i < acc.size := by rw [h.1]; exact hi
      obtain ⟨_, hv⟩ := h.2 i acc[i] (Array.getElem?_eq_getElem hi2)
      rw [List.getElem?_map, Array.getElem?_toList, Array.getElem?_toList, Array.getElem?_eq_getElem hi2, Array.getElem?_eq_getElem hi, hv]
      rfl
    · rw [List.getElem?_eq_none (by rw [Array.length_toList, h.1]; omega), List.getElem?_eq_none (by simp; omega)]
  rw [e]; exact l
section
variable {X : Cx}
theorem cr_sortedD {pins : List (Addr × Obj)} {σ : L2.St} {H : Hp} {s : Shared} {d : Addr} {o : Obj} {ks us : List V} {es : Array DictEntry} {ep : Nat} {ds : List PyData} {Q : VK} (hcalm : X.calm = true) (hu : X.A.units + 64 < cLine) (I : Inv X pins σ H s) (ho : s.heap.get? d = some o) (l : Lkd o d ks us es ep) (hz : ks.length ≤ sizeLine)
    (hd : DpAll X.K H ks ds) (hal : PySem.W.AllAlike ds) (hk : PySem.W.Sortable ds) (hdep : ∀ d ∈ ds, d.depth ≤ 50) (q : ∀ p, H p = none → Q (.ref p) (upd H p (.lst (srtV ks ds)))) :
    wpAny (model X.prog X.w) X.A (call (.builtin "sorted") [.ref d]) (EP X pins σ Q) X.xe s := by
  have raw : s.heap.DictRaw d es ep := ⟨o, ho, l.ex, l.dat⟩
  refine Calls.call_function_entry PyProof.Rows.kind_sorted PyProof.Rows.plain_sorted PyProof.Rows.entry_sorted (PyProof.Rows.args_sorted1 _) ?_
  unfold Builtin.«sorted»
  refine wpAny_bind (m := checkCount "sorted" 1 1 _) (wpAny_pure ?_)
  refine wpAny_bind (collect_kdl (KdlSrc.rawDict (es := es) (ep := ep) l.sys) (by exact I.ok.hd hcalm) raw (by rw [← l.kl]; exact hz) (fun h' tk acc hk' hacc => ?_))
  have I1 : Inv X pins σ H { s with heap := h', toks := tk } := I.kept hk'
  have rv : Vals ks acc.toList := items_vals l.ks hacc
  generalize hits : acc.toList = its at rv
  have li : its.length = ks.length := rv.length.symm
  refine wpAny_bind (wpAny_newList ?_ (by rw [li]; exact hz))
  have hL : ∀ o, s.heap.get? h'.objs.size ≠ some o := fun o e => Nat.lt_irrefl _ (Heap.lt_size (hk' _ _ e))
  have kp : ∀ b o, s.heap.get? b = some o → (h'.push (seqObj "list" its.toArray 0)).get? b = some o := fun b o e => Heap.get?_push_of_some _ (hk' b o e)
  have hoL : (h'.push (seqObj "list" its.toArray 0)).get? h'.objs.size = some (seqObj "list" its.toArray 0) := Heap.get?_push_size _ rfl
  obtain ⟨e1, e2⟩ := each_zip (L := h'.objs.size) I kp hL rv hd
  have eb : (ks.zip ds).map (fun b : V × PyData => b.2) = ds := List.map_snd_zip (by rw [dps_len hd]; exact Nat.le_refl _)
  show wpAny _ _ _ _ _ { s with heap := h'.push (seqObj "list" its.toArray 0), toks := tk }
  refine wpAny_bind (wpAny_holding (PySem.W.list_sort_data (s := { s with heap := h'.push (seqObj "list" its.toArray 0), toks := tk }) (enc := fun b : V × PyData => b.2) hoL e1 e2 (by rw [eb]; exact hal) (by rw [eb]; exact hk) (by rw [List.length_zip, dps_len hd, Nat.min_self, ← dps_len hd]; exact hz) (fun b hb => ?_) (fun out ho' eo => ?_)))
  · have hb2 : b.2 ∈ ds := by rw [← eb]; exact List.mem_map.mpr ⟨b, hb, rfl⟩
    have := hdep _ hb2
    show X.A.units + 1 + 1 + b.2.depth < cLine
    omega
  · obtain ⟨e', he'⟩ := PyProof.Rows.sortedHeap_at (vs := its) (out := out.toArray) hoL
    have rs := each_vals eo
    have hlen : (srtV ks ds).length ≤ sizeLine := by
      unfold srtV
      rw [List.length_map, List.length_mergeSort, List.length_zip]
      exact Nat.le_trans (Nat.min_le_left _ _) hz
    refine wpAny_pure ⟨_, rfl, .ref h'.objs.size, upd H h'.objs.size (.lst (srtV ks ds)), I1.laid (t' := tk) (fun b u e => ?_) (Nat.le_refl _) ⟨hlen, out, e', rs, he'⟩, rfl, q _ (I1.hok.fresh (Nat.le_refl _))⟩
    have hb : b < h'.objs.size := Heap.lt_size e
    exact (PyProof.Rows.sortedHeap_old (Nat.ne_of_lt hb) (by rw [Heap.size_push]; exact Nat.lt_succ_of_lt hb)).trans (Heap.get?_push_of_some _ e)
theorem view_lkd {pins : List (Addr × Obj)} {σ : L2.St} {G H : Hp} {s : Shared} {v : V} {kvs : List (D × D)} (I : Inv X pins σ H s) (vw : View (kw X) G H v (.dct kvs)) :
    ∃ (d : Addr) (o : Obj) (ks us : List V) (es : Array DictEntry) (ep : Nat), v = .ref d ∧ s.heap.get? d = some o ∧ Lkd o d ks us es ep ∧ Reps (kw X) G ks (kvs.map (·.1)) ∧ Reps (kw X) G us (kvs.map (·.2)) := by
  obtain ⟨d, us, rfl, dv, r⟩ := vw
  obtain ⟨u, o, _, _, _, ho, ks, es, ep, l, rk⟩ := dct_lkd I dv
  exact ⟨d, o, ks, us, es, ep, rfl, ho, l, rk, r⟩
def fSortedD : List D → Option Res
  | [.dct kvs] => br (sortB (kvs.map (·.1)) && szB kvs.length) (some (.lst (srtI (kvs.map (·.1))))) none
  | _ => none
theorem vb_sortedD (hcalm : X.calm = true) (hu : X.A.units + 64 < cLine) : CbV X (.builtin "sorted") fSortedD := fun {G H xs ds res R} v sm e r => by
  unfold fSortedD at e
  split at e
  · rename_i kvs
    obtain ⟨hb, e⟩ := br_some e
    cases e
    simp only [Bool.and_eq_true] at hb
    obtain ⟨hb, hs⟩ := hb
    obtain ⟨h1, h2, h3, h4⟩ := sortB_of hb
    obtain ⟨u, rfl, v1⟩ := views1 v
    intro pins s σ ws I rx
    obtain ⟨w1, rfl, r1⟩ := vals1 rx
    obtain ⟨d, o, ks, us, es, ep, rfl, ho, l, rk, _⟩ := view_lkd I v1
    cases (show w1 = Value.ref d from r1)
    refine cr_sortedD hcalm hu I ho l (by rw [rk.length, List.length_map]; exact szB_le hs) (dps_mono sm (rk.dp h1)) h2 h3 h4 fun q hq => r q _ hq ?_
    rw [srtI_eq]
    exact srt_reps rk
  · cases e
def fListD : List D → Option Res
  | [.dct kvs] => br (szB kvs.length) (some (.lst (kvs.map (·.1)))) none
  | _ => none
theorem vb_listD (hcalm : X.calm = true) : CbV X (.type "list") fListD := fun {G H xs ds res R} v sm e r => by
  unfold fListD at e
  split at e
  · rename_i kvs
    obtain ⟨hs, e⟩ := br_some e
    cases e
    obtain ⟨u, rfl, v1⟩ := views1 v
    intro pins s σ ws I rx
    obtain ⟨w1, rfl, r1⟩ := vals1 rx
    obtain ⟨d, o, ks, us, es, ep, rfl, ho, l, rk, _⟩ := view_lkd I v1
    cases (show w1 = Value.ref d from r1)
    have hz : ks.length ≤ sizeLine := by rw [rk.length, List.length_map]; exact szB_le hs
    have raw : s.heap.DictRaw d es ep := ⟨o, ho, l.ex, l.dat⟩
    refine PySem.W.kdl_call (KdlSrc.rawDict (es := es) (ep := ep) l.sys) (I.ok.hd hcalm) raw (by rw [← l.kl]; exact hz) fun h' tk acc c' hk hS hacc => ?_
    refine ⟨.ref s.heap.objs.size, upd H s.heap.objs.size (.lst ks), I.laid (t' := tk) hk (Nat.le_refl _) ⟨hz, acc.toList, c', items_vals l.ks hacc, ?_⟩, rfl, r _ _ (I.hok.fresh (Nat.le_refl _)) rk⟩
    rw [Array.toArray_toList]; exact hS
  · cases e
end
end FL

set_option Elab.async false
set_option linter.all false
set_option maxRecDepth 100000
set_option maxHeartbeats 4000000
namespace FL
open PySem PySem.Spec PyProof.Rows L2
/-! ### dict comprehensions -/
/-- one store into the own dict n -/
theorem dset_ok {X : Cx} {B : Fra} {T : Tb} {σ : L2.St} {env : VEnv} {F : Hp → Prop} {n : Nat} {d : Addr} {pins : List (Addr × Obj)} {E : Value → Shared → Prop} {Q : Unit → Shared → Prop} (hu : X.A.units + 64 < cLine) (hd : T[n]? = some d) {k z : DV} {x y : V} {u w : Value} {L L1 : OL} {G H : Hp} {s : Shared}
    (o : OkF (kw X) B T L G σ H env F) (ra : DRep (kw X) T G x k) (rb : DRep (kw X) T G y z) (ru : RelV x u) (rw' : RelV y w) (I : Inv X pins σ H s) (h1 : dputV L (.h n) (see L k) z = some L1) (q : ∀ H' s', OkF (kw X) B T L1 G σ H' env F → Inv X pins σ H' s' → Q () s') :
    wpAny (model X.prog X.w) X.A (dictSet d u w) Q E s := by
  simp only [dputV] at h1
  split at h1
  · rename_i c0 hL
    cases hn' : see L k with
    | none => rw [hn'] at h1; cases h1
    | some nn =>
      rw [hn'] at h1
      simp only [] at h1
      split at h1
      · rename_i c1 hc
        cases h1
        have at0 := (o.own n d _ hd hL : AtO (kw X) T G H d c0)
        have go : ∀ {kvs : List (D × DV)}, AtO (kw X) T G H d (.k kvs) → kindN (kvs.map (·.1)) nn = true → kvs.length < sizeLine → (∀ H', AtO (kw X) T G H' d (.k (putG kvs nn z)) → AtO (kw X) T G H' d c1) →
            wpAny (model X.prog X.w) X.A (dictSet d u w) Q E s := by
          intro kvs at1 hk hl fin
          obtain ⟨o1, us, a1, a2, a3⟩ := at1
          exact dv_set hu I o.sub a1 a2 a3 (view_key (kind_key hk) (o.see ra hn')) ru rw' rb hk hl fun o' s' ha I' => q _ s' (o.mod hd hL (fin _ ha)) I'
        unfold dputC at hc
        split at hc
        · rename_i kvs
          obtain ⟨hb, hc'⟩ := br_some hc
          clear hc
          rw [Bool.and_eq_true, kindB_eq] at hb
          have at1 : AtO (kw X) T G H d (.k (kvs.map fun x => (x.1, DV.d x.2))) := by
            obtain ⟨o5, us, h1, h2, h3⟩ := (at0 : At (kw X) G H d (.dct kvs))
            refine ⟨o5, us, h1, by rw [List.map_map]; exact h2, ?_⟩
            have := Reps.dv (T := T) h3
            rw [List.map_map] at this ⊢
            exact this
          refine go at1 (by rw [List.map_map]; exact hb.1) (by rw [List.length_map]; exact szB_lt hb.2) fun H' ha => ?_
          split at hc'
          · cases hc'
            rw [putG_d] at ha
            exact at_kd ha
          · cases hc'
            exact ha
        · rename_i kvs
          obtain ⟨hb, hc'⟩ := br_some hc
          clear hc
          rw [Bool.and_eq_true, kindB_eq] at hb
          cases hc'
          exact go at0 hb.1 (szB_lt hb.2) fun H' ha => ha
        · cases hc
      · cases h1
  · cases h1
section
variable {X : Cx}
/-- the store, in the block -/
def mSetb (X : Cx) (scope : Scope) (D : Addr) (y z : V) : L2.St → Hp → (Hp → Prop) → Prop := fun σ H R => ∀ x pins s u r E, Inv (Blk X scope x) pins σ H s → RelV y u → RelV z r → wpAny (model X.prog X.w) X.A (dictSet D u r) (fun _ s' => ∃ H', Inv (Blk X scope x) pins σ H' s' ∧ R H') E s
def tDcG (scope : Scope) (wi : TI) (g : TG) (tt : TT) (tk tv : TE) (vs : List Nat) : TE := fun σ H Q => wi σ H fun J H1 => ∀ D, H1 D = none → ∃ W : Nat → Nat → Hp → Prop, (∃ m, W 0 m (upd H1 D (.dK []))) ∧ ∀ i m H, W i m H →
  (J.stop i H ∧ Q (.ref D) H) ∨ (J.go i H ∧ ∃ Nx : Hp → Prop, (∀ H', Nx H' → ∃ m', m' < m ∧ W (i + 1) m' H') ∧ ∀ x H', J.yld i H x H' → g x (wipe σ vs) H' fun σ2 H2 => wipe σ2 vs = wipe σ vs ∧ tt σ2 H2 fun b H3 =>
    if b = true then tk σ2 H3 fun y H4 => tv σ2 H4 fun z H5 => mSetb X scope D y z σ2 H5 Nx else Nx H3)
theorem dcG_core {pins : List (Addr × Obj)} {s : Shared} {σ : L2.St} {H : Hp} {Q : VK} {kx vx tg iter : Expr} {ifs : List Expr} {scope : Scope} {own : List (Str × Nat)} {pos pos' : Pos} {wi : TI} {g : TG} {tt : TT} {tk tv : TE} {use : Option (Value → Sem Unit)} {Qf : Value → Shared → Prop}
    (hc : X.calm = true) (hN : X.N.Nodup) (I : Inv X pins σ H s) (hi : PI X tg iter wi) (ok : BlkOk X.N X.env.scope scope own)
    (hg : ∀ (s : Shared) (H : Hp) (C : Addr) (cl : List (Str × Addr)) (fp : List Addr), PG (X.blk s H scope (compEnvC scope cl C X.env) fp) tg g) (ht : ∀ (s : Shared) (H : Hp) (C : Addr) (cl : List (Str × Addr)) (fp : List Addr), PTs (X.blk s H scope (compEnvC scope cl C X.env) fp) ifs tt)
    (hk : ∀ (s : Shared) (H : Hp) (C : Addr) (cl : List (Str × Addr)) (fp : List Addr), PE (X.blk s H scope (compEnvC scope cl C X.env) fp) kx tk)
    (he : ∀ (s : Shared) (H : Hp) (C : Addr) (cl : List (Str × Addr)) (fp : List Addr), PE (X.blk s H scope (compEnvC scope cl C X.env) fp) vx tv) (hs : ∀ x, foldedSetIterable iter X.env x = pure x)
    (h : tDcG (X := X) scope wi g tt tk tv (own.map (·.2)) σ H Q)
    (hRR : ∀ D C s' m H', Inv X pins σ H' s' → Q (.ref D) H' → s'.heap.Ns C m → FpOk X pins H' C → compPost (model X.prog X.w) X.A X.xe use Qf (.ref D) C (.ok .next) s') :
    wpAny (model X.prog X.w) X.A (comprehension (.DictComp kx vx [⟨tg, iter, ifs, 0⟩] scope pos) scope X.env pos' newDict false (eval iter X.env) use) Qf X.xe s := by
  have hfree : ∀ y ∈ scope.names, y.2 = .free → ∃ c, X.env.cells.lookup y.1 = some c := fun y hy e => (ok.free y hy e).elim (fun k => I.ok.has _ (.inl k)) fun k => I.ok.has _ (.inr k)
  refine wpAny_comprehension_free (use := use) rfl hs (closure_ok hfree) ok.kind (fun y hy e => by rw [ok.uniq y hy, e])
    (thn (hi.run pins s σ H _ I h) fun xv s1 hx => thn hx fun itv s2 h2 => ?_)
  obtain ⟨it, fp, tn, J, H2, rfl, I2, T, st2, f2, q⟩ := h2
  refine wpAny_newObj_type (newEnv_comp ?_)
  generalize hD : s2.heap.objs.size = D
  obtain ⟨W, ⟨m0, w0⟩, turn⟩ := q D (I2.hok.fresh (Nat.le_of_eq hD))
  generalize hs3 : ({ s2 with heap := s2.heap.push { cls := .type "dict", data := .dict #[] } } : Shared) = s3
  have h3 : s3.heap = s2.heap.push { cls := .type "dict", data := .dict #[] } := by rw [← hs3]
  have I3 : Inv X pins σ (upd H2 D (.dK [])) s3 := by
    rw [← hs3]
    exact I2.laid (t' := s2.toks) (fun b o e => Heap.get?_push_of_some _ e) (Nat.le_of_eq hD) (hD ▸ dk_empty s2.heap I2.big)
  have f3 : ∀ b ∈ fp, FpOk X pins (upd H2 D (.dK [])) b ∧ b < s3.heap.objs.size := fun b hb => by
    obtain ⟨o, e, _⟩ := T.obj _ _ st2 b hb
    have hlt := Heap.lt_size e
    exact ⟨⟨by rw [upd_ne (by rw [← hD]; exact Nat.ne_of_lt hlt)]; exact (f2 b hb).1, (f2 b hb).2⟩, by rw [h3, Heap.size_push]; exact Nat.lt_succ_of_lt hlt⟩
  have st3 : tn 0 s3.heap := T.keep _ _ _ st2 fun b _ o e => by rw [h3]; exact Heap.get?_push_of_some _ e
  generalize hH3 : upd H2 D (.dK []) = H3 at I3 f3 w0
  generalize hcl : cellsFrom (s3.heap.objs.size + 1) scope.names (cloFrom X.env.cells scope.names []) = cl
  have I4 := block_start I3 ok hN f3
  rw [hcl] at I4
  have pg := hg s3 H3 s3.heap.objs.size cl fp
  have pt := ht s3 H3 s3.heap.objs.size cl fp
  have pk := hk s3 H3 s3.heap.objs.size cl fp
  have pe := he s3 H3 s3.heap.objs.size cl fp
  have ps : ∀ {y z : V} {σ : L2.St} {H : Hp} {R : Hp → Prop}, mSetb X scope D y z σ H R → ∀ pins s u r E, Inv (X.blk s3 H3 scope (compEnvC scope cl s3.heap.objs.size X.env) fp) pins σ H s → RelV y u → RelV z r → wpAny (model X.prog X.w) X.A (dictSet D u r) (fun _ s' => ∃ H', Inv (X.blk s3 H3 scope (compEnvC scope cl s3.heap.objs.size X.env) fp) pins σ H' s' ∧ R H') E s := fun hm => hm (s3, H3, s3.heap.objs.size, cl, fp)
  show codeAny _ _ (.compStart (.DictComp kx vx [⟨tg, iter, ifs, 0⟩] scope pos) 0 (.ref it) (.ref D) (compEnvC scope cl s3.heap.objs.size X.env)) (compPost (model X.prog X.w) X.A X.xe use Qf (.ref D) s3.heap.objs.size) { s3 with heap := pushCells (s3.heap.push { cls := .type "dict", data := .dict #[] }) scope.names }
  have nfp : ∀ b ∈ fp, H3 b = none := fun b hb => (f3 b hb).1.1
  have cL : (compEnvC scope cl s3.heap.objs.size X.env).locals = s3.heap.objs.size := rfl
  generalize hce : compEnvC scope cl s3.heap.objs.size X.env = ce at I4 pg pt pk pe ps cL ⊢
  generalize hs4 : ({ s3 with heap := pushCells (s3.heap.push { cls := .type "dict", data := .dict #[] }) scope.names } : Shared) = s4 at I4 ⊢
  have st4 : tn 0 s4.heap := T.keep _ _ _ st3 fun b _ o e => by rw [← hs4]; exact pushCells_keeps _ _ _ _ (Heap.get?_push_of_some _ e)
  have stat : ∀ {σ' : L2.St} {H' : Hp} {s' : Shared}, Inv (X.blk s3 H3 scope ce fp) [] σ' H' s' → (∀ b ∈ fp, H' b = none) → ∀ b ∈ fp, FpOk (X.blk s3 H3 scope ce fp) [] H' b := fun {σ' H' s'} I' hn b hb =>
    ⟨hn b hb, (I'.ok.exf b hb).1, I'.ok.exfs b hb, .inl hb, fun x c e => (I'.ok.exf b hb).2 x c e, fun p hp => absurd (show p ∈ ([] : List (Addr × Obj)) ++ [] from hp) (by simp)⟩
  have loop : codeAny (model X.prog X.w) X.A (.compLoop (.DictComp kx vx [⟨tg, iter, ifs, 0⟩] scope pos) 0 (.ref it) (.ref D) ce) (compPost (model X.prog X.w) X.A X.xe use Qf (.ref D) s3.heap.objs.size) s4 := by
    refine compLoop_anyD (fun n s' => ∃ i H', Inv (X.blk s3 H3 scope ce fp) [] (wipe σ (own.map (·.2))) H' s' ∧ tn i s'.heap ∧ (∀ b ∈ fp, H' b = none) ∧ W i n H') ?_ m0 ⟨0, H3, I4, st4, nfp, w0⟩
    rintro n s5 ⟨i, H5, I5, st5, n5, w5⟩
    rcases turn i n H5 w5 with ⟨stop, qq⟩ | ⟨go, Nx, hNx, step⟩
    · refine thnF (T.done (X.blk s3 H3 scope ce fp) rfl rfl rfl hc i [] s5 _ H5 (fun _ _ => False) I5 (stat I5 n5) st5 stop) fun r s6 ⟨hr, I6⟩ => ?_
      subst hr
      have I7 : Inv X pins σ H5 s6 := I3.call' (ch := fp) I6.os I6.base I6.hok I6.bare fun b hb => ⟨(f3 b hb).1.2.2.2.1, (f3 b hb).1.2.1, (f3 b hb).1.2.2.2.2.1, (f3 b hb).1.2.2.2.2.2⟩
      have nC : H5 ce.locals = none := I6.free
      obtain ⟨m, hn, _⟩ := I6.loc
      have hn : s6.heap.Ns ce.locals m := hn
      rw [cL] at hn nC
      exact hRR D s3.heap.objs.size s6 m H5 I7 qq hn (I3.fpOk (Nat.le_refl _) nC)
    · refine thnF (T.item (X.blk s3 H3 scope ce fp) rfl rfl rfl hc i [] s5 _ H5 (fun _ _ => False) I5 (stat I5 n5) st5 go) fun r s6 ⟨u, hr, h6⟩ => ?_
      subst hr
      refine thnF h6 fun _ s7 ⟨x, H7, I7, r7, y7, st7, n7⟩ => ?_
      refine thnF (pg.run _ s7 _ H7 x u _ (I7.pinned (stat I7 n7) (T.obj _ _ st7)) r7 (step x H7 y7)) fun _ s8 ⟨σ8, H8, I8, hw8, q8⟩ => ?_
      refine thnF (pt.run _ s8 σ8 H8 _ I8 q8) fun b s9 ⟨H9, I9, q9⟩ => ?_
      have fin : ∀ {s' : Shared} {H' : Hp}, Inv (X.blk s3 H3 scope ce fp) ([] ++ pinsAt fp s7.heap) σ8 H' s' → Nx H' → ∃ m, m < n ∧ ∃ i H', Inv (X.blk s3 H3 scope ce fp) [] (wipe σ (own.map (·.2))) H' s' ∧ tn i s'.heap ∧ (∀ b ∈ fp, H' b = none) ∧ W i m H' := fun {s' H'} I' nx => by
        obtain ⟨m', hm, w'⟩ := hNx H' nx
        have pin' : ∀ b ∈ fp, ∀ o, s7.heap.get? b = some o → s'.heap.get? b = some o ∧ H' b = none := fun b hb o e =>
          let z := I'.pin (b, o) (List.mem_append_right _ (List.mem_append_right _ (mem_pinsAt hb e)))
          ⟨z.1, z.2.1⟩
        refine ⟨m', hm, i + 1, H', (I'.unpinned (pins := [])).weak (by rw [← hw8, wipe_length]) (fun j v e => ?_), T.keep _ _ _ st7 fun b hb o e => (pin' b hb o e).1, fun b hb => ?_, w'⟩
        · rw [← hw8] at e
          exact (wipe_some e).1
        · obtain ⟨o, e, _⟩ := T.obj _ _ st7 b hb
          exact (pin' b hb o e).2
      cases b with
      | false =>
        simp only [Bool.false_eq_true, if_false] at q9 ⊢
        exact fin I9 q9
      | true =>
        simp only [if_true] at q9 ⊢
        refine thnF (pk.run _ s9 σ8 H9 _ I9 q9) fun z s10 ⟨yk, H10, I10, r10, q10⟩ => ?_
        refine thnF (pe.run _ s10 σ8 H10 _ I10 q10) fun z2 s11 ⟨yv, H11, I11, r11, q11⟩ => ?_
        exact thnF (ps q11 _ s11 _ _ _ I11 r10 r11) fun _ s12 ⟨H12, I12, nx⟩ => fin I12 nx
  exact codeAny_compStart_dict loop (T.self X.A 0 _ _ _ st4 loop)
end
end FL

set_option Elab.async false
set_option linter.all false
set_option maxRecDepth 100000
set_option maxHeartbeats 4000000
namespace FL
open PySem PySem.Spec PyProof.Rows L2
def dcF (n : Nat) (g : Gv) (tt : Et) (tk tv : Ev) (env : VEnv) : List D → OL → Mo Unit
  | [], L => some (.val L ())
  | x :: xs, L => match g L (.d x) env with
    | none => none
    | some e1 => bn (tt L e1) fun L1 b => br b
      (bn (tk L1 e1) fun L2 y => bn (tv L2 e1) fun L3 z => bn (Fz L3 z) fun L4 d => match dputV L4 (.h n) (see L4 y) (.d d) with
        | none => none
        | some L5 => dcF n g tt tk tv env xs (cutL (n + 1) L5))
      (dcF n g tt tk tv env xs (cutL (n + 1) L1))
theorem post_dc {n : Nat} {g : Gv} {tt : Et} {tk tv : Ev} {env : VEnv} {x : D} {xs : List D} {L : OL} {Q : OL → Unit → Prop} {Ex : XQ} (h : post (dcF n g tt tk tv env (x :: xs) L) Q Ex) :
    ∃ e1, g L (.d x) env = some e1 ∧ post (tt L e1) (fun L1 b => match b with
      | true => post (tk L1 e1) (fun L2 y => post (tv L2 e1) (fun L3 z => ∃ L4 d L5, frz 8 L3 z = some (L4, d) ∧ dputV L4 (.h n) (see L4 y) (.d d) = some L5 ∧ post (dcF n g tt tk tv env xs (cutL (n + 1) L5)) Q Ex) noX) noX
      | false => post (dcF n g tt tk tv env xs (cutL (n + 1) L1)) Q Ex) noX := by
  unfold dcF at h
  split at h
  · exact h.elim
  · rename_i e1 he
    refine ⟨e1, he, ?_⟩
    have h := post_bn h
    cases ht : tt L e1 with
    | none => rw [ht] at h; exact h
    | some o =>
      rw [ht] at h
      cases o with
      | exc L x => exact h
      | val L1 b =>
        cases b with
        | false => exact h
        | true =>
          have h := post_bn (show post (bn (tk L1 e1) _) Q Ex from h)
          show post (tk L1 e1) _ noX
          cases hq : tk L1 e1 with
          | none => rw [hq] at h; exact h
          | some o =>
            rw [hq] at h
            cases o with
            | exc L x => exact h
            | val L2 y =>
              have h := post_bn (show post (bn (tv L2 e1) _) Q Ex from h)
              show post (tv L2 e1) _ noX
              cases hr : tv L2 e1 with
              | none => rw [hr] at h; exact h
              | some o =>
                rw [hr] at h
                cases o with
                | exc L x => exact h
                | val L3 z =>
                  have h := post_bn (show post (bn (Fz L3 z) _) Q Ex from h)
                  obtain ⟨L4, d, hf, h⟩ := post_fz h
                  cases ha : dputV L4 (.h n) (see L4 y) (.d d) with
                  | none => rw [ha] at h; exact h.elim
                  | some L5 => rw [ha] at h; exact ⟨L4, d, L5, hf, ha, h⟩
section
variable {X : Cx} {kx vx tg iter : Expr} {ifs : List Expr} {scope : Scope} {own : List (Str × Nat)} {pos : Pos}
def eDc (vs : List Nat) (i : Ei) (g : Gv) (t : Et) (k b : Ev) : Ev := fun L env => bnd (i L env) fun L1 xs => bnd (dcF L1.length g t k b (wipeV env vs) xs (L1 ++ [.own (.p (.dct []))])) fun L2 _ => some (.val L2 (.h L1.length))
theorem dc_ok (hu : X.A.units + 64 < cLine) {ei : Ei} {gf : Gv} {tf : Et} {kf bf : Ev} {ws : List Nat} (i : RI X tg iter ei) (g : ∀ x, RG (Blk X scope x) tg ws gf) (t : ∀ x, RTs (Blk X scope x) ifs tf) (kk : ∀ x, RE (Blk X scope x) kx kf) (b : ∀ x, RE (Blk X scope x) vx bf) {vs : List Nat} (hv : ∀ j ∈ ws, j ∈ vs)
    {L : OL} {env : VEnv} {Q : QV} {Ex : XQ} (h : post (eDc vs ei gf tf kf bf L env) Q Ex)
    {W : WX} {B : Fra} {T : Tb} {G : Hp} {σ : L2.St} {H : Hp} {R : VK} {F : Hp → Prop} (hB : B.n = X.N.length) (tk : Takes X W) (o : OkF (kw X) B T L G σ H env F) (n : Nrm (kw X) B T σ env F Q R) (xc : Xc (kw X) B T σ env F Ex W) :
    tDcG (X := X) scope (mI X tg iter) (mGb X scope tg) (mTb X scope ifs) (mEb X scope kx) (mEb X scope vx) vs σ H R := by
  refine i.ok (post_bnd h) hB tk o (fun T1 L1 G1 H1 xs J Fi q t1 o1 jo p hp => ?_) xc
  have q := post_bnd q
  have o0 := o1.alloc (c := .p (.dct [])) hp ⟨.dK [], [], upd_same, .inl ⟨[], rfl, rfl, rfl⟩, .nil⟩
  have hl1 : T1.length = L1.length := o1.tl
  generalize hT0 : T1 ++ [p] = T0 at o0
  have l0 : T0.length = L1.length + 1 := by rw [← hT0]; simp [hl1]
  have p0 : T0[L1.length]? = some p := by rw [← hT0, ← hl1]; simp
  have t0 : T1 <+: T0 := by rw [← hT0]; exact List.prefix_append _ _
  have sF : Stab (fun G => (F G ∧ SlV (kw X) T0 (σ ++ B.γ) G env) ∧ Fi G) := stab_and (stab_and o.st (stab_slv _ _)) jo.st
  have wl : (wipe σ vs).length = B.n := by rw [wipe_len]; exact o.nl
  generalize hn : L1.length = m at q l0 p0
  refine ⟨fun i k H' => k = xs.length - i ∧ i ≤ xs.length ∧ ∃ L2 G2, post (dcF m gf tf kf bf (wipeV env vs) (xs.drop i) L2) (fun L2 _ => Q L2 (.h m)) Ex ∧ OkF (kw X) B T0 L2 G2 (wipe σ vs) H' (wipeV env vs) (fun G => (F G ∧ SlV (kw X) T0 (σ ++ B.γ) G env) ∧ Fi G),
    ⟨xs.length, by simp, Nat.zero_le _, _, G1, q, (o0.as sF ⟨⟨o0.f.1, o0.sl⟩, o0.f.2⟩).se (o0.sl.wipe vs) wl⟩, ?_⟩
  rintro i k H' ⟨rfl, hi, L2, G2, iv, o2⟩
  by_cases hlt : i < xs.length
  · refine .inr ⟨jo.go G2 H' i o2.f.2 o2.sub hlt, fun H3 => ∃ L2 G2, post (dcF m gf tf kf bf (wipeV env vs) (xs.drop (i + 1)) L2) (fun L2 _ => Q L2 (.h m)) Ex ∧ OkF (kw X) B T0 L2 G2 (wipe σ vs) H3 (wipeV env vs) (fun G => (F G ∧ SlV (kw X) T0 (σ ++ B.γ) G env) ∧ Fi G), fun H3 z => ⟨xs.length - (i + 1), by omega, rfl, hlt, z⟩, fun x H3 y => ?_⟩
    obtain ⟨d, G3, hd, sm, o3, r⟩ := o2.yld jo hlt y
    have ed : xs.drop i = d :: xs.drop (i + 1) := by
      obtain ⟨l, e⟩ := List.getElem?_eq_some_iff.mp hd
      rw [← e]; exact List.drop_eq_getElem_cons l
    rw [ed] at iv
    obtain ⟨e1, hg, iv⟩ := post_dc iv
    have done : ∀ {T5 : Tb} {L5 : OL} {G5 : Hp} {σ5 : List (Option V)} {H5 : Hp} {e5 : VEnv}, T0 <+: T5 → OkF (kw X) B T5 L5 G5 σ5 H5 e5 (fun G => (F G ∧ SlV (kw X) T0 (σ ++ B.γ) G env) ∧ Fi G) → OkF (kw X) B T0 (cutL (m + 1) L5) G5 (wipe σ vs) H5 (wipeV env vs) (fun G => (F G ∧ SlV (kw X) T0 (σ ++ B.γ) G env) ∧ Fi G) := by
      intro T5 L5 G5 σ5 H5 e5 t5 o5
      have et := cut_take t5
      rw [l0] at et
      have s5 : SlV (kw X) (T5.take (m + 1)) (wipe σ vs ++ B.γ) G5 (wipeV env vs) := by rw [et]; exact o5.f.1.2.wipe vs
      have o6 := o5.cut (m + 1) s5 wl
      rw [et] at o6
      exact o6
    intro c
    refine (g c).ok hg vs hB hv o3 (.d r) fun σ4 ew o4 => ⟨ew.trans (wipe_wipe σ vs), ?_⟩
    intro c2 pins s I
    refine (t c2).ok iv hB takes0 o4 (fun T5 L5 G5 H5 b5 q5 t5 o5 => ?_) (fun _ _ _ _ _ _ _ z => z.elim) pins s I
    cases b5 with
    | false => exact ⟨_, G5, q5, done t5 o5⟩
    | true =>
      intro c3
      refine (kk c3).ok q5 hB takes0 o5 (fun T6 L6 G6 H6 yv y q6 t6 o6 => ?_) (fun _ _ _ _ _ _ _ z => z.elim)
      intro c4
      refine (b c4).ok q6 hB takes0 o6 (fun T7 L7 G7 H7 zv z q7 t7 o7 => ?_) (fun _ _ _ _ _ _ _ z => z.elim)
      obtain ⟨L8, d8, L9, hf, ha, q8⟩ := q7
      obtain ⟨G8, s8, o8, r8⟩ := o7.fz hf
      intro c5 pins s u w E I ru rw'
      have pT : T7[m]? = some p := pre_get ((t5.trans t6).trans t7) p0
      refine dset_ok (X := Blk X scope c5) hu pT (o8.as sF o8.f.1.1) ((o8.f.1.2 : DRep (kw X) T6 G8 yv y).mono (Sm.refl _) t7) (.d (r8 zv o7.f.2)) ru rw' I ha fun H9 s9 o9 I9 => ⟨H9, I9, _, G8, q8, done ((t5.trans t6).trans t7) o9⟩
  · have e : i = xs.length := by omega
    subst e
    rw [List.drop_length] at iv
    refine .inl ⟨jo.stop G2 H' o2.f.2 o2.sub, ?_⟩
    have o8 := o2.se o2.f.1.2 o.nl
    exact n T0 L2 G2 H' (.ref p) (.h m) iv (t1.trans t0) ((o8.as o.st o8.f.1.1).push (stab_drep _ _) (.h p0))
theorem re_dc {ei : Ei} {gf : Gv} {tf : Et} {kf bf : Ev} {ws : List Nat} (hc : X.calm = true) (hu : X.A.units + 64 < cLine) (hN : X.N.Nodup) (bo : BlkOk X.N X.env.scope scope own) (i : RI X tg iter ei) (g : ∀ x, RG (Blk X scope x) tg ws gf) (t : ∀ x, RTs (Blk X scope x) ifs tf) (kk : ∀ x, RE (Blk X scope x) kx kf) (b : ∀ x, RE (Blk X scope x) vx bf)
    (hv : ∀ j ∈ ws, j ∈ own.map (·.2) := by decide) (hs : ∀ x, foldedSetIterable iter X.env x = pure x := by intro _; rfl) :
    RE X (.DictComp kx vx [⟨tg, iter, ifs, 0⟩] scope pos) (eDc (own.map (·.2)) ei gf tf kf bf) :=
  ⟨fun {L env Q Ex} h {W B T G σ H R F} hn tk o n xc pins s I => by
    rw [arm_eval_DictComp]
    refine dcG_core (own := own) hc hN I pi_max bo (fun s H C cl fp => ⟨fun pins s' σ H' v u Q I r hh => hh (s, H, C, cl, fp) pins s' u I r⟩)
      (fun s H C cl fp => ⟨fun pins s' σ H' Q I hh => by obtain ⟨t, pt, ht⟩ := hh (s, H, C, cl, fp) pins s' I; exact pt.run pins s' σ H' Q I ht⟩) (fun s H C cl fp => ⟨fun pins s' σ H' Q I hh => hh (s, H, C, cl, fp) pins s' I⟩) (fun s H C cl fp => ⟨fun pins s' σ H' Q I hh => hh (s, H, C, cl, fp) pins s' I⟩) hs (dc_ok hu i g t kk b hv h hn tk o n xc) fun D C s' m H' I' q hn f => ⟨m, hn, fun h'' sb => ?_⟩
    obtain ⟨f0, f1, f2, f3, f4, f5⟩ := f
    exact ⟨.ref D, H', I'.turned (t' := s'.toks) (fun b o hb e => (sb.2 b hb).trans e) f0 f1 f3 f4 f5, rfl, q⟩⟩
end
end FL

set_option Elab.async false
set_option linter.all false
set_option maxRecDepth 100000
set_option maxHeartbeats 4000000
namespace FL
open PySem PySem.Spec PyProof.Rows L2
/-! ### dict(d) -/
def intsOf : List D → Option (List Int)
  | [] => some []
  | .int i :: r => match intsOf r with
    | some is => some (i :: is)
    | none => none
  | _ => none
/-- the hash of a tuple of ints -/
def hkD : D → Option Int
  | .tup xs => match intsOf xs with
    | some is => some (reduceHash (Builtin.Tuple.tupleHashOf (is.map hashInt)))
    | none => none
  | _ => none
def hksD : List D → Option (List Int)
  | [] => some []
  | x :: xs => match hkD x, hksD xs with
    | some h, some hs => some (h :: hs)
    | _, _ => none
def memI (x : Int) : List Int → Bool
  | [] => false
  | y :: ys => match decide (x = y) with
    | true => true
    | false => memI x ys
def nodupI : List Int → Bool
  | [] => true
  | x :: xs => match memI x xs with
    | true => false
    | false => nodupI xs
theorem memI_of {x : Int} : ∀ {xs : List Int}, memI x xs = false → x ∉ xs
  | [], _, h => by cases h
  | y :: ys, e, h => by
    unfold memI at e
    split at e
    · cases e
    · rename_i d
      rcases List.mem_cons.mp h with rfl | h
      · simp at d
      · exact memI_of e h
theorem nodupI_of : ∀ {xs : List Int}, nodupI xs = true → xs.Nodup
  | [], _ => .nil
  | x :: xs, h => by
    unfold nodupI at h
    split at h
    · cases h
    · rename_i m
      exact List.nodup_cons.mpr ⟨memI_of m, nodupI_of h⟩
theorem nks_ints (w : World) : ∀ {xs : List D} {is : List Int} {ks : List NestedKey}, intsOf xs = some is → nks xs = some ks → NestedKey.hashes w ks = is.map hashInt
  | [], _, _, h, e => by cases h; unfold nks at e; cases e; rfl
  | x :: xs, is, ks, h, e => by
    cases x with
    | int i =>
      unfold intsOf at h
      split at h
      · rename_i is' h'
        cases h
        unfold nks at e
        unfold nk at e
        cases q : nks xs with
        | none => rw [q] at e; cases e
        | some ks' =>
          rw [q] at e; cases e
          show NestedKey.hash w (.num i) :: NestedKey.hashes w ks' = _
          rw [nks_ints w h' q]; rfl
      · cases h
    | _ => cases h
theorem hkD_ok (w : World) {d : D} {h : Int} {k : NestedKey} (e : hkD d = some h) (q : nk d = some k) : k.hash w = h := by
  cases d with
  | tup xs =>
    simp only [hkD] at e
    cases hi : intsOf xs with
    | none => rw [hi] at e; cases e
    | some is =>
      rw [hi] at e
      have e := Option.some.inj e
      subst e
      unfold nk at q
      cases z : nks xs with
      | none => rw [z] at q; cases q
      | some ks =>
        rw [z] at q; cases q
        show reduceHash (Builtin.Tuple.tupleHashOf (NestedKey.hashes w ks)) = _
        rw [nks_ints w hi z]
  | _ => cases e
theorem hksD_ok (w : World) : ∀ {ns : List D} {hs : List Int} {xs : List (NestedKey × Addr × V)}, hksD ns = some hs → ns.map nk = xs.map (fun x => some x.1) → xs.map (fun x => x.1.hash w) = hs
  | [], _, xs, h, e => by cases h; cases xs with | nil => rfl | cons _ _ => cases e
  | n :: ns, hs, [], h, e => by cases e
  | n :: ns, hs, x :: xs, h, e => by
    unfold hksD at h
    simp only [List.map_cons, List.cons.injEq] at e
    cases q1 : hkD n with
    | none => rw [q1] at h; cases h
    | some a =>
      cases q2 : hksD ns with
      | none => rw [q1, q2] at h; cases h
      | some as =>
        rw [q1, q2] at h; cases h
        rw [List.map_cons, hkD_ok w q1 e.1, hksD_ok w q2 e.2]
def copyB (ns : List D) : Bool := ns.all isSc || match hksD ns with
  | some hs => nodupI hs
  | none => false
section
variable {X : Cx} {pins : List (Addr × Obj)} {σ : L2.St} {G H : Hp} {s : Shared}
theorem call_dictN {a : Addr} {xs : List (NestedKey × Addr × V)} {ns : List D} {Q : VK} (hu : X.A.units + 64 < cLine) (I : Inv X pins σ H s) (sm : Sm G H) (h1 : Rd H a (DN X.prog X.w a xs)) (h2 : ns.map nk = xs.map (fun x => some x.1)) (h3 : Reps (kw X) G (xs.map fun x => .ref x.2.1) ns) (h4 : ∀ x ∈ xs, x.1.depth ≤ 8)
    (hh : (xs.map (fun x => x.1.hash X.w)).Nodup) (q : ∀ p, H p = none → Q (.ref p) (upd H p (DN X.prog X.w p xs))) : wpAny (model X.prog X.w) X.A (call (.type "dict") [.ref a]) (EP X pins σ Q) X.xe s := by
  obtain ⟨hd, ys, hp, dd⟩ := dn_at I sm h1 h2 h3 h4
  have hz : ys.length ≤ sizeLine := by
    obtain ⟨⟨_, hz, _⟩, _, _⟩ := h1.ok I.hok
    rw [← paired_len hp]; exact hz
  have hlt : a < s.heap.objs.size := by obtain ⟨o, _, _, ho, _⟩ := id dd; exact Heap.lt_size ho
  have tys : ∀ h' : Heap, (∀ b o, s.heap.get? b = some o → h'.get? b = some o) → ∀ y ∈ ys, (nestedKind X.prog X.w).is h' y.1 y.2.1 := fun h' hk y hy => by
    have := dn_keys I sm hp h2 h3 h4 y hy
    exact ⟨NestedIs.at (fun b ob vs n hb _ => hk b ob hb) _ _ this.1, this.2⟩
  have hash : (ys.map fun y => (nestedKind X.prog X.w).hash y.1) = xs.map (fun x => x.1.hash X.w) := by
    clear hh hz tys dd h1 h2 h3 h4 q
    induction hp with
    | nil => rfl
    | cons r _ ih => rw [List.map_cons, List.map_cons, ih, r.1]; rfl
  refine callType_codes (Q₁ := fun obj s₁ => obj = .ref s.heap.objs.size ∧ s₁ = { s with heap := s.heap.push { cls := .type "dict", data := .dict #[] } }) F.kt_called_dict (F.kt_typeCall_dict_1 _) F.entry_dict_init (kt_code_dict_new _ ⟨rfl, rfl⟩) ?_
  rintro obj s₁ ⟨rfl, rfl⟩
  have hT : Shared.TypeIs { s with heap := s.heap.push { cls := .type "dict", data := .dict #[] } } (.ref s.heap.objs.size) "dict" := ⟨_, Heap.get?_push_size _ rfl, rfl⟩
  refine ⟨hT, F.args_dict_init_2 _ _, ?_⟩
  unfold Builtin.«dict.__init__»
  refine wpAny_bind ?_
  unfold Builtin.Dict.selfAndRest
  refine wpAny_bind (wpAny_notOrdered_dict hT ?_)
  show wpAny _ _ (pure (s.heap.objs.size, [Value.ref a])) _ _ _
  refine wpAny_pure ?_
  have kp : ∀ b o, s.heap.get? b = some o → (s.heap.push { cls := .type "dict", data := .dict #[] }).get? b = some o := fun b o e => Heap.get?_push_of_some _ e
  have dnew : (s.heap.push { cls := .type "dict", data := .dict #[] }).DictOfH (nestedKind X.prog X.w) s.heap.objs.size [] := ⟨_, #[], 0, Heap.get?_push_size _ rfl, ⟨rfl, rfl, rfl⟩, rfl, rfl, (fun x hx => by cases hx), List.nodup_nil⟩
  have dd1 : (s.heap.push { cls := .type "dict", data := .dict #[] }).DictOfH (nestedKind X.prog X.w) a ys := by
    obtain ⟨o, es, ep, g1, g2, g3, g4, g5, g6⟩ := dd
    exact ⟨o, es, ep, kp _ _ g1, g2, g3, g4, tys _ kp, g6⟩
  refine updateFrom_dictH (s := { s with heap := s.heap.push { cls := .type "dict", data := .dict #[] } }) .none (show X.A.in1.in1.units + 8 < cLine by show X.A.units + 1 + 1 + 8 < cLine; omega) (Nat.ne_of_gt hlt) hd dnew dd1 (.inr ⟨fun y hy => ?_, by rw [hash]; exact hh⟩) (by rw [List.length_nil, Nat.zero_add]; exact hz) fun h' hd' _ hs => ?_
  · obtain ⟨hn, _⟩ := tys _ kp y hy
    obtain ⟨k, b, v⟩ := y
    have hn : NestedIs _ k (.ref b) := hn
    cases hn with
    | tup hg hc _ => exact ⟨_, hg, hc⟩
  · rw [storedAllH_nil_of_nodup _ dd.nodup] at hd'
    obtain ⟨o', es, ep, g1, g2, g3, g4, g5, g6⟩ := hd'
    have hm : (s.heap.objs.size == sysModules) = false := beq_eq_false_iff_ne.mpr (Nat.ne_of_gt I.big)
    have hk : ∀ b u, s.heap.get? b = some u → h'.get? b = some u := fun b u e => (hs.2 b (Nat.ne_of_lt (Heap.lt_size e))).trans (kp b u e)
    refine ⟨rfl, .ref s.heap.objs.size, upd H s.heap.objs.size (DN X.prog X.w s.heap.objs.size xs), I.laid (t' := s.toks) hk (Nat.le_refl _) ?_, rfl, q _ (I.hok.fresh (Nat.le_refl _))⟩
    exact ⟨⟨hm, by rw [paired_len hp]; exact hz, ys, hp, o', es, ep, g1, g2, g3, g4, g6⟩, ⟨o', g1⟩, fun h1 h2 ⟨c1, c0, ys', c2, o', es', ep', c3, c4⟩ k => ⟨c1, c0, ys', c2, o', es', ep', k _ c3, c4⟩⟩
end
end FL

set_option Elab.async false
set_option linter.all false
set_option maxRecDepth 100000
set_option maxHeartbeats 4000000
namespace FL
open PySem PySem.Spec PyProof.Rows L2
section
variable {X : Cx}
theorem all_sc {G : Hp} {xs : List (NestedKey × Addr × V)} {ns : List D} (h : ns.all isSc = true) (r : Reps (kw X) G (xs.map fun x => .ref x.2.1) ns) : xs = [] := by
  cases xs with
  | nil => rfl
  | cons x xs =>
    cases ns with
    | nil => cases r
    | cons n ns =>
      simp only [List.map_cons] at r
      cases r with
      | cons a _ =>
        simp only [List.all_cons, Bool.and_eq_true] at h
        obtain ⟨k, rfl⟩ := sc_key h.1
        have := rep_kD a
        cases k <;> cases this
def fDictD : List D → Option Res
  | [.dct kvs] => br (copyB (kvs.map (·.1))) (some (.dct kvs)) none
  | _ => none
theorem vb_dictD (hu : X.A.units + 64 < cLine) : CbV X (.type "dict") fDictD := fun {G H xs ds res R} v sm e r => by
  unfold fDictD at e
  split at e
  · rename_i kvs
    obtain ⟨hb, e⟩ := br_some e
    cases e
    obtain ⟨u, rfl, v1⟩ := views1 v
    obtain ⟨d, us, rfl, dv, ru⟩ := v1
    intro pins s σ ws I rx
    obtain ⟨w1, rfl, r1⟩ := vals1 rx
    cases (show w1 = Value.ref d from r1)
    rcases dv with ⟨ks, h1, h2, rfl⟩ | ⟨xs, h1, h2, h3, h4, rfl⟩
    · exact call_dictD pins s σ H [.ref d] _ _ I rx ⟨d, ks, rfl, h1, fun p hp => r p _ _ hp (.inl ⟨ks, rfl, h2, rfl⟩) ru⟩
    · refine call_dictN hu I sm h1 h2 h3 h4 ?_ fun p hp => r p _ _ hp (.inr ⟨xs, rfl, h2, h3, h4, rfl⟩) ru
      unfold copyB at hb
      rcases Bool.or_eq_true_iff.mp hb with hb | hb
      · rw [all_sc hb h3]; exact .nil
      · split at hb
        · rename_i hs hh
          rw [hksD_ok X.w hh h2]
          exact nodupI_of hb
        · cases hb
  · cases e
/-! ### dict(pairs) -/
/-- the pairs, as keys and values -/
def pairsOf : List D → Option (List (D × D))
  | [] => some []
  | .tup [a, b] :: r => match pairsOf r with
    | some ps => some ((a, b) :: ps)
    | none => none
  | _ => none
def putsG : List (D × D) → List (D × D) → List (D × D)
  | acc, [] => acc
  | acc, (a, b) :: r => putsG (putG acc a b) r
theorem pairsOf_ok {K : KW} {G : Hp} : ∀ {ds : List D} {ps : List (D × D)} {vs : List V}, pairsOf ds = some ps → Reps K G vs ds → ∃ (as : List Addr) (ks zs : List V), vs = as.map V.ref ∧ Paired (fun a (p : V × V) => SqT K.K G a [p.1, p.2]) as (ks.zip zs) ∧ Reps K G ks (ps.map (·.1)) ∧ Reps K G zs (ps.map (·.2))
  | [], _, _, h, .nil => by cases h; exact ⟨[], [], [], rfl, .nil, .nil, .nil⟩
  | d :: ds, ps, _, h, .cons r t => by
    unfold pairsOf at h
    split at h
    · rename_i e; cases e
    · rename_i a b r' e
      cases e
      split at h
      · rename_i ps' hp
        cases h
        obtain ⟨as, ks, zs, rfl, h1, h2, h3⟩ := pairsOf_ok hp t
        obtain ⟨p, us, rfl, k1, k2⟩ := rep_tup r
        cases k2 with
        | cons ra k2 => cases k2 with
          | cons rb k2 => cases k2; exact ⟨p :: as, _ :: ks, _ :: zs, rfl, .cons k1 h1, .cons ra h2, .cons rb h3⟩
      · cases h
    · cases h
theorem scKeys {K : KW} {G : Hp} : ∀ {ps : List (D × D)} {ks zs : List V}, (ps.map (·.1)).all isSc = true → Reps K G ks (ps.map (·.1)) → Reps K G zs (ps.map (·.2)) → ∃ kvs : List (Key × V), ks = kvs.map (fun x => kV x.1) ∧ zs = kvs.map (·.2) ∧ ps.map (·.1) = kvs.map (fun x => kD x.1)
  | [], _, _, _, .nil, .nil => ⟨[], rfl, rfl, rfl⟩
  | (a, b) :: ps, _, _, h, .cons r1 t1, .cons r2 t2 => by
    simp only [List.map_cons, List.all_cons, Bool.and_eq_true] at h
    obtain ⟨kvs, h1, h2, h3⟩ := scKeys h.2 t1 t2
    obtain ⟨k, hk⟩ := sc_key h.1
    have hk : a = kD k := hk
    subst hk
    refine ⟨(k, _) :: kvs, ?_, by rw [h2]; rfl, by rw [List.map_cons, List.map_cons, h3]⟩
    cases k with
    | inl i => cases r1; rw [h1]; rfl
    | inr i => cases r1; rw [h1]; rfl
theorem putsG_dK {K : KW} {G : Hp} : ∀ {ps : List (D × D)} {kvs us : List (Key × V)} {acc : List (D × D)}, ps.map (·.1) = kvs.map (fun x => kD x.1) → Reps K G (kvs.map (·.2)) (ps.map (·.2)) → acc.map (·.1) = us.map (fun x => kD x.1) → Reps K G (us.map (·.2)) (acc.map (·.2)) →
    (putsG acc ps).map (·.1) = (mergeK us kvs).map (fun x => kD x.1) ∧ Reps K G ((mergeK us kvs).map (·.2)) ((putsG acc ps).map (·.2))
  | [], [], us, acc, _, _, e, r => ⟨e, r⟩
  | [], _ :: _, _, _, h, _, _, _ => by cases h
  | _ :: _, [], _, _, h, _, _, _ => by cases h
  | (a, b) :: ps, (k, v) :: kvs, us, acc, h, .cons rb rt, e, r => by
    simp only [List.map_cons, List.cons.injEq] at h
    obtain ⟨ha, h⟩ := h
    have ha : a = kD k := ha
    subst ha
    have e' : (acc.map fun x => (x.1, DV.d x.2)).map (·.1) = us.map (fun x => kD x.1) := by rw [List.map_map]; exact e
    have r' : DReps K [] G (us.map (·.2)) ((acc.map fun x => (x.1, DV.d x.2)).map (·.2)) := by
      have := Reps.dv (T := []) r
      rw [List.map_map] at this ⊢
      exact this
    obtain ⟨p1, p2⟩ := put_dK (k := k) e' r' (.d rb)
    rw [putG_d] at p1 p2
    rw [List.map_map] at p1 p2
    have p2' : Reps K G ((putK us k v).map (·.2)) ((putG acc (kD k) b).map (·.2)) := by
      refine DReps.of_d (T := []) ?_
      rw [List.map_map]; exact p2
    have fin := putsG_dK (ps := ps) (kvs := kvs) h rt p1 p2'
    exact fin
def fDictP : List D → Option Res
  | [.lst ds] => match pairsOf ds with
    | some ps => br ((ps.map (·.1)).all isSc) (some (.dct (putsG [] ps))) none
    | none => none
  | _ => none
theorem vb_dictP (hcalm : X.calm = true) : CbV X (.type "dict") fDictP := fun {G H xs ds res R} v sm e r => by
  unfold fDictP at e
  split at e
  · rename_i ds
    split at e
    · rename_i ps hp
      obtain ⟨hb, e⟩ := br_some e
      cases e
      obtain ⟨u, rfl, v1⟩ := views1 v
      obtain ⟨d, us, rfl, hd, ru⟩ := v1
      obtain ⟨as, ks, zs, rfl, k1, k2, k3⟩ := pairsOf_ok hp ru
      obtain ⟨kvs, rfl, rfl, k4⟩ := scKeys hb k2 k3
      obtain ⟨p1, p2⟩ := putsG_dK (us := []) (acc := []) k4 k3 rfl .nil
      refine mCall_of (call_dictP hcalm) ⟨d, as, kvs, rfl, .inl hd, ?_, fun p hp => r p _ _ hp (.inl ⟨_, rfl, p1, rfl⟩) p2⟩
      clear p1 p2 k2 k3 k4 hd ru v hp
      refine paired_of ?_ fun i a b e1 e2 => ?_
      · have := Paired.length k1; simpa using this
      · obtain ⟨q, hq, sq⟩ := paired_get k1 e1
        have : q = (kV b.1, b.2) := by
          have := List.getElem?_zip_eq_some.mp hq
          rw [List.getElem?_map, List.getElem?_map, e2] at this
          obtain ⟨t1, t2⟩ := this
          have t1 := Option.some.inj t1
          have t2 := Option.some.inj t2
          exact Prod.ext t1.symm t2.symm
        subst this
        exact ex_t sm sq
    · cases e
  · cases e
end
end FL

set_option Elab.async false
set_option linter.all false
set_option maxRecDepth 100000
set_option maxHeartbeats 4000000
namespace FL
open PySem PySem.Spec PyProof.Rows L2
/-! ### a, b = x, y; name = [..]; more tests -/
def isStar : Expr → Bool
  | .Starred _ _ => true
  | _ => false
theorem star_plain {e : Expr} {es : List Expr} {env : PySem.Env} (h : isStar e = false) : starEach (e :: es) env = (false, eval e env) :: starEach es env := by
  cases e <;> first | rfl | cases h
theorem asg_plain {e : Expr} {es : List Expr} {env : PySem.Env} (h : isStar e = false) : (assignEach (e :: es) env).map (·.2) = assign e env :: (assignEach es env).map (·.2) := by
  cases e <;> first | rfl | cases h
theorem asg_len {env : PySem.Env} : ∀ es : List Expr, (assignEach es env).length = es.length
  | [] => rfl
  | e :: es => by
    cases e <;> first | (show (assignEach es env).length + 1 = _; rw [asg_len es]; rfl)
theorem asg_nostar {env : PySem.Env} : ∀ {es : List Expr}, es.any isStar = false → (assignEach es env).findIdx? (·.1) = none
  | [], _ => rfl
  | e :: es, h => by
    simp only [List.any_cons, Bool.or_eq_false_iff] at h
    have ih := asg_nostar (env := env) h.2
    cases e <;> first | (simp only [assignEach, List.findIdx?_cons, ih]; rfl) | cases h.1
section
variable {X : Cx} {e ea eb ec elt tg iter kx vx : Expr} {es tgs ifs : List Expr} {scope : Scope} {own : List (Str × Nat)} {pos pos' pos2 p2 py spos : Pos} {fa fb fc : Ev} {as : Ea}
def sAsgT (n : Nat) (a : Ea) (gs : Gvs) : Sv := fun L env => sb env (a L env) fun L1 xs => br (szB xs.length && Nat.beq xs.length n) (sb env (opt L1 (gs L1 xs env)) fun L1 e1 => some (.nx L1 e1)) none
theorem rs_asgT {k k2 : Nat} {vs : List Nat} {gs : Gvs} (hc : X.calm = true) (a : RA X es as) (g : RGs X tgs vs gs) (hst : tgs.any isStar = false)
    (hs : swapsWithSole [.Tuple tgs k pos'] (.Tuple es k2 pos2) pos.line X.env = pure false := by rfl) (hw : swappedStores [.Tuple tgs k pos'] (.Tuple es k2 pos2) X.env = pure none) :
    RS X (.Assign [.Tuple tgs k pos'] (.Tuple es k2 pos2) pos) (sAsgT tgs.length as gs) :=
  ⟨fun {L env Z} h {W B T G σ H De F} hn tk o z => mS_of (ps_asg (pe_tup pa_max) (pg_tup hc pgs_max (asg_len tgs) (asg_nostar hst)) hs hw rfl) (a.ok (post_sb h) hn tk o (fun T1 L1 G1 H1 us xs q t1 o1 => by
    obtain ⟨hb, q⟩ := spost_br q
    obtain ⟨e1, he, q⟩ := post_sopt q
    rw [Bool.and_eq_true] at hb
    have hl := (o1.f.2 : DReps (kw X) T1 G1 us xs).length
    refine ⟨by rw [hl]; exact szB_le hb.1, fun p hp => ⟨p, us, rfl, SqT.of upd_same, hl.trans (Nat.eq_of_beq_eq_true hb.2), ?_⟩⟩
    exact g.ok he vs hn (fun _ h => h) ((o1.drop o.st).junk hp) o1.f.2 fun σ' _ o' => z.nx T1 L1 G1 σ' _ e1 q o') z.xc)⟩
theorem reps2d {K : KW} {T : Tb} {G : Hp} {us : List V} {xs : List DV} (h : DReps K T G us xs) (hl : xs.length = 2) : ∃ u v x y, us = [u, v] ∧ xs = [x, y] ∧ DRep K T G u x ∧ DRep K T G v y := by
  cases h with
  | nil => cases hl
  | cons a b => cases b with
    | nil => cases hl
    | cons b c => cases c with
      | nil => exact ⟨_, _, _, _, rfl, rfl, a, b⟩
      | cons _ _ => simp at hl
theorem reps3d {K : KW} {T : Tb} {G : Hp} {us : List V} {xs : List DV} (h : DReps K T G us xs) (hl : xs.length = 3) : ∃ u v w x y z, us = [u, v, w] ∧ xs = [x, y, z] ∧ DRep K T G u x ∧ DRep K T G v y ∧ DRep K T G w z := by
  cases h with
  | nil => cases hl
  | cons a b =>
    obtain ⟨u, v, x, y, rfl, rfl, r1, r2⟩ := reps2d b (by simpa using hl)
    exact ⟨_, _, _, _, _, _, rfl, rfl, a, r1, r2⟩
theorem rs_par2 {i j : Nat} {x y : Str} {px py pt : Pos} {kt k2 : Nat} (hc : X.calm = true) (hN : X.N.Nodup) (hi : X.N[i]? = some x) (hj : X.N[j]? = some y) (hij : i ≠ j)
    (hx : X.env.scope.names.lookup x = some .local) (hy : X.env.scope.names.lookup y = some .local) (a : RA X [ea, eb] as)
    (hw : swappedStores [.Tuple [.Name x px, .Name y py] kt pt] (.Tuple [ea, eb] k2 pos2) X.env = pure (some [x, y])) :
    RS X (.Assign [.Tuple [.Name x px, .Name y py] kt pt] (.Tuple [ea, eb] k2 pos2) pos) (sAsgT 2 as (gCons (gName i) (gCons (gName j) gNil))) :=
  ⟨fun {L env Z} h {W B T G σ H De F} hn tk o z => mS_of (ps_par hc hN hi hj hij hx hy pa_max hw) (a.ok (post_sb h) hn tk o (fun T1 L1 G1 H1 us xs q t1 o1 => by
    obtain ⟨hb, q⟩ := spost_br q
    rw [Bool.and_eq_true] at hb
    obtain ⟨u, v, x', y', rfl, rfl, r1, r2⟩ := reps2d o1.f.2 (Nat.eq_of_beq_eq_true hb.2)
    refine ⟨u, v, rfl, ?_⟩
    have hi' : i < B.n := by rw [hn]; exact (List.getElem?_eq_some_iff.mp hi).1
    have hj' : j < B.n := by rw [hn]; exact (List.getElem?_eq_some_iff.mp hj).1
    exact z.nx T1 L1 G1 _ H1 _ q (((o1.drop o.st).set hi' r1).set hj' r2)) z.xc)⟩
theorem rs_par3 {i j l : Nat} {x y z' : Str} {px py pz pt : Pos} {kt k2 : Nat} (hc : X.calm = true) (hN : X.N.Nodup) (hi : X.N[i]? = some x) (hj : X.N[j]? = some y) (hl : X.N[l]? = some z') (hij : i ≠ j) (hil : i ≠ l) (hjl : j ≠ l)
    (hx : X.env.scope.names.lookup x = some .local) (hy : X.env.scope.names.lookup y = some .local) (hz : X.env.scope.names.lookup z' = some .local) (a : RA X [ea, eb, ec] as)
    (hw : swappedStores [.Tuple [.Name x px, .Name y py, .Name z' pz] kt pt] (.Tuple [ea, eb, ec] k2 pos2) X.env = pure (some [x, y, z'])) :
    RS X (.Assign [.Tuple [.Name x px, .Name y py, .Name z' pz] kt pt] (.Tuple [ea, eb, ec] k2 pos2) pos) (sAsgT 3 as (gCons (gName i) (gCons (gName j) (gCons (gName l) gNil)))) :=
  ⟨fun {L env Z} h {W B T G σ H De F} hn tk o z => mS_of (ps_par3 hc hN hi hj hl hij hil hjl hx hy hz pa_max hw) (a.ok (post_sb h) hn tk o (fun T1 L1 G1 H1 us xs q t1 o1 => by
    obtain ⟨hb, q⟩ := spost_br q
    rw [Bool.and_eq_true] at hb
    obtain ⟨u, v, w, x', y', w', rfl, rfl, r1, r2, r3⟩ := reps3d o1.f.2 (Nat.eq_of_beq_eq_true hb.2)
    refine ⟨u, v, w, rfl, ?_⟩
    have hi' : i < B.n := by rw [hn]; exact (List.getElem?_eq_some_iff.mp hi).1
    have hj' : j < B.n := by rw [hn]; exact (List.getElem?_eq_some_iff.mp hj).1
    have hl' : l < B.n := by rw [hn]; exact (List.getElem?_eq_some_iff.mp hl).1
    exact z.nx T1 L1 G1 _ H1 _ q ((((o1.drop o.st).set hi' r1).set hj' r2).set hl' r3)) z.xc)⟩
/-! ### name = [..] on one line -/
theorem rs_setLc {i : Nat} {y : Str} {ei : Ei} {gf : Gv} {tf : Et} {bf : Ev} {ws : List Nat} (hc : X.calm = true) (hN : X.N.Nodup) (hy : X.N[i]? = some y) (hyl : X.env.scope.names.lookup y = some .local)
    (hsw : swapsWith (.ListComp elt [⟨tg, iter, ifs, 0⟩] scope pos) (some (.Name y py)) spos.line X.env = pure true) (bo : BlkOk X.N X.env.scope scope own) (it : RI X tg iter ei) (g : ∀ x, RG (Blk X scope x) tg ws gf) (t : ∀ x, RTs (Blk X scope x) ifs tf) (b : ∀ x, RE (Blk X scope x) elt bf)
    (hv : ∀ j ∈ ws, j ∈ own.map (·.2)) (hs : ∀ x, foldedSetIterable iter X.env x = pure x) :
    RS X (.Assign [.Name y py] (.ListComp elt [⟨tg, iter, ifs, 0⟩] scope pos) spos) (sSet i (eLc (own.map (·.2)) ei gf tf bf)) :=
  ⟨fun {L env Z} h {W B T G σ H De F} hn tk o z => mS_of (ps_setLc (own := own) hc hN hy hyl hsw pi_max bo (fun s H C cl fp => ⟨fun pins s' σ H' v u Q I r hh => hh (s, H, C, cl, fp) pins s' u I r⟩)
    (fun s H C cl fp => ⟨fun pins s' σ H' Q I hh => by obtain ⟨t, pt, ht⟩ := hh (s, H, C, cl, fp) pins s' I; exact pt.run pins s' σ H' Q I ht⟩) (fun s H C cl fp => ⟨fun pins s' σ H' Q I hh => hh (s, H, C, cl, fp) pins s' I⟩) hs) (lc_ok it g t b hv (post_sb h) hn tk o (fun T1 L1 G1 H1 v x q t1 o1 =>
    z.nx T1 L1 G1 _ H1 _ q ((o1.drop o.st).set (by rw [hn]; exact (List.getElem?_eq_some_iff.mp hy).1) o1.f.2)) z.xc)⟩
theorem sw_trueD {gs : List Comprehension} {y : Str} {l : Nat} {env : PySem.Env} (hk : env.scope.kind = .function) (hy : env.scope.names.lookup y = some .local) (hl : (py.line == pos.line) = true)
    (ha : (scope.names.any fun (n, k) => n == y && (k == .local || k == .cell)) = false) : swapsWith (.DictComp kx vx gs scope pos) (some (.Name y py)) l env = pure true := by
  have ky : env.kindOf y = some .local := hy
  have hb : env.blockKind = .function := by unfold Env.blockKind; rw [hk]; rfl
  unfold swapsWith
  simp only [hb, ky, ha, Expr.pos, hl]
  rfl
theorem rs_setDc {i : Nat} {y : Str} {ei : Ei} {gf : Gv} {tf : Et} {kf bf : Ev} {ws : List Nat} (hc : X.calm = true) (hu : X.A.units + 64 < cLine) (hN : X.N.Nodup) (hy : X.N[i]? = some y) (hyl : X.env.scope.names.lookup y = some .local)
    (hsw : swapsWith (.DictComp kx vx [⟨tg, iter, ifs, 0⟩] scope pos) (some (.Name y py)) spos.line X.env = pure true) (bo : BlkOk X.N X.env.scope scope own) (it : RI X tg iter ei) (g : ∀ x, RG (Blk X scope x) tg ws gf) (t : ∀ x, RTs (Blk X scope x) ifs tf) (kk : ∀ x, RE (Blk X scope x) kx kf) (b : ∀ x, RE (Blk X scope x) vx bf)
    (hv : ∀ j ∈ ws, j ∈ own.map (·.2)) (hs : ∀ x, foldedSetIterable iter X.env x = pure x) :
    RS X (.Assign [.Name y py] (.DictComp kx vx [⟨tg, iter, ifs, 0⟩] scope pos) spos) (sSet i (eDc (own.map (·.2)) ei gf tf kf bf)) :=
  ⟨fun {L env Z} h {W B T G σ H De F} hn tk o z pins s I => by
    rw [exec_Assign_Name_used _ _ _ _ hsw]
    refine wpAny_bind (wpAny_standAt (wpAny_bind ?_))
    show wpAny _ X.A (do let _ ← comprehension (.DictComp kx vx [⟨tg, iter, ifs, 0⟩] scope pos) scope X.env (firstIterPos [⟨tg, iter, ifs, 0⟩] pos) newDict false (eval iter X.env) (some (assign (.Name y py) X.env))) _ _ s
    refine wpAny_bind (thn (dcG_core (own := own) (Qf := fun _ s' => SP X pins De .next s') (Q := fun x H1 => L2.gName i x σ H1 De.nx) hc hN I pi_max bo (fun s H C cl fp => ⟨fun pins s' σ H' v u Q I r hh => hh (s, H, C, cl, fp) pins s' u I r⟩)
      (fun s H C cl fp => ⟨fun pins s' σ H' Q I hh => by obtain ⟨t, pt, ht⟩ := hh (s, H, C, cl, fp) pins s' I; exact pt.run pins s' σ H' Q I ht⟩) (fun s H C cl fp => ⟨fun pins s' σ H' Q I hh => hh (s, H, C, cl, fp) pins s' I⟩) (fun s H C cl fp => ⟨fun pins s' σ H' Q I hh => hh (s, H, C, cl, fp) pins s' I⟩) hs (dc_ok hu it g t kk b hv (post_sb h) hn tk o (fun T1 L1 G1 H1 v x q t1 o1 =>
    z.nx T1 L1 G1 _ H1 _ q ((o1.drop o.st).set (by rw [hn]; exact (List.getElem?_eq_some_iff.mp hy).1) o1.f.2)) z.xc) fun L C s' m H' I' q hn f => ?_) fun _ s' hq => wpAny_pure (wpAny_pure hq))
    show wpAny _ _ (assign (.Name y py) X.env (.ref L)) _ _ _
    refine wpAny_assign_Name (store_ok2 (v := V.ref L) I' hN hy (.inl hyl) rfl (fun s2 I2 ⟨a, sb, ha⟩ => ?_) (.inr hyl))
    obtain ⟨f0, f1, f2, f3, f4, f5⟩ := f
    have haC : C ≠ a := by
      rcases ha with z | z
      · rw [z]; exact f1
      · exact fun e => f4 y a z e.symm
    refine ⟨m, hn.sameBut sb haC, fun h3 sb3 => ?_⟩
    exact ⟨_, H', I2.turned (t' := s2.toks) (fun b o hb e => (sb3.2 b hb).trans e) f0 f1 f3 f4 f5, q⟩⟩
/-! ### more tests, powers -/
theorem rt_isN {j : Nat} {p' : Pos} (a : RE X ea fa) : RT X (.Compare ea [.Is] [.Constant .none j p'] pos) (tVal (eIsN fa)) :=
  ⟨fun {L env Q Ex} h {W B T G σ H R F} hn tk o n xc => mT_of (pt_cmp (pc_isN pe_max) rfl) (a.ok (post_bnd (post_bnd h)) hn tk o (fun T1 L1 G1 H1 v x q t1 o1 => by
    obtain ⟨b, hb, q⟩ := post_bopt q
    have e := isN_ok o1.f.2 hb
    refine ⟨_, rfl, ?_⟩
    rw [e]
    exact n T1 L1 G1 H1 b q t1 (o1.drop o.st)) xc)⟩
theorem rt_notN {j : Nat} {p' : Pos} (a : RE X ea fa) : RT X (.Compare ea [.IsNot] [.Constant .none j p'] pos) (tVal (eNotN fa)) :=
  ⟨fun {L env Q Ex} h {W B T G σ H R F} hn tk o n xc => mT_of (pt_cmp (pc_notN pe_max) rfl) (a.ok (post_bnd (post_bnd h)) hn tk o (fun T1 L1 G1 H1 v x q t1 o1 => by
    obtain ⟨b, hb, q⟩ := post_bopt q
    have e := isN_ok o1.f.2 hb
    refine ⟨_, rfl, ?_⟩
    rw [e]
    exact n T1 L1 G1 H1 (!b) q t1 (o1.drop o.st)) xc)⟩
theorem chain_ok {r r' : R2} {g g' : Int → Int → Bool} (e1 : r = rI0 fun i j => .bl (g i j)) (e2 : r' = rI0 fun i j => .bl (g' i j)) (a : RE X ea fa) (b : RE X eb fb) (c : RE X ec fc) {L : OL} {env : VEnv} {Q : QV} {Ex : XQ} (h : post (eChain g g' fa fb fc L env) Q Ex) {W : WX} {B : Fra} {T : Tb} {G : Hp} {σ : L2.St} {H : Hp} {R : VK} {F : Hp → Prop} (hn : B.n = X.N.length) (tk : Takes X W) (o : OkF (kw X) B T L G σ H env F) (n : Nrm (kw X) B T σ env F Q R) (xc : Xc (kw X) B T σ env F Ex W) :
    tChain r r' (mE X ea) (mE X eb) (mE X ec) σ H R := by
  subst e1 e2
  refine a.ok (post_bnd h) hn tk o (fun T1 L1 G1 H1 v x q1 t1 o1 => b.ok (post_bnd q1) hn tk o1 (fun T2 L2 G2 H2 u y q2 t2 o2 => by
    obtain ⟨⟨i, j⟩, hij, q2⟩ := post_bopt q2
    have rx := (o2.f.1.2 : DRep (kw X) T1 G2 v x).mono (Sm.refl _) t2
    have ry : DRep (kw X) T2 G2 u y := o2.f.2
    have e := int2_of (DReps.cons rx (.cons ry .nil)) hij
    obtain ⟨rfl, rfl⟩ : v = .int i ∧ u = .int j := by simpa using e
    have o3 := o2.as o.st o2.f.1.1
    have n3 := n.on (t1.trans t2)
    refine ⟨i, j, rfl, rfl, g i j, rfl, ?_⟩
    have q2' : post (br (g i j) (bnd (fc L2 env) fun L3 z => bnd (opt L3 (int2 [y, z])) fun L3 jk => some (.val L3 (.d (.bl (g' jk.1 jk.2))))) (some (.val L2 (.d (.bl false))))) Q Ex := q2
    clear q2
    generalize g i j = bb at q2'
    cases bb with
    | false => exact n3.d o3 q2' (.bl _)
    | true =>
      refine c.ok (post_bnd q2') hn tk (o3.push (stab_drep (.int j) y) ry) (fun T4 L4 G4 H4 z' z q4 t4 o4 => ?_) ((xc.on (t1.trans t2)).more (List.prefix_refl _) o.st)
      obtain ⟨⟨j', k⟩, hjk, q4⟩ := post_bopt q4
      have e4 := int2_of (DReps.cons ((o4.f.1.2 : DRep (kw X) T2 G4 (.int j) y).mono (Sm.refl _) t4) (.cons o4.f.2 .nil)) hjk
      obtain ⟨e5, rfl⟩ : V.int j = .int j' ∧ z' = .int k := by simpa using e4
      cases e5
      exact ⟨j, k, rfl, rfl, n3 T4 L4 G4 H4 _ _ q4 t4 ((o4.as o.st o4.f.1.1).push (stab_drep _ _) (.d (.bl _)))⟩) (xc.more t1 o.st)) xc
theorem rt_chain {op op' : CmpOp} {g g' : Int → Int → Bool} (h1 : OpR X (compareOp op) (rI0 fun i j => .bl (g i j))) (h2 : OpR X (compareOp op') (rI0 fun i j => .bl (g' i j))) (a : RE X ea fa) (b : RE X eb fb) (c : RE X ec fc) (hm : lastMarks [op, op'] [eb, ec] = false) : RT X (.Compare ea [op, op'] [eb, ec] pos) (tVal (eChain g g' fa fb fc)) :=
  ⟨fun {L env Q Ex} h {W B T G σ H R F} hn tk o n xc => mT_of (pt_chain h1 h2 pe_max pe_max pe_max hm) (chain_ok (R := fun v H1 => ∃ k, v = .bl k ∧ R k H1) rfl rfl a b c (post_bnd h) hn tk o (fun T1 L1 G1 H1 v x q t1 o1 => by
    obtain ⟨k, hk, q⟩ := post_opt q
    exact ⟨k, bool_of o1.f.2 hk, n T1 L1 G1 H1 k q t1 (o1.drop o.st)⟩) xc)⟩
def fPow : D → D → Option Res := fInt (fun i j => decide (0 ≤ j) && (decide (j ≤ 1000000) && Nat.blt i.natAbs 18446744073709551616)) fun i j => .int (i ^ j.toNat)
theorem v_pow : OpV X (binaryOp .Pow) fPow := ok_int (c := CPow) op_pow (fun i j h => by
  simp only [Bool.and_eq_true, decide_eq_true_eq] at h
  exact ⟨h.1, h.2.1, by have := h.2.2; simpa using this⟩) fun _ _ _ => .int _
def tIf (c a b : Et) : Et := fun L env => bnd (c L env) fun L1 k => br k (a L1 env) (b L1 env)
theorem rt_if {tc ta tb : Et} (c : RT X ec tc) (a : RT X ea ta) (b : RT X eb tb) : RT X (.IfExp ec ea eb pos) (tIf tc ta tb) :=
  ⟨fun {L env Q Ex} h {W B T G σ H R F} hn tk o n xc pins s I => by
    show wpAny _ _ (do if ← isTrue ec X.env (eval ec X.env) then isTrue ea X.env (eval ea X.env) else isTrue eb X.env (eval eb X.env)) _ _ s
    refine wpAny_bind (thn (c.ok (post_bnd h) hn tk o (R := fun k H1 => ∃ T1 L1 G1, T <+: T1 ∧ OkF (kw X) B T1 L1 G1 σ H1 env F ∧ post (br k (ta L1 env) (tb L1 env)) Q Ex) (fun T1 L1 G1 H1 k q t1 o1 => ⟨T1, L1, G1, t1, o1, q⟩) xc pins s I) fun k s1 ⟨H1, I1, T1, L1, G1, t1, o1, q⟩ => ?_)
    cases k with
    | true => exact a.ok q hn tk o1 (n.on t1) (xc.on t1) pins s1 I1
    | false => exact b.ok q hn tk o1 (n.on t1) (xc.on t1) pins s1 I1⟩
end
end FL

set_option Elab.async false
set_option linter.all false
set_option maxRecDepth 100000
set_option maxHeartbeats 4000000
/-! ### tuples compared, item by item, while the state goes on -/
namespace GQ
open PySem PySem.SeqAt
open AutoSeq1 (wpAny_loadPart')
open MeetsSeq MeetsSeq2 MeetsSeq3 SeqRoads2
section
variable {prog : Program} {w : World} {A : Around} {R : Result → Shared → Prop}
theorem tuple_eqN (l b : Addr) (items items2 : Array Value) (n n2 : Nat) (dd dd2 : Option Addr) (sl sl2 : Array (Option Value)) (I : Nat → Shared → Prop) (J : Shared → Prop)
    (turn : ∀ i (h1 : i < items.size) (h2 : i < items2.size) s, I i s → wpAny (model prog w) A.in1 (eqBool items[i] items2[i]) (fun r s' => (r = true ∧ I (i + 1) s') ∨ (r = false ∧ J s')) (fun e s' => R (.error e) s') s)
    (out : ∀ s, J s → R (.ok (.ret (.bool false))) s)
    (fin : ∀ s, I (min items.size items2.size) s → R (.ok (.ret (.bool (items.size == items2.size)))) s) {s : Shared} (hl1 : s.heap.get? l = some { cls := .type "tuple", dict := dd, data := .seq items n, slots := sl }) (hb1 : s.heap.get? b = some { cls := .type "tuple", dict := dd2, data := .seq items2 n2, slots := sl2 }) (h : I 0 s) :
    wpAny (model prog w) A.in1 (Builtin.«tuple.__eq__» ⟨[.ref l, .ref b], []⟩) (FinOf prog w A R) (fun e s' => R (.error e) s') s := by
  have f2 := AutoSeq1.sub_tuple_tuple
  have hZ : (items.toList.zip items2.toList).length = min items.size items2.size := by simp
  have h0 := h
  obtain ⟨hp, g, d, tk, os⟩ := s
  wp_walk using wpAny_loadPart' hl1, wpAny_loadPart' hb1, wpAny_forIn_list _ (fun rest b s' => b.1 = none ∧ ∃ i, rest = (items.toList.zip items2.toList).drop i ∧ i ≤ min items.size items2.size ∧ I i s') _
  case turn =>
    rintro ⟨y, x⟩ rest b s' ⟨hb', i, hz, hi, hI⟩
    have hlt : i < (items.toList.zip items2.toList).length := by
      rcases Nat.lt_or_ge i (items.toList.zip items2.toList).length with h' | h'
      · exact h'
      · rw [List.drop_of_length_le h'] at hz; cases hz
    have hm : i < min items.size items2.size := hZ ▸ hlt
    have h1 : i < items.size := Nat.lt_of_lt_of_le hm (Nat.min_le_left _ _)
    have h2 : i < items2.size := Nat.lt_of_lt_of_le hm (Nat.min_le_right _ _)
    rw [List.drop_eq_getElem_cons hlt] at hz
    injection hz with hyx hrest
    have hy : y = items[i] := by have := congrArg Prod.fst hyx; simpa using this
    have hx : x = items2[i] := by have := congrArg Prod.snd hyx; simpa using this
    subst hy hx
    refine wpAny_bind (wpAny_mono (turn i h1 h2 s' hI) (fun r s2 q2 => ?_) fun _ _ x => x)
    rcases q2 with ⟨hr, q2⟩ | ⟨hr, q2⟩
    · subst hr
      wp_walk
      exact ⟨rfl, i + 1, hrest, hm, q2⟩
    · subst hr
      have hR := out s2 q2
      wp_walk
      exact hR
  case fin =>
    rintro ⟨b1, b2⟩ s' ⟨hb', i, hz, hi, hI⟩
    simp only at hb'
    subst hb'
    have hge : min items.size items2.size ≤ i := by
      rcases Nat.lt_or_ge i (items.toList.zip items2.toList).length with h' | h'
      · rw [List.drop_eq_getElem_cons h'] at hz; cases hz
      · exact hZ ▸ h'
    have hi' : i = min items.size items2.size := by omega
    have hR := fin s' (hi' ▸ hI)
    wp_walk
    simpa [Builtin.Tuple.tupleCompareSizes] using hR
  case h =>
    exact ⟨rfl, 0, rfl, Nat.zero_le _, h0⟩
theorem tuple_neN (l b : Addr) (items items2 : Array Value) (n n2 : Nat) (dd dd2 : Option Addr) (sl sl2 : Array (Option Value)) (I : Nat → Shared → Prop) (J : Shared → Prop)
    (turn : ∀ i (h1 : i < items.size) (h2 : i < items2.size) s, I i s → wpAny (model prog w) A.in1 (eqBool items[i] items2[i]) (fun r s' => (r = true ∧ I (i + 1) s') ∨ (r = false ∧ J s')) (fun e s' => R (.error e) s') s)
    (out : ∀ s, J s → R (.ok (.ret (.bool true))) s)
    (fin : ∀ s, I (min items.size items2.size) s → R (.ok (.ret (.bool (items.size != items2.size)))) s) {s : Shared} (hl1 : s.heap.get? l = some { cls := .type "tuple", dict := dd, data := .seq items n, slots := sl }) (hb1 : s.heap.get? b = some { cls := .type "tuple", dict := dd2, data := .seq items2 n2, slots := sl2 }) (h : I 0 s) :
    wpAny (model prog w) A.in1 (Builtin.«tuple.__ne__» ⟨[.ref l, .ref b], []⟩) (FinOf prog w A R) (fun e s' => R (.error e) s') s := by
  have f2 := AutoSeq1.sub_tuple_tuple
  have hZ : (items.toList.zip items2.toList).length = min items.size items2.size := by simp
  have h0 := h
  obtain ⟨hp, g, d, tk, os⟩ := s
  wp_walk using wpAny_loadPart' hl1, wpAny_loadPart' hb1, wpAny_forIn_list _ (fun rest b s' => b.1 = none ∧ ∃ i, rest = (items.toList.zip items2.toList).drop i ∧ i ≤ min items.size items2.size ∧ I i s') _
  case turn =>
    rintro ⟨y, x⟩ rest b s' ⟨hb', i, hz, hi, hI⟩
    have hlt : i < (items.toList.zip items2.toList).length := by
      rcases Nat.lt_or_ge i (items.toList.zip items2.toList).length with h' | h'
      · exact h'
      · rw [List.drop_of_length_le h'] at hz; cases hz
    have hm : i < min items.size items2.size := hZ ▸ hlt
    have h1 : i < items.size := Nat.lt_of_lt_of_le hm (Nat.min_le_left _ _)
    have h2 : i < items2.size := Nat.lt_of_lt_of_le hm (Nat.min_le_right _ _)
    rw [List.drop_eq_getElem_cons hlt] at hz
    injection hz with hyx hrest
    have hy : y = items[i] := by have := congrArg Prod.fst hyx; simpa using this
    have hx : x = items2[i] := by have := congrArg Prod.snd hyx; simpa using this
    subst hy hx
    refine wpAny_bind (wpAny_mono (turn i h1 h2 s' hI) (fun r s2 q2 => ?_) fun _ _ x => x)
    rcases q2 with ⟨hr, q2⟩ | ⟨hr, q2⟩
    · subst hr
      wp_walk
      exact ⟨rfl, i + 1, hrest, hm, q2⟩
    · subst hr
      have hR := out s2 q2
      wp_walk
      exact hR
  case fin =>
    rintro ⟨b1, b2⟩ s' ⟨hb', i, hz, hi, hI⟩
    simp only at hb'
    subst hb'
    have hge : min items.size items2.size ≤ i := by
      rcases Nat.lt_or_ge i (items.toList.zip items2.toList).length with h' | h'
      · rw [List.drop_eq_getElem_cons h'] at hz; cases hz
      · exact hZ ▸ h'
    have hi' : i = min items.size items2.size := by omega
    have hR := fin s' (hi' ▸ hI)
    wp_walk
    simpa [Builtin.Tuple.tupleCompareSizes] using hR
  case h =>
    exact ⟨rfl, 0, rfl, Nat.zero_le _, h0⟩
end
section
variable {prog : Program} {w : World} {A : Around} {E : Value → Shared → Prop} {s : Shared}
theorem rc_tupN {l b : Addr} {items items2 : Array Value} {Q : Value → Shared → Prop} (hu : A.units < cLine) (I : Nat → Shared → Prop) (J : Shared → Prop)
    (hl : s.heap.IsTuple l items) (hb : s.heap.IsTuple b items2)
    (turn : ∀ i (h1 : i < items.size) (h2 : i < items2.size) s, I i s → wpAny (model prog w) A.in1 (eqBool items[i] items2[i]) (fun r s' => (r = true ∧ I (i + 1) s') ∨ (r = false ∧ J s')) E s)
    (out : ∀ s, J s → Q (.bool false) s)
    (fin : ∀ s, I (min items.size items2.size) s → Q (.bool (items.size == items2.size)) s) (h : I 0 s) : wpAny (model prog w) A (richCompare .Eq (.ref l) (.ref b)) Q E s := by
  obtain ⟨⟨cls, dd, data, sl⟩, ho, hc, n, hd⟩ := id hl
  obtain ⟨⟨cls2, dd2, data2, sl2⟩, ho2, hc2, n2, hd2⟩ := id hb
  simp only at hc hd hc2 hd2
  subst hc hd hc2 hd2
  refine wpAny_richCompare_same_room (op := .Eq) ⟨_, ho, rfl⟩ ⟨_, ho2, rfl⟩ F.slot_tuple_eq (call_here F.slot_tuple_eq ⟨_, ho, rfl⟩ F.entry_tuple_eq (F.args_tuple_eq_2 _ _) ?_) hu
  exact tuple_eqN (R := wants (fun v s' => v ≠ .notImplemented ∧ Q v s') E) l b items items2 n n2 dd dd2 sl sl2 I J turn (fun s' q => ⟨(fun x => nomatch x), out s' q⟩) (fun s' q => ⟨(fun x => nomatch x), fin s' q⟩) ho ho2 h
theorem rn_tupN {l b : Addr} {items items2 : Array Value} {Q : Value → Shared → Prop} (hu : A.units < cLine) (I : Nat → Shared → Prop) (J : Shared → Prop)
    (hl : s.heap.IsTuple l items) (hb : s.heap.IsTuple b items2)
    (turn : ∀ i (h1 : i < items.size) (h2 : i < items2.size) s, I i s → wpAny (model prog w) A.in1 (eqBool items[i] items2[i]) (fun r s' => (r = true ∧ I (i + 1) s') ∨ (r = false ∧ J s')) E s)
    (out : ∀ s, J s → Q (.bool true) s)
    (fin : ∀ s, I (min items.size items2.size) s → Q (.bool (items.size != items2.size)) s) (h : I 0 s) : wpAny (model prog w) A (richCompare .NotEq (.ref l) (.ref b)) Q E s := by
  obtain ⟨⟨cls, dd, data, sl⟩, ho, hc, n, hd⟩ := id hl
  obtain ⟨⟨cls2, dd2, data2, sl2⟩, ho2, hc2, n2, hd2⟩ := id hb
  simp only at hc hd hc2 hd2
  subst hc hd hc2 hd2
  refine wpAny_richCompare_same_room (op := .NotEq) ⟨_, ho, rfl⟩ ⟨_, ho2, rfl⟩ F.slot_tuple_ne (call_here F.slot_tuple_ne ⟨_, ho, rfl⟩ F.entry_tuple_ne (F.args_tuple_ne_2 _ _) ?_) hu
  exact tuple_neN (R := wants (fun v s' => v ≠ .notImplemented ∧ Q v s') E) l b items items2 n n2 dd dd2 sl sl2 I J turn (fun s' q => ⟨(fun x => nomatch x), out s' q⟩) (fun s' q => ⟨(fun x => nomatch x), fin s' q⟩) ho ho2 h
end
end GQ

set_option Elab.async false
set_option linter.all false
set_option maxRecDepth 100000
set_option maxHeartbeats 4000000
namespace FL
open PySem PySem.Spec PyProof.Rows L2
/-! ### a call that lends nothing -/
theorem mrg_nil (L L' : OL) : mrg [] L L' = L ++ L'.map (muE [] L.length) := by
  unfold mrg
  simp [setAll]
theorem hnds_d : ∀ ds : List D, hnds (ds.map DV.d) = []
  | [] => rfl
  | d :: ds => by rw [List.map_cons, hnds, hnds_d ds]
theorem renVs_d (ks : List Nat) (L : OL) : ∀ ds : List D, renVs ks L (ds.map DV.d) = some (ds.map DV.d)
  | [] => rfl
  | d :: ds => by rw [List.map_cons, renVs, renVs_d ks L ds]; rfl
theorem callF_d {m : Fn} {L : OL} {ds : List D} : callF m L (ds.map DV.d) = (match m [] (ds.map DV.d) with
    | some (.val L' x) => some (.val (L ++ L'.map (muE [] L.length)) (muV [] L.length x))
    | some (.exc L' x) => some (.exc (L ++ L'.map (muE [] L.length)) x)
    | none => none : Mo DV) := by
  unfold callF
  rw [hnds_d, show reach 200 L [] [] = [] from rfl, renVs_d]
  show (match m (renL [] L) (ds.map DV.d) with
    | some (.val L' x) => br (Nat.ble 0 L'.length) (some (.val (mrg [] L L') (muV [] L.length x))) none
    | some (.exc L' x) => br (Nat.ble 0 L'.length) (some (.exc (mrg [] L L') x)) none
    | none => none : Mo DV) = _
  rw [show renL [] L = [] from rfl]
  cases m [] (ds.map DV.d) with
  | none => rfl
  | some o => cases o <;> (dsimp only; rw [mrg_nil]; simp [br, Nat.ble])
/-! ### == by an own __eq__ -/
structure EqB (P : Program) (W : World) (K : PySem.W.Frag) (mg : Str → Option Value) (base : Heap) (C : Str) (k : Nat) (m : Fn) : Prop where
  ex : ∃ (f : Addr) (fd : FuncData), PySem.W.findIn K (.ref (He.ga K C)) "__eq__" = some (some (.ref f)) ∧ PySem.W.isFn K (.ref f) = true ∧ Binds K fd ["self", "other"] [] ∧ FnV P W K mg base k f fd ["self", "other"] (SpF ⟨K, P, W⟩ m)
  ne : PySem.W.findIn K (.ref (He.ga K C)) "__ne__" = some (some (.builtin "object.__ne__"))
  ob : PySem.W.mroIn K (He.ga K C) (.type "object") = some true
  rf : ∀ (a : D) (r : Bool), m [] [.d a, .d a] = some (.val [] (.d (.bl r))) → r = true
theorem objNe_own {prog : Program} {W : World} {B : Around} {E : Value → Shared → Prop} {K : PySem.W.Frag} {s : Shared} {x y C f : Addr} {ox : Obj} {od : Option Obj} (kin : K.In s.heap) (J : PySem.W.InstAt s.heap x ox C od) (hs : PySem.W.findIn K (.ref C) "__eq__" = some (some (.ref f))) (hf : PySem.W.isFn K (.ref f) = true) (hu : B.units < cLine)
    {Q : Fin → Shared → Prop} (hc : wpAny (model prog W) B (call (.ref f) [.ref x, .ref y]) (fun v s' => ∃ b, v = .bool b ∧ Q (.done (.ret (.bool (!b)))) s') E s) : wpAny (model prog W) B (Builtin.«object.__ne__» ⟨[.ref x, .ref y], []⟩) Q E s := by
  obtain ⟨hp, g, d, tk, os⟩ := s
  unfold Builtin.«object.__ne__»
  repeat (first
    | with_reducible refine wpAny_cRoomFor hu ?_
    | (refine wpAny_bind (m := callSpecialIfBound? (.ref x) (Str.ofString "__eq__") [.ref y]) (PySem.W.ifBound_K kin J hs hf (wpAny_mono hc (fun r s' hr => ?_) fun _ _ e => e)); obtain ⟨b, rfl, hq⟩ := hr)
    | exact hq | exact wpAny_pure hq | exact wpAny_truthy_bool hq | (refine wpAny_bind (m := truthy (.bool _)) (wpAny_truthy_bool ?_))
    | wp_step)
theorem guards_inA {A : Around} (hg : A.guards = some []) : A.in1.guards = some [] := by
  first | exact hg | (simpa [Around.in1, Around.guards, Code.isGuard, guardIds] using hg)
def runEq (m : Fn) (a b : D) : Option Bool := match m [] [.d a, .d b] with
  | some (.val [] (.d (.bl r))) => some r
  | _ => none
def plO : D → Bool
  | .obj _ fs => pls (fs.map (·.2))
  | _ => false
abbrev EqT := List (Str × Nat × Fn)
def eqO (k : Nat) (qs : EqT) (a b : D) : Option Bool := match a, b with
  | .obj C _, .obj C' _ => match sEq C C', fget C qs with
    | true, some q => br (Nat.ble (q.1 + 2) k) (runEq q.2 a b) none
    | _, _ => none
  | _, _ => none
def eqE (k : Nat) (qs : EqT) (a b : D) : Option Bool := match eqv a b with
  | some r => br (plB a b) (some r) none
  | none => br (plO a && plO b) (eqO k qs a b) none
def eqEs (k : Nat) (qs : EqT) : List D → List D → Option Bool
  | x :: xs, y :: ys => match eqE k qs x y with
    | some true => eqEs k qs xs ys
    | some false => some false
    | none => none
  | _, _ => some true
def eqTp (k : Nat) (qs : EqT) (a b : D) : Option Bool := match a, b with
  | .tup xs, .tup ys => match eqEs k qs xs ys with
    | some true => some (Nat.beq xs.length ys.length)
    | some false => some false
    | none => none
  | _, _ => none
def eqU (k : Nat) (qs : EqT) (a b : D) : Option Bool := match eqO k qs a b with
  | some r => some r
  | none => match Nat.ble 2 k with
    | true => eqTp k qs a b
    | false => none
theorem runEq_of {m : Fn} {a b : D} {r : Bool} (h : runEq m a b = some r) : m [] [.d a, .d b] = some (.val [] (.d (.bl r))) := by
  unfold runEq at h
  split at h
  · rename_i h1; cases h; exact h1
  · cases h
section
variable {X : Cx} {A : Around} {pins : List (Addr × Obj)} {s : Shared} {τ σ : L2.St} {B : Fra} {T : Tb} {L : OL} {G H : Hp} {env : VEnv} {F : Hp → Prop} {x y : V} {u v : Value} {a b : D} {r : Bool} {C : Str} {k k' : Nat} {m : Fn} {qs : EqT}
/-- the state, gone on -/
def Go (X : Cx) (pins : List (Addr × Obj)) (τ σ : L2.St) (B : Fra) (T : Tb) (L : OL) (G : Hp) (env : VEnv) (F : Hp → Prop) (s' : Shared) : Prop := ∃ G' H', Sm G G' ∧ Inv X pins τ H' s' ∧ OkF (kw X) B T L G' σ H' env F
theorem own_call (q : EqB X.prog X.w X.K X.mg X.base C k m) (h : m [] [.d a, .d b] = some (.val [] (.d (.bl r)))) (I : Inv X pins τ H s) (o : OkF (kw X) B T L G σ H env F) (rx : Rep (kw X) G x a) (ry : Rep (kw X) G y b) :
    SpF (kw X) m [x, y] H (fun v H' => v = .bl r ∧ ∃ G', Sm G G' ∧ OkF (kw X) B T L G' σ H' env F) (fun _ _ _ => False) := by
  have e : callF m L ([a, b].map DV.d) = some (.val L (.d (.bl r))) := by
    rw [callF_d]
    show (match m [] [.d a, .d b] with
      | some (.val L' x) => some (.val (L ++ L'.map (muE [] L.length)) (muV [] L.length x))
      | some (.exc L' x) => some (.exc (L ++ L'.map (muE [] L.length)) x)
      | none => none : Mo DV) = _
    rw [h]
    simp [muV]
  have o2 := o.push (P := fun G' => Sm G G') (fun _ _ e h => h.trans e) (Sm.refl _)
  refine call_sp (K := kw X) (W := fun _ _ _ _ => False) (Q := fun L' x => L' = L ∧ x = .d (.bl r)) (Ex := fun _ _ => False) (ys := [a, b].map DV.d) o2 (.cons (.d rx) (.cons (.d ry) .nil)) (by rw [e]; exact ⟨rfl, rfl⟩) ?_ (fun _ _ _ _ _ _ _ z => z.elim)
  rintro T' L' G' H' v z ⟨rfl, rfl⟩ t o'
  have et : T = T' := t.eq_of_length (by rw [o.tl, o'.tl])
  subst et
  refine ⟨?_, G', o'.f.1.2, o'.as o.st o'.f.1.1⟩
  have rz := o'.f.2
  cases rz with
  | d rz => cases rz; rfl
theorem own_run (q : EqB X.prog X.w X.K X.mg X.base C k m) (sb : Sub X k A) (hg : A.guards = some []) (h : m [] [.d a, .d b] = some (.val [] (.d (.bl r)))) (I : Inv X pins τ H s) (o : OkF (kw X) B T L G σ H env F) (rx : Rep (kw X) G x a) (ry : Rep (kw X) G y b) (ux : RelV x u) (uy : RelV y v) {E : Value → Shared → Prop} :
    ∃ f, PySem.W.findIn X.K (.ref (He.ga X.K C)) "__eq__" = some (some (.ref f)) ∧ PySem.W.isFn X.K (.ref f) = true ∧ wpAny (model X.prog X.w) A (call (.ref f) [u, v]) (fun w s' => w = .bool r ∧ Go X pins τ σ B T L G env F s') E s := by
  obtain ⟨⟨f, fd, h1, h2, h3, Fn⟩, _, _, _⟩ := q
  refine ⟨f, h1, h2, ?_⟩
  have e := I.env0
  have e0 : Env0 X.prog X.w X.K X.mg X.base A X.stack s H := ⟨by rw [sb.fr]; exact e.frames, e.mod, e.bs, e.bsz, e.funs, e.frf, e.hok, e.bare⟩
  have bt := h3 s [u, v] I.kIn rfl
  refine wpAny_call (codeAny_mono (Fn.run A X.stack s H ⟨[u, v], []⟩ [u, v] [x, y] _ _ hg sb.room e0 bt (.cons ux (.cons uy .nil)) (own_call ⟨⟨f, fd, h1, h2, h3, Fn⟩, by assumption, by assumption, by assumption⟩ h I o rx ry)) fun res s' hq => ?_)
  cases res with
  | error er => obtain ⟨_, _, _, _, _, _, _, _, _, _, _, _, hE⟩ := hq; exact hE.elim
  | ok fl =>
    cases fl with
    | ret w =>
      obtain ⟨z, H', I', rz, ez, G', sm, o'⟩ := I.after hq
      subst ez
      cases rz
      exact ⟨rfl, G', H', sm, I', o'⟩
    | next => exact False.elim hq
    | brk => exact False.elim hq
    | cont => exact False.elim hq
theorem rc_obj {fs gs : List (Str × D)} (q : EqB X.prog X.w X.K X.mg X.base C k m) (sb : Sub X k A) (hg : A.guards = some []) (h : m [] [.d (.obj C fs), .d (.obj C gs)] = some (.val [] (.d (.bl r)))) (I : Inv X pins τ H s) (o : OkF (kw X) B T L G σ H env F) (rx : Rep (kw X) G x (.obj C fs)) (ry : Rep (kw X) G y (.obj C gs)) (ux : RelV x u) (uy : RelV y v) :
    wpAny (model X.prog X.w) A (richCompare .Eq u v) (fun w s' => w = .bool r ∧ Go X pins τ σ B T L G env F s') X.xe s := by
  have rx0 := rx
  have ry0 := ry
  cases rx with
  | obj g1 k1 r1 =>
    rename_i pa dx us
    cases ry with
    | obj g2 k2 r2 =>
      rename_i pb dy ws
      cases ux; cases uy
      obtain ⟨mA, J, _⟩ := ins_get I.hok (ex_ins o.sub g1)
      obtain ⟨mB, J', _⟩ := ins_get I.hok (ex_ins o.sub g2)
      obtain ⟨od, J, _⟩ := J.look
      obtain ⟨od', J', _⟩ := J'.look
      obtain ⟨fr, hF⟩ := I.fr
      obtain ⟨f, hs, hf, hc⟩ := own_run q sb hg h I o rx0 ry0 rfl rfl (E := X.xe)
      refine PySem.W.cmp_K (op := .Eq) (tb := .ref (He.ga X.K C)) sb.room.units0 hF I.ok.mod.kin J J'.type (by simp [PySem.W.notFirst, ga]) hs hf (wpAny_mono hc (fun w s' hw => ?_) fun _ _ z => z)
      obtain ⟨rfl, q'⟩ := hw
      exact ⟨rfl, q'⟩
theorem rn_obj {fs gs : List (Str × D)} (q : EqB X.prog X.w X.K X.mg X.base C k m) (sb : Sub X (k + 1) A) (hg : A.guards = some []) (h : m [] [.d (.obj C fs), .d (.obj C gs)] = some (.val [] (.d (.bl r)))) (I : Inv X pins τ H s) (o : OkF (kw X) B T L G σ H env F) (rx : Rep (kw X) G x (.obj C fs)) (ry : Rep (kw X) G y (.obj C gs)) (ux : RelV x u) (uy : RelV y v) :
    wpAny (model X.prog X.w) A (richCompare .NotEq u v) (fun w s' => w = .bool (!r) ∧ Go X pins τ σ B T L G env F s') X.xe s := by
  have rx0 := rx
  have ry0 := ry
  cases rx with
  | obj g1 k1 r1 =>
    rename_i pa dx us
    cases ry with
    | obj g2 k2 r2 =>
      rename_i pb dy ws
      cases ux; cases uy
      obtain ⟨mA, J, _⟩ := ins_get I.hok (ex_ins o.sub g1)
      obtain ⟨mB, J', _⟩ := ins_get I.hok (ex_ins o.sub g2)
      obtain ⟨od, J, _⟩ := J.look
      obtain ⟨od', J', _⟩ := J'.look
      have kin := I.kIn
      have hu := sb.room.un
      obtain ⟨f, hs, hf, hc⟩ := own_run q sb.in1 (guards_inA hg) h I o rx0 ry0 rfl rfl (E := X.xe)
      have run : ∀ E' : Value → Shared → Prop, wpAny (model X.prog X.w) A.in1 (call (.ref f) [.ref pa, .ref pb]) (fun w s' => w = .bool r ∧ Go X pins τ σ B T L G env F s') E' s := fun E' => by
        obtain ⟨f', hs', _, hc'⟩ := own_run q sb.in1 (guards_inA hg) h I o rx0 ry0 rfl rfl (E := E')
        rw [hs] at hs'
        cases hs'
        exact hc'
      have one : wpAny (model X.prog X.w) A (tryCompare (.ref pa) "__ne__" (.ref pb)) (fun w s' => ∃ z, w = some z ∧ z = .bool (!r) ∧ Go X pins τ σ B T L G env F s') X.xe s := by
        unfold tryCompare
        refine wpAny_bind (NtL.csib (J.type.andThen (PySem.W.looks_findIn kin q.ne)) (PySem.F.cmp_object.ne.bind _) (wpAny_call (codeAny_call_builtin PySem.F.cmp_object.ne.plain PySem.F.cmpEntry_ne (PySem.W.check_slot PySem.F.cmpKind_ne PySem.F.cmpSplit_ne (J.type.andThen (PySem.W.looks_mroIn kin q.ob)) (PySem.F.cmpArgs_ne _ _) (objNe_own kin J hs hf (by show A.units + 1 < cLine; omega) (wpAny_mono (run _) (fun w s' hw => ?_) fun _ _ z => z))))))
        obtain ⟨rfl, q'⟩ := hw
        exact ⟨r, rfl, wpAny_pure ⟨_, rfl, rfl, q'⟩⟩
      unfold richCompare
      simp only [oneThing_ref]
      refine wpAny_holding (wpAny_bind (wpAny_cRoomFor (by omega) ?_))
      rw [cmpInfo_NotEq]
      dsimp only
      refine wpAny_bind (J.type.here (wpAny_bind (J'.type.here ?_)))
      rw [show (Value.ref (ga (kw X) C) != Value.ref (ga (kw X) C)) = false from by simp]
      simp only [Bool.false_eq_true, if_false]
      refine wpAny_bind (wpAny_pure ?_)
      simp only [Bool.false_eq_true, if_false]
      refine wpAny_bind (wpAny_mono one (fun w s' hr => ?_) fun _ _ z => z)
      obtain ⟨z, rfl, q'⟩ := hr
      exact wpAny_pure q'
end
end FL

set_option Elab.async false
set_option linter.all false
set_option maxRecDepth 100000
set_option maxHeartbeats 4000000
namespace FL
open PySem PySem.Spec PyProof.Rows L2
/-! ### == and != by own __eq__, also within tuples -/
theorem eqD_eq {a b : D} {r : Bool} (h : eqv a b = some r) (hp : plB a b = true) : r = PyData.eqv (py a) (py b) := by
  unfold eqv at h
  split at h <;> first
    | (cases h; simp [py, PyData.eqv, sEq, Bool.beq_eq_decide_eq]; done)
    | (rw [hp] at h; simp only [br] at h; cases h; rfl)
theorem br_some' {α : Type} {b : Bool} {o : Option α} {a : α} (h : br b o none = some a) : b = true ∧ o = some a := by
  cases b with
  | true => exact ⟨rfl, h⟩
  | false => cases h
mutual
theorem py_inj : ∀ {a b : D}, pl a = true → pl b = true → py a = py b → a = b
  | .non, b, _, hb, h => by cases b <;> first | rfl | (simp [py] at h; done) | cases hb
  | .bl _, b, _, hb, h => by cases b <;> first | (simp [py] at h; subst h; rfl) | (simp [py] at h; done) | cases hb
  | .int _, b, _, hb, h => by cases b <;> first | (simp [py] at h; subst h; rfl) | (simp [py] at h; done) | cases hb
  | .str _, b, _, hb, h => by cases b <;> first | (simp [py] at h; subst h; rfl) | (simp [py] at h; done) | cases hb
  | .lst xs, b, ha, hb, h => by
    cases b <;> first
      | (simp only [py, PyData.list.injEq] at h; rw [pys_inj (by simpa [pl] using ha) (by simpa [pl] using hb) h]; done)
      | (simp [py] at h; done)
      | cases hb
  | .tup xs, b, ha, hb, h => by
    cases b <;> first
      | (simp only [py, PyData.tuple.injEq] at h; rw [pys_inj (by simpa [pl] using ha) (by simpa [pl] using hb) h]; done)
      | (simp [py] at h; done)
      | cases hb
theorem pys_inj : ∀ {a b : List D}, pls a = true → pls b = true → pys a = pys b → a = b
  | [], [], _, _, _ => rfl
  | [], _ :: _, _, _, h => by simp [pys] at h
  | _ :: _, [], _, _, h => by simp [pys] at h
  | x :: xs, y :: ys, ha, hb, h => by
    simp only [pls, Bool.and_eq_true] at ha hb
    simp only [pys, List.cons.injEq] at h
    rw [py_inj ha.1 hb.1 h.1, pys_inj ha.2 hb.2 h.2]
end
theorem relV_ex : ∀ v : V, ∃ u, RelV v u
  | .non => ⟨_, rfl⟩
  | .bl _ => ⟨_, rfl⟩
  | .int _ => ⟨_, 0, rfl⟩
  | .str _ => ⟨_, 0, rfl⟩
  | .byt _ => ⟨_, 0, rfl⟩
  | .flt _ => ⟨_, 0, rfl⟩
  | .ref _ => ⟨_, rfl⟩
  | .ty _ => ⟨_, rfl⟩
section
variable {X : Cx} {A : Around} {pins : List (Addr × Obj)} {s : Shared} {τ σ : L2.St} {B : Fra} {T : Tb} {L : OL} {G H : Hp} {env : VEnv} {F : Hp → Prop} {x y : V} {u v : Value} {a b : D} {r : Bool} {C : Str} {k k' : Nat} {m : Fn} {qs : EqT}
theorem reps_uniq (I : Inv X pins τ H s) (sm : Sm G H) : ∀ {vs : List V} {as bs : List D}, Reps (kw X) G vs as → Reps (kw X) G vs bs → pls as = true → pls bs = true → as = bs
  | _, _, _, .nil, .nil, _, _ => rfl
  | _, _, _, .cons r1 t1, .cons r2 t2, h1, h2 => by
    simp only [pls, Bool.and_eq_true] at h1 h2
    rw [reps_uniq I sm t1 t2 h1.2 h2.2]
    obtain ⟨u, ru⟩ := relV_ex _
    obtain ⟨as, q1⟩ := Dp.reads I _ _ u (dp_mono sm (r1.dp h1.1)) ru
    obtain ⟨bs, q2⟩ := Dp.reads I _ _ u (dp_mono sm (r2.dp h2.1)) ru
    rw [py_inj h1.1 h2.1 (SeqAt.plain_unique _ _ _ _ _ (dp_plain (dp_mono sm (r1.dp h1.1))) q1 q2)]
theorem zip_ext {α β : Type} : ∀ {xs ys : List (α × β)}, xs.map (·.1) = ys.map (·.1) → xs.map (·.2) = ys.map (·.2) → xs = ys
  | [], [], _, _ => rfl
  | [], _ :: _, h, _ => by simp at h
  | _ :: _, [], h, _ => by simp at h
  | (a, b) :: xs, (c, d) :: ys, h1, h2 => by
    simp only [List.map_cons, List.cons.injEq] at h1 h2
    obtain ⟨rfl, h1⟩ := h1
    obtain ⟨rfl, h2⟩ := h2
    rw [zip_ext h1 h2]
theorem obj_uniq {fs gs : List (Str × D)} (I : Inv X pins τ H s) (sm : Sm G H) (r1 : Rep (kw X) G x (.obj C fs)) (r2 : Rep (kw X) G x (.obj C gs)) (h1 : pls (fs.map (·.2)) = true) (h2 : pls (gs.map (·.2)) = true) : fs = gs := by
  cases r1 with
  | obj g1 k1 q1 =>
    cases r2 with
    | obj g2 k2 q2 =>
      rw [g1] at g2
      cases g2
      exact zip_ext (k1.trans k2.symm) (reps_uniq I sm q1 q2 h1 h2)
def EqOks (P : Program) (W : World) (K : PySem.W.Frag) (mg : Str → Option Value) (base : Heap) (qs : EqT) : Prop := ∀ C q, fget C qs = some q → EqB P W K mg base C q.1 q.2
theorem eqO_of (h : eqO k qs a b = some r) : ∃ C fs gs q, a = .obj C fs ∧ b = .obj C gs ∧ fget C qs = some q ∧ q.1 + 2 ≤ k ∧ q.2 [] [.d a, .d b] = some (.val [] (.d (.bl r))) := by
  unfold eqO at h
  split at h
  · rename_i C fs C' gs
    split at h
    · rename_i q h1 h2
      obtain ⟨hb, h3⟩ := br_some' h
      obtain rfl := of_decide_eq_true h1
      exact ⟨C, fs, gs, q, rfl, rfl, h2, Nat.le_of_ble_eq_true hb, runEq_of h3⟩
    · cases h
  · cases h
theorem Go.refl (I : Inv X pins τ H s) (o : OkF (kw X) B T L G σ H env F) : Go X pins τ σ B T L G env F s := ⟨G, H, Sm.refl _, I, o⟩
theorem eqE_ok (qo : EqOks X.prog X.w X.K X.mg X.base qs) (sb : Sub X k A) (hg : A.guards = some []) (h : eqE (k + 2) qs a b = some r) (I : Inv X pins τ H s) (o : OkF (kw X) B T L G σ H env F) (rx : Rep (kw X) G x a) (ry : Rep (kw X) G y b) (ux : RelV x u) (uy : RelV y v) :
    wpAny (model X.prog X.w) A (eqBool u v) (fun r' s' => r' = r ∧ Go X pins τ σ B T L G env F s') X.xe s := by
  unfold eqE at h
  split at h
  · rename_i r0 hv
    obtain ⟨hp, h⟩ := br_some' h
    cases h
    obtain ⟨p1, p2, p3⟩ := plB_of hp
    obtain ⟨as, q1⟩ := Dp.reads I _ _ u (dp_mono o.sub (rx.dp p1)) ux
    obtain ⟨bs, q2⟩ := Dp.reads I _ _ v (dp_mono o.sub (ry.dp p2)) uy
    have hu := sb.room.units
    have := SeqAt.eqAt_plain (py a) (py b) A s u v as bs q1 q2 (dp_plain (dp_mono o.sub (rx.dp p1))) (dp_plain (dp_mono o.sub (ry.dp p2))) (by omega)
    rw [← eqD_eq hv hp] at this
    exact this X.prog X.w X.xe _ ⟨rfl, Go.refl I o⟩
  · obtain ⟨hp, h⟩ := br_some' h
    rw [Bool.and_eq_true] at hp
    obtain ⟨C, fs, gs, q, rfl, rfl, hq, hk, hm⟩ := eqO_of h
    have eb := qo C q hq
    have rx0 := rx
    have ry0 := ry
    cases rx with
    | obj g1 k1 r1 =>
      rename_i pa dx us
      cases ry with
      | obj g2 k2 r2 =>
        rename_i pb dy ws
        cases ux; cases uy
        by_cases hab : pa = pb
        · subst hab
          have e := obj_uniq I o.sub rx0 ry0 hp.1 hp.2
          subst e
          have hr := eb.rf _ _ hm
          subst hr
          exact SeqAt.EqAt.same (A := A) (s := s) (.ref pa) X.prog X.w X.xe _ ⟨rfl, Go.refl I o⟩
        · refine GQ.eqBool_refG hab (wpAny_mono (rc_obj eb (sb.mono (by omega)) hg hm I o rx0 ry0 rfl rfl) (fun w s' hw => ?_) fun _ _ z => z)
          exact ⟨r, hw.1, rfl, hw.2⟩
end
end FL

set_option Elab.async false
set_option linter.all false
set_option maxRecDepth 100000
set_option maxHeartbeats 4000000
namespace FL
open PySem PySem.Spec PyProof.Rows L2
section
variable {X : Cx} {A : Around} {pins : List (Addr × Obj)} {s : Shared} {τ σ : L2.St} {B : Fra} {T : Tb} {L : OL} {G G' H : Hp} {env : VEnv} {F : Hp → Prop} {x y : V} {u v : Value} {a b : D} {r R0 : Bool} {C : Str} {k k' : Nat} {m : Fn} {qs : EqT}
theorem Go.from (sm : Sm G G') (g : Go X pins τ σ B T L G' env F s) : Go X pins τ σ B T L G env F s := by
  obtain ⟨G2, H2, s2, I2, o2⟩ := g
  exact ⟨G2, H2, sm.trans s2, I2, o2⟩
theorem tup_turn (qo : EqOks X.prog X.w X.K X.mg X.base qs) (sb : Sub X (k + 1) A) (hg : A.guards = some []) {vs ws : List V} {xs ys : List D} {its its2 : List Value} (rx : Reps (kw X) G vs xs) (ry : Reps (kw X) G ws ys) (vx : Vals vs its) (vy : Vals ws its2)
    (i : Nat) (h1 : i < its.toArray.size) (h2 : i < its2.toArray.size) (s' : Shared) (h : Go X pins τ σ B T L G env F s' ∧ eqEs (k + 2) qs (xs.drop i) (ys.drop i) = some R0) :
    wpAny (model X.prog X.w) A.in1 (eqBool its.toArray[i] its2.toArray[i]) (fun r s2 => (r = true ∧ Go X pins τ σ B T L G env F s2 ∧ eqEs (k + 2) qs (xs.drop (i + 1)) (ys.drop (i + 1)) = some R0) ∨ (r = false ∧ Go X pins τ σ B T L G env F s2 ∧ R0 = false)) X.xe s' := by
  obtain ⟨⟨G1, H1, sm, I1, o1⟩, he⟩ := h
  have l1 := vx.length
  have l2 := vy.length
  have m1 := rx.length
  have m2 := ry.length
  have g1 : its[i]? = some its.toArray[i] := by
    have h1' : i < its.length := by simpa using h1
    rw [List.getElem?_eq_getElem h1'] <;> simp
  have g2 : its2[i]? = some its2.toArray[i] := by
    have h2' : i < its2.length := by simpa using h2
    rw [List.getElem?_eq_getElem h2'] <;> simp
  have k1 : i < vs.length := by rw [l1]; simpa using h1
  have k2 : i < ws.length := by rw [l2]; simpa using h2
  obtain ⟨u, hu, ru⟩ := vx.get (List.getElem?_eq_getElem k1)
  obtain ⟨v, hv, rv⟩ := vy.get (List.getElem?_eq_getElem k2)
  rw [g1] at hu
  rw [g2] at hv
  rw [Option.some.inj hu, Option.some.inj hv]
  obtain ⟨d, hd, rd⟩ := rx.getV (List.getElem?_eq_getElem k1)
  obtain ⟨e, hee, re⟩ := ry.getV (List.getElem?_eq_getElem k2)
  have ed : xs.drop i = d :: xs.drop (i + 1) := by
    obtain ⟨l, q⟩ := List.getElem?_eq_some_iff.mp hd
    rw [← q]; exact List.drop_eq_getElem_cons l
  have ee : ys.drop i = e :: ys.drop (i + 1) := by
    obtain ⟨l, q⟩ := List.getElem?_eq_some_iff.mp hee
    rw [← q]; exact List.drop_eq_getElem_cons l
  rw [ed, ee] at he
  simp only [eqEs] at he
  split at he
  · rename_i hq
    refine wpAny_mono (eqE_ok qo sb.in1 (guards_inA hg) hq I1 o1 (rd.mono sm) (re.mono sm) ru rv) (fun r' s2 q => ?_) fun _ _ z => z
    exact .inl ⟨q.1, q.2.from sm, he⟩
  · rename_i hq
    cases he
    refine wpAny_mono (eqE_ok qo sb.in1 (guards_inA hg) hq I1 o1 (rd.mono sm) (re.mono sm) ru rv) (fun r' s2 q => ?_) fun _ _ z => z
    exact .inr ⟨q.1, q.2.from sm, rfl⟩
  · cases he
theorem eqTp_of (h : eqTp k qs a b = some r) : ∃ xs ys R0, a = .tup xs ∧ b = .tup ys ∧ eqEs k qs xs ys = some R0 ∧ r = (R0 && Nat.beq xs.length ys.length) := by
  unfold eqTp at h
  split at h
  · rename_i xs ys
    split at h <;> cases h
    · rename_i hq; exact ⟨xs, ys, true, rfl, rfl, hq, rfl⟩
    · rename_i hq; exact ⟨xs, ys, false, rfl, rfl, hq, rfl⟩
  · cases h
theorem eqEs_end {xs ys : List D} (h : eqEs k qs (xs.drop (min xs.length ys.length)) (ys.drop (min xs.length ys.length)) = some R0) : R0 = true := by
  rcases Nat.le_total xs.length ys.length with c | c
  · rw [Nat.min_eq_left c, List.drop_length] at h
    cases h; rfl
  · rw [Nat.min_eq_right c, List.drop_length] at h
    cases hx : xs.drop ys.length <;> (rw [hx] at h; cases h; rfl)
theorem natbeq (m n : Nat) : (m == n) = Nat.beq m n := by
  cases h : Nat.beq m n with
  | true => rw [Nat.eq_of_beq_eq_true h]; simp
  | false => exact beq_eq_false_iff_ne.mpr (fun z => by rw [z, Nat.beq_refl] at h; cases h)
theorem rc_tup (qo : EqOks X.prog X.w X.K X.mg X.base qs) (sb : Sub X (k + 1) A) (hg : A.guards = some []) (h : eqTp (k + 2) qs a b = some r) (I : Inv X pins τ H s) (o : OkF (kw X) B T L G σ H env F) (rx : Rep (kw X) G x a) (ry : Rep (kw X) G y b) (ux : RelV x u) (uy : RelV y v) :
    wpAny (model X.prog X.w) A (richCompare .Eq u v) (fun w s' => w = .bool r ∧ Go X pins τ σ B T L G env F s') X.xe s := by
  obtain ⟨xs, ys, R0, rfl, rfl, hq, rfl⟩ := eqTp_of h
  obtain ⟨p, vs, rfl, h1, q1⟩ := rep_tup rx
  obtain ⟨q, ws, rfl, h2, q2⟩ := rep_tup ry
  cases ux; cases uy
  obtain ⟨its, rv, ht, hz⟩ := I.tuple (ex_t o.sub h1)
  obtain ⟨its2, rv2, ht2, hz2⟩ := I.tuple (ex_t o.sub h2)
  have s1 : its.toArray.size = xs.length := by rw [List.size_toArray, ← rv.length, q1.length]
  have s2 : its2.toArray.size = ys.length := by rw [List.size_toArray, ← rv2.length, q2.length]
  refine GQ.rc_tupN sb.room.units0 (fun i s' => Go X pins τ σ B T L G env F s' ∧ eqEs (k + 2) qs (xs.drop i) (ys.drop i) = some R0) (fun s' => Go X pins τ σ B T L G env F s' ∧ R0 = false) ht ht2 (fun i h1 h2 s' z => tup_turn qo sb hg q1 q2 rv rv2 i h1 h2 s' z) (fun s' z => ?_) (fun s' z => ?_) ⟨Go.refl I o, hq⟩
  · rw [z.2]; exact ⟨rfl, z.1⟩
  · have e := z.2
    rw [s1, s2] at e ⊢
    rw [eqEs_end e, natbeq]
    exact ⟨by simp, z.1⟩
theorem rn_tup (qo : EqOks X.prog X.w X.K X.mg X.base qs) (sb : Sub X (k + 1) A) (hg : A.guards = some []) (h : eqTp (k + 2) qs a b = some r) (I : Inv X pins τ H s) (o : OkF (kw X) B T L G σ H env F) (rx : Rep (kw X) G x a) (ry : Rep (kw X) G y b) (ux : RelV x u) (uy : RelV y v) :
    wpAny (model X.prog X.w) A (richCompare .NotEq u v) (fun w s' => w = .bool (!r) ∧ Go X pins τ σ B T L G env F s') X.xe s := by
  obtain ⟨xs, ys, R0, rfl, rfl, hq, rfl⟩ := eqTp_of h
  obtain ⟨p, vs, rfl, h1, q1⟩ := rep_tup rx
  obtain ⟨q, ws, rfl, h2, q2⟩ := rep_tup ry
  cases ux; cases uy
  obtain ⟨its, rv, ht, hz⟩ := I.tuple (ex_t o.sub h1)
  obtain ⟨its2, rv2, ht2, hz2⟩ := I.tuple (ex_t o.sub h2)
  have s1 : its.toArray.size = xs.length := by rw [List.size_toArray, ← rv.length, q1.length]
  have s2 : its2.toArray.size = ys.length := by rw [List.size_toArray, ← rv2.length, q2.length]
  refine GQ.rn_tupN sb.room.units0 (fun i s' => Go X pins τ σ B T L G env F s' ∧ eqEs (k + 2) qs (xs.drop i) (ys.drop i) = some R0) (fun s' => Go X pins τ σ B T L G env F s' ∧ R0 = false) ht ht2 (fun i h1 h2 s' z => tup_turn qo sb hg q1 q2 rv rv2 i h1 h2 s' z) (fun s' z => ?_) (fun s' z => ?_) ⟨Go.refl I o, hq⟩
  · rw [z.2]; exact ⟨rfl, z.1⟩
  · have e := z.2
    rw [s1, s2] at e ⊢
    rw [eqEs_end e, bne, natbeq]
    exact ⟨by simp, z.1⟩
/-! ### as expressions -/
theorem cmpU {op : CmpOp} {neg : Bool} (hop : (op = .Eq ∧ neg = false) ∨ (op = .NotEq ∧ neg = true)) (qo : EqOks X.prog X.w X.K X.mg X.base qs) (hr : Room k X.A) (hg : X.A.guards = some []) (h : eqU k qs a b = some r) (I : Inv X pins τ H s) (o : OkF (kw X) B T L G σ H env F) (rx : Rep (kw X) G x a) (ry : Rep (kw X) G y b) (ux : RelV x u) (uy : RelV y v) :
    wpAny (model X.prog X.w) X.A (compareOp op u v) (fun w s' => w = .bool (ngB neg r) ∧ Go X pins τ σ B T L G env F s') X.xe s := by
  unfold eqU at h
  split at h
  · rename_i r0 h1
    cases h
    obtain ⟨C, fs, gs, q, rfl, rfl, hq, hk, hm⟩ := eqO_of h1
    have eb := qo C q hq
    rcases hop with ⟨rfl, rfl⟩ | ⟨rfl, rfl⟩
    · exact rc_obj eb ⟨hr.mono (by omega), rfl⟩ hg hm I o rx ry ux uy
    · exact rn_obj eb ⟨hr.mono (by omega), rfl⟩ hg hm I o rx ry ux uy
  · split at h
    · rename_i hk
      have go : ∀ {j : Nat}, Room (j + 1) X.A → eqTp (j + 2) qs a b = some r → wpAny (model X.prog X.w) X.A (compareOp op u v) (fun w s' => w = .bool (ngB neg r) ∧ Go X pins τ σ B T L G env F s') X.xe s := fun hr h => by
        rcases hop with ⟨rfl, rfl⟩ | ⟨rfl, rfl⟩
        · exact rc_tup qo ⟨hr, rfl⟩ hg h I o rx ry ux uy
        · exact rn_tup qo ⟨hr, rfl⟩ hg h I o rx ry ux uy
      rcases k with _ | _ | j
      · cases hk
      · cases hk
      · exact go (hr.mono (by omega)) h
    · cases h
end
section
variable {X : Cx} {ea eb : Expr} {pos : Pos} {fa fb : Ev} {k : Nat} {qs : EqT} {op : CmpOp} {neg : Bool}
def eEqO (neg : Bool) (k : Nat) (qs : EqT) (a b : Ev) : Ev := fun L env => bnd (a L env) fun L1 x => bnd (b L1 env) fun L2 y => bnd (Fz L2 x) fun L3 d => bnd (Fz L3 y) fun L4 e => bnd (opt L4 (eqU k qs d e)) fun L5 r => some (.val L5 (.d (.bl (ngB neg r))))
theorem eqO_op (hop : (op = .Eq ∧ neg = false) ∨ (op = .NotEq ∧ neg = true)) (qo : EqOks X.prog X.w X.K X.mg X.base qs) (hr : Room k X.A) (hg : X.A.guards = some []) (a : RE X ea fa) (b : RE X eb fb) {L : OL} {env : VEnv} {Q : QV} {Ex : XQ} (h : post (eEqO neg k qs fa fb L env) Q Ex) {W : WX} {B : Fra} {T : Tb} {G : Hp} {σ : L2.St} {H : Hp} {R : VK} {F : Hp → Prop} (hn : B.n = X.N.length) (tk : Takes X W) (o : OkF (kw X) B T L G σ H env F) (n : Nrm (kw X) B T σ env F Q R) (xc : Xc (kw X) B T σ env F Ex W) :
    tOp (mOp X (compareOp op)) (mE X ea) (mE X eb) σ H R :=
  a.ok (post_bnd h) hn tk o (fun T1 L1 G1 H1 v x q1 t1 o1 => b.ok (post_bnd q1) hn tk o1 (fun T2 L2 G2 H2 u y q2 t2 o2 => by
    have rx := (o2.f.1.2 : DRep (kw X) T1 G2 v x).mono (Sm.refl _) t2
    have ry := (o2.f.2 : DRep (kw X) T2 G2 u y)
    obtain ⟨L3, d, hf1, q2⟩ := post_fz (post_bnd q2)
    obtain ⟨L4, e, hf2, q2⟩ := post_fz (post_bnd q2)
    obtain ⟨r, hr', q2⟩ := post_bopt q2
    obtain ⟨G3, s3, o3, r3⟩ := (o2.as o.st o2.f.1.1).fz hf1
    obtain ⟨G4, s4, o4, r4⟩ := o3.fz hf2
    have rd := (r3 v rx).mono s4
    have re := r4 u (ry.mono s3 (List.prefix_refl _))
    intro pins s τ w z I uw uz
    refine wpAny_mono (cmpU (τ := τ) hop qo hr hg hr' I o4 rd re uw uz) (fun w' s' hw => ?_) fun _ _ z => z
    obtain ⟨rfl, G5, H5, sm5, I5, o5⟩ := hw
    exact ⟨.bl (ngB neg r), H5, I5, rfl, n T2 L4 G5 H5 _ _ q2 (t1.trans t2) (o5.push (stab_drep _ _) (.d (.bl _)))⟩) (xc.more t1 o.st)) xc
theorem re_eqO (hop : (op = .Eq ∧ neg = false) ∨ (op = .NotEq ∧ neg = true)) (qo : EqOks X.prog X.w X.K X.mg X.base qs) (hr : Room k X.A) (hg : X.A.guards = some []) (a : RE X ea fa) (b : RE X eb fb) (hm : behindInMarks op eb = false) : RE X (.Compare ea [op] [eb] pos) (eEqO neg k qs fa fb) :=
  ⟨fun h _ _ _ _ _ _ _ _ hn tk o n xc => mE_of (pe_cmpR op_max pe_max pe_max hm) (eqO_op hop qo hr hg a b h hn tk o n xc)⟩
theorem rt_eqO (hop : (op = .Eq ∧ neg = false) ∨ (op = .NotEq ∧ neg = true)) (qo : EqOks X.prog X.w X.K X.mg X.base qs) (hr : Room k X.A) (hg : X.A.guards = some []) (a : RE X ea fa) (b : RE X eb fb) (hm : behindInMarks op eb = false) : RT X (.Compare ea [op] [eb] pos) (tVal (eEqO neg k qs fa fb)) :=
  ⟨fun {L env Q Ex} h {W B T G σ H R F} hn tk o n xc => mT_of (pt_cmpR op_max pe_max pe_max hm) (eqO_op hop qo hr hg a b (post_bnd h) hn tk o (fun T1 L1 G1 H1 v x q t1 o1 => by
    obtain ⟨c, hc, q⟩ := post_opt q
    exact ⟨c, bool_of o1.f.2 hc, n T1 L1 G1 H1 c q t1 (o1.drop o.st)⟩) xc)⟩
def tAlt (a b : Et) : Et := fun L env => match a L env with
  | some o => some o
  | none => b L env
theorem rt_alt {e : Expr} {a b : Et} (ra : RT X e a) (rb : RT X e b) : RT X e (tAlt a b) :=
  ⟨fun {L env Q Ex} h => by
    unfold tAlt at h
    cases q : a L env with
    | some o => rw [q] at h; exact ra.ok (by rw [q]; exact h)
    | none => rw [q] at h; exact rb.ok h⟩
end
end FL

set_option Elab.async false
set_option linter.all false
set_option maxRecDepth 100000
set_option maxHeartbeats 4000000
namespace FL
open PySem PySem.Spec PyProof.Rows L2
/-! ### len(x) by an own __len__ -/
theorem len_own {prog : Program} {W : World} {A : Around} {E : Value → Shared → Prop} {K : PySem.W.Frag} {s : Shared} {x C f : Addr} {ox : Obj} {od : Option Obj} {Q : Value → Shared → Prop} (kin : K.In s.heap) (J : PySem.W.InstAt s.heap x ox C od) (hs : PySem.W.findIn K (.ref C) "__len__" = some (some (.ref f))) (hf : PySem.W.isFn K (.ref f) = true)
    (hc : wpAny (model prog W) A.in1 (call (.ref f) [.ref x]) (fun v s' => ∃ n t, v = .int n t ∧ 0 ≤ n ∧ n < 2 ^ 63 ∧ Q (.int n s'.toks) { s' with toks := s'.toks + 1 }) E s) : wpAny (model prog W) A (call (.builtin "len") [.ref x]) Q E s := by
  refine Calls.call_function_entry kind_len plain_len entry_len (args_len1 _) ?_
  unfold Builtin.«len»
  refine wpAny_bind (m := oneArg "len" _) (wpAny_pure ?_)
  refine wpAny_bind (m := callSpecial? (.ref x) (Str.ofString "__len__")) ?_
  simp only [callSpecial?]
  refine wpAny_bind (wpAny_bind (J.type.here ((PySem.W.looks_findIn kin hs).here ?_)))
  refine wpAny_holding (wpAny_bind ((PySem.W.bind_fn kin _ (beq_iff_eq.mp hf)).here ?_))
  refine wpAny_bind (wpAny_mono hc (fun v s' h => ?_) fun _ _ z => z)
  obtain ⟨n, t, rfl, h0, h1, q⟩ := h
  refine wpAny_pure ?_
  refine wpAny_bind (wpAny_holding (wpAny_pure ?_))
  refine wpAny_bind (wpAny_letGo ?_)
  show wpAny _ _ (if n < 0 then _ else _) _ _ _
  rw [if_neg (by omega)]
  show wpAny _ _ (if n ≥ 2 ^ 63 then _ else _) _ _ _
  rw [if_neg (by omega)]
  exact wpAny_bind (wpAny_mkInt (wpAny_pure ⟨_, rfl, q⟩))
structure LenB (P : Program) (W : World) (K : PySem.W.Frag) (mg : Str → Option Value) (base : Heap) (C : Str) (k : Nat) (m : Fn) : Prop where
  ex : ∃ (f : Addr) (fd : FuncData), PySem.W.findIn K (.ref (He.ga K C)) "__len__" = some (some (.ref f)) ∧ PySem.W.isFn K (.ref f) = true ∧ Binds K fd ["self"] [] ∧ FnV P W K mg base k f fd ["self"] (SpF ⟨K, P, W⟩ m)
def lenI (i : Int) : Bool := decide (0 ≤ i) && decide (i < 4611686018427387904)
def lenO (m : Fn) (d : D) : Option Int := match m [] [.d d] with
  | some (.val [] (.d (.int n))) => br (lenI n) (some n) none
  | _ => none
def clsD : D → Option Str
  | .obj C _ => some C
  | _ => none
def eLenO (k : Nat) (qs : EqT) (a : Ea) : Ev := fun L env => bnd (a L env) fun L1 xs => bnd (opt L1 (one1 xs)) fun L1 x => bnd (Fz L1 x) fun L2 d => bnd (opt L2 (clsD d)) fun L2 C => bnd (opt L2 (fget C qs)) fun L2 q => br (Nat.ble (q.1 + 1) k) (bnd (opt L2 (lenO q.2 d)) fun L3 n => some (.val L3 (.d (.int n)))) none
def LenOks (P : Program) (W : World) (K : PySem.W.Frag) (mg : Str → Option Value) (base : Heap) (qs : EqT) : Prop := ∀ C q, fget C qs = some q → LenB P W K mg base C q.1 q.2
section
variable {X : Cx} {e : Expr} {p pos : Pos} {as : Ea} {k : Nat} {qs : EqT}
theorem re_lenO (qo : LenOks X.prog X.w X.K X.mg X.base qs) (hr : Room k X.A) (hgA : X.A.guards = some []) (hg : Gl X "len") (hm : X.mg "len" = none) (a : RA X [e] as) (he : starEach [e] X.env = (false, eval e X.env) :: starEach [] X.env) : RE X (.Call (.Name "len" p) [e] [] pos) (eLenO k qs as) :=
  ⟨fun {L env Q Ex} h {W B T G σ H R F} hB tk o n xc => mE_of (pe_callB (id := "len") call_max hg hm (by decide +kernel) pa_max (by decide) (by decide) he rfl) (a.ok (post_bnd h) hB tk o (fun T1 L1 G1 H1 vs xs q t1 o1 => by
    obtain ⟨x, hx, q⟩ := post_bopt q
    obtain ⟨L2, d, hf, q⟩ := post_fz (post_bnd q)
    obtain ⟨C, hC, q⟩ := post_bopt q
    obtain ⟨qe, hq, q⟩ := post_bopt q
    obtain ⟨hk, q⟩ := post_br q
    obtain ⟨i, hi, q⟩ := post_bopt q
    have hk := Nat.le_of_ble_eq_true hk
    obtain ⟨v, rfl, rv⟩ := one1_of o1.f.2 hx
    obtain ⟨G2, s2, o2, r2⟩ := (o1.drop o.st).fz hf
    have rd := r2 v rv
    cases d with
    | obj C' fs =>
      have hC' : C' = C := by injection hC
      subst hC'
      have rd0 := rd
      unfold lenO at hi
      split at hi
      · rename_i j hm'
        obtain ⟨hb, hi⟩ := br_some' hi
        injection hi with hi
        subst hi
        simp only [lenI, Bool.and_eq_true, decide_eq_true_eq] at hb
        obtain ⟨f, fd, h1, h2, h3, Fn⟩ := (qo _ _ hq).ex
        cases rd with
        | obj g1 k1 r1 =>
          rename_i pa dx us
          intro pins s τ ws I rw'
          obtain ⟨w, rfl, ru⟩ := vals1 rw'
          cases ru
          obtain ⟨mA, J, _⟩ := ins_get I.hok (ex_ins o2.sub g1)
          obtain ⟨od, J, _⟩ := J.look
          have e : callF qe.2 L2 ([D.obj C' fs].map DV.d) = some (.val L2 (.d (.int j))) := by
            rw [callF_d]
            show (match qe.2 [] [.d (.obj C' fs)] with
              | some (.val L' x) => some (.val (L2 ++ L'.map (muE [] L2.length)) (muV [] L2.length x))
              | some (.exc L' x) => some (.exc (L2 ++ L'.map (muE [] L2.length)) x)
              | none => none : Mo DV) = _
            rw [hm']
            simp [muV]
          have sp : SpF (kw X) qe.2 [.ref pa] H1 (fun v H' => v = .int j ∧ ∃ G', Sm G2 G' ∧ OkF (kw X) B T1 L2 G' σ H' env F) (fun _ _ _ => False) := by
            have o3 := o2.push (P := fun G' => Sm G2 G') (fun _ _ e h => h.trans e) (Sm.refl _)
            refine call_sp (K := kw X) (W := fun _ _ _ _ => False) (Q := fun L' x => L' = L2 ∧ x = .d (.int j)) (Ex := fun _ _ => False) (ys := [D.obj C' fs].map DV.d) o3 (.cons (.d rd0) .nil) (by rw [e]; exact ⟨rfl, rfl⟩) ?_ (fun _ _ _ _ _ _ _ z => z.elim)
            rintro T' L' G' H' v z ⟨rfl, rfl⟩ t o'
            have et : T1 = T' := t.eq_of_length (by rw [o2.tl, o'.tl])
            subst et
            refine ⟨?_, G', o'.f.1.2, o'.as o.st o'.f.1.1⟩
            have rz := o'.f.2
            cases rz with
            | d rz => cases rz; rfl
          refine len_own I.kIn J h1 h2 ?_
          have ee := I.env0
          have e0 : Env0 X.prog X.w X.K X.mg X.base X.A.in1 X.stack s H1 := ⟨ee.frames, ee.mod, ee.bs, ee.bsz, ee.funs, ee.frf, ee.hok, ee.bare⟩
          have bt := h3 s [.ref pa] I.kIn rfl
          refine wpAny_call (codeAny_mono (Fn.run X.A.in1 X.stack s H1 ⟨[.ref pa], []⟩ [.ref pa] [.ref pa] _ _ (guards_inA hgA) (hr.mono hk).in1 e0 bt (.cons rfl .nil) sp) fun res s' hq => ?_)
          cases res with
          | error er => obtain ⟨_, _, _, _, _, _, _, _, _, _, _, _, hE⟩ := hq; exact hE.elim
          | ok fl =>
            cases fl with
            | ret w =>
              obtain ⟨z, H', I', rz, ez, G', sm, o'⟩ := I.after hq
              subst ez
              obtain ⟨tt, rfl⟩ := rz
              exact ⟨j, tt, rfl, hb.1, by omega, .int j, H', I'.tok _, ⟨_, rfl⟩, n T1 L2 G' H' _ _ q t1 (o'.push (stab_drep _ _) (.d (.int j)))⟩
            | next => exact False.elim hq
            | brk => exact False.elim hq
            | cont => exact False.elim hq
      · cases hi
    | _ => cases hC) xc)⟩
end
end FL

set_option Elab.async false
set_option linter.all false
set_option maxRecDepth 100000
set_option maxHeartbeats 4000000
namespace FL
open PySem PySem.Spec PyProof.Rows L2
section
variable {X : Cx} {e ea eb : Expr} {es : List Expr} {p p2 p3 pos pos' apos : Pos} {fa fb : Ev} {as : Ea} {x : Str}
/-! ### name += int -/
def sAug (i : Nat) (a : Ev) : Sv := fun L env => match slot env i with
  | some x => sb env (a L env) fun L1 y => sb env (opt L1 (int2 [x, y])) fun L1 ij => some (.nx L1 (env.set i (some (.d (.int (ij.1 + ij.2))))))
  | none => none
theorem rs_aug {i : Nat} (hN : X.N.Nodup) (hi : X.N[i]? = some x) (hx : Loc X.env.scope x) (a : RE X e fa) (hf : X.fn x = true ∨ X.env.scope.names.lookup x = some .local) : RS X (.AugAssign (.Name x pos') .Add e pos) (sAug i fa) :=
  ⟨fun {L env Z} h {W B T G σ H De F} hn tk o z => mS_of (ps_aug hN hi hx pe_max iop_add hf) (by
    unfold sAug at h
    cases hs : slot env i with
    | none => rw [hs] at h; exact h.elim
    | some x =>
      rw [hs] at h
      have hi' : i < B.n := by rw [hn]; exact (List.getElem?_eq_some_iff.mp hi).1
      obtain ⟨v, hv, r⟩ := o.get hi' (slot_get hs)
      refine ⟨v, hv, a.ok (post_sb h) hn tk (o.push (stab_drep v x) r) (fun T1 L1 G1 H1 u y q t1 o1 => ?_) (z.xc.more (List.prefix_refl _) o.st)⟩
      obtain ⟨⟨j, k⟩, hj, q⟩ := post_sopt q
      have e4 := int2_of (DReps.cons ((o1.f.1.2 : DRep (kw X) T G1 v x).mono (Sm.refl _) t1) (.cons o1.f.2 .nil)) hj
      obtain ⟨rfl, rfl⟩ : v = .int j ∧ u = .int k := by simpa using e4
      exact ⟨j, k, rfl, rfl, z.nx T1 L1 G1 _ H1 _ q ((o1.as o.st o1.f.1.1).set hi' (.d (.int _)))⟩)⟩
/-! ### max, min of ints -/
def isInts : List D → Bool
  | [] => true
  | .int _ :: r => isInts r
  | _ => false
def toInts : List D → List Int
  | [] => []
  | .int i :: r => i :: toInts r
  | _ :: r => toInts r
theorem ints_of : ∀ {ds : List D}, isInts ds = true → ds = (toInts ds).map D.int
  | [], _ => rfl
  | .int i :: r, h => by rw [toInts, List.map_cons, ← ints_of (ds := r) h]
def maxI : List Int → Int
  | [] => 0
  | [a] => a
  | a :: r => if maxI r > a then maxI r else a
def minI : List Int → Int
  | [] => 0
  | [a] => a
  | a :: r => if minI r < a then minI r else a
theorem maxI_ok : ∀ {l : List Int}, l ≠ [] → maxI l ∈ l ∧ ∀ y ∈ l, y ≤ maxI l
  | [a], _ => ⟨by simp [maxI], by simp [maxI]⟩
  | a :: b :: r, _ => by
    obtain ⟨h1, h2⟩ := maxI_ok (l := b :: r) (by simp)
    rw [maxI]
    · split
      · exact ⟨List.mem_cons_of_mem _ h1, fun y hy => by
          rcases List.mem_cons.mp hy with rfl | hy
          · omega
          · exact h2 y hy⟩
      · exact ⟨List.mem_cons_self, fun y hy => by
          rcases List.mem_cons.mp hy with rfl | hy
          · omega
          · have := h2 y hy; omega⟩
    · intro z; cases z
theorem minI_ok : ∀ {l : List Int}, l ≠ [] → minI l ∈ l ∧ ∀ y ∈ l, minI l ≤ y
  | [a], _ => ⟨by simp [minI], by simp [minI]⟩
  | a :: b :: r, _ => by
    obtain ⟨h1, h2⟩ := minI_ok (l := b :: r) (by simp)
    rw [minI]
    · split
      · exact ⟨List.mem_cons_of_mem _ h1, fun y hy => by
          rcases List.mem_cons.mp hy with rfl | hy
          · omega
          · exact h2 y hy⟩
      · exact ⟨List.mem_cons_self, fun y hy => by
          rcases List.mem_cons.mp hy with rfl | hy
          · omega
          · have := h2 y hy; omega⟩
    · intro z; cases z
def fMax1 : List D → Option Res
  | [.lst (d :: ds)] => br (isInts (d :: ds)) (some (.val (.int (maxI (toInts (d :: ds)))))) none
  | _ => none
def fMin1 : List D → Option Res
  | [.lst (d :: ds)] => br (isInts (d :: ds)) (some (.val (.int (minI (toInts (d :: ds)))))) none
  | _ => none
theorem toInts_ne {d : D} {ds : List D} (h : isInts (d :: ds) = true) : toInts (d :: ds) ≠ [] := by
  cases d <;> first | (simp [toInts]; done) | cases h
theorem vb_max1 (hc : X.calm = true) : CbV X (.builtin "max") fMax1 := fun {G H xs ds res R} v sm e r => by
  unfold fMax1 at e
  split at e
  · rename_i d ds
    obtain ⟨hi, e⟩ := br_some e
    cases e
    obtain ⟨u, rfl, v1⟩ := views1 v
    obtain ⟨p, vs, rfl, h1, h2⟩ := v1
    have hn := toInts_ne hi
    rw [ints_of hi] at h2
    have ev := reps_ints h2
    subst ev
    refine mCall_of (cr_max hc) ⟨p, _, rfl, .inl h1, List.length_pos_iff.mpr hn, fun m hm hle => ?_⟩
    obtain ⟨m1, m2⟩ := maxI_ok hn
    have : m = maxI (toInts (d :: ds)) := by have := hle _ m1; have := m2 _ hm; omega
    rw [this]
    exact r _ (.int _)
  · cases e
theorem vb_min1 (hc : X.calm = true) : CbV X (.builtin "min") fMin1 := fun {G H xs ds res R} v sm e r => by
  unfold fMin1 at e
  split at e
  · rename_i d ds
    obtain ⟨hi, e⟩ := br_some e
    cases e
    obtain ⟨u, rfl, v1⟩ := views1 v
    obtain ⟨p, vs, rfl, h1, h2⟩ := v1
    have hn := toInts_ne hi
    rw [ints_of hi] at h2
    have ev := reps_ints h2
    subst ev
    refine mCall_of (cr_min hc) ⟨p, _, rfl, .inl h1, List.length_pos_iff.mpr hn, fun m hm hle => ?_⟩
    obtain ⟨m1, m2⟩ := minI_ok hn
    have : m = minI (toInts (d :: ds)) := by have := hle _ m1; have := m2 _ hm; omega
    rw [this]
    exact r _ (.int _)
  · cases e
/-! ### list(range(..)) -/
def rgIJ : List DV → Option (Int × Int)
  | [x] => match intOf x with
    | some i => some (0, i)
    | none => none
  | [x, y] => int2 [x, y]
  | _ => none
def eRgL (a : Ea) : Ev := fun L env => bnd (a L env) fun L1 xs => bnd (opt L1 (rgIJ xs)) fun L1 ij => br (inB ij.1 && (inB ij.2 && szB (ij.2 - ij.1).toNat)) (some (.val (L1 ++ [.own (.p (.lst (rangeD ij.1 (ij.2 - ij.1).toNat)))]) (.h L1.length))) none
theorem rgV_reps {K : KW} {G : Hp} (a b : Int) : Reps K G (rgV a b) (rangeD a (b - a).toNat) := by
  unfold rgV rangeD
  have := ints_reps (K := K) (G := G) ((List.range (b - a).toNat).map fun (i : Nat) => a + (i : Int))
  rw [List.map_map, List.map_map] at this
  exact this
theorem rgOk_of {i j : Int} (h : (inB i && (inB j && szB (j - i).toNat)) = true) : RgOk i j := by
  simp only [Bool.and_eq_true] at h
  obtain ⟨a1, a2⟩ := inB_of h.1
  obtain ⟨b1, b2⟩ := inB_of h.2.1
  exact ⟨a1, a2, b1, b2, Nat.le_trans (Nat.le_of_ble_eq_true h.2.2) (by decide)⟩
theorem re_rgL1 (hc : X.calm = true) (hg : Gl X "list") (hm : X.mg "list" = none) (hg2 : Gl X "range") (hm2 : X.mg "range" = none) (a : RE X e fa) (hs : starEach [e] X.env = (false, eval e X.env) :: starEach [] X.env) : RE X (.Call (.Name "list" p) [.Call (.Name "range" p2) [e] [] p3] [] pos) (eRgL (aCons fa aNil)) :=
  ⟨fun {L env Q Ex} h {W B T G σ H R F} hn tk o n xc => mE_of (pe_listRg hc hg hm (prg_1 hg2 hm2 pe_max hs) rfl) (a.ok (post_bnd (post_bnd h)) hn tk o (fun T1 L1 G1 H1 v y q t1 o1 => by
    have q : post (bnd (opt L1 (rgIJ [y])) fun L1 ij => br (inB ij.1 && (inB ij.2 && szB (ij.2 - ij.1).toNat)) (some (.val (L1 ++ [.own (.p (.lst (rangeD ij.1 (ij.2 - ij.1).toNat)))]) (.h L1.length))) none) Q Ex := q
    obtain ⟨⟨i, j⟩, hij, q⟩ := post_bopt q
    obtain ⟨hb, q⟩ := post_br q
    have hij : (match intOf y with
      | some i => some ((0 : Int), i)
      | none => none) = some (i, j) := hij
    cases hy : intOf y with
    | none => rw [hy] at hij; cases hij
    | some j0 =>
      rw [hy] at hij
      cases hij
      refine ⟨j, int_of o1.f.2 hy, rgOk_of hb, fun p hp => (n.on t1).own (o1.drop o.st) hp q ⟨_, upd_same, rgV_reps _ _⟩⟩) xc)⟩
theorem re_rgL2 (hc : X.calm = true) (hg : Gl X "list") (hm : X.mg "list" = none) (hg2 : Gl X "range") (hm2 : X.mg "range" = none) (a : RE X ea fa) (b : RE X eb fb) (hs : starEach [ea, eb] X.env = (false, eval ea X.env) :: starEach [eb] X.env) (hs2 : starEach [eb] X.env = (false, eval eb X.env) :: starEach [] X.env) (hp : (backTo p3 (starEach [eb] X.env)).any (·.1) = false) : RE X (.Call (.Name "list" p) [.Call (.Name "range" p2) [ea, eb] [] p3] [] pos) (eRgL (aCons fa (aCons fb aNil))) :=
  ⟨fun {L env Q Ex} h {W B T G σ H R F} hn tk o n xc => mE_of (pe_listRg hc hg hm (prg_2 hg2 hm2 pe_max pe_max hs hs2 hp) rfl) (a.ok (post_bnd (post_bnd h)) hn tk o (fun T1 L1 G1 H1 v y q1 t1 o1 => b.ok (post_bnd (post_bnd q1)) hn tk o1 (fun T2 L2 G2 H2 u z q t2 o2 => by
    have q : post (bnd (opt L2 (rgIJ [y, z])) fun L1 ij => br (inB ij.1 && (inB ij.2 && szB (ij.2 - ij.1).toNat)) (some (.val (L1 ++ [.own (.p (.lst (rangeD ij.1 (ij.2 - ij.1).toNat)))]) (.h L1.length))) none) Q Ex := q
    obtain ⟨⟨i, j⟩, hij, q⟩ := post_bopt q
    obtain ⟨hb, q⟩ := post_br q
    have e4 := int2_of (DReps.cons ((o2.f.1.2 : DRep (kw X) T1 G2 v y).mono (Sm.refl _) t2) (.cons o2.f.2 .nil)) hij
    obtain ⟨rfl, rfl⟩ : v = .int i ∧ u = .int j := by simpa using e4
    exact ⟨i, j, rfl, rfl, rgOk_of hb, fun p hp => (n.on (t1.trans t2)).own (o2.as o.st o2.f.1.1) hp q ⟨_, upd_same, rgV_reps _ _⟩⟩) (xc.more t1 o.st)) xc)⟩
/-! ### CONSTANT.index(text) -/
def TupC (P : Program) (W : World) (K : PySem.W.Frag) (mg : Str → Option Value) (x : Str) (ss : List Str) : Prop := ∃ a, mg x = some (.ref a) ∧ (∃ ob : Obj, K.lookup a = some ob ∧ ob.cls = .type "tuple" ∧ ob.dict = none) ∧ ∀ G : Hp, Rep ⟨K, P, W⟩ G (.ref a) (.tup (ss.map D.str))
def sIdx : List Str → Str → Option Nat
  | [], _ => none
  | a :: r, x => match sEq a x with
    | true => some 0
    | false => match sIdx r x with
      | some j => some (j + 1)
      | none => none
theorem sIdx_ok : ∀ {ss : List Str} {x : Str} {j : Nat}, sIdx ss x = some j → ss[j]? = some x ∧ ∀ m, m < j → ss[m]? ≠ some x
  | a :: r, x, j, h => by
    simp only [sIdx] at h
    split at h
    · rename_i e; cases h; exact ⟨by rw [of_decide_eq_true e]; rfl, fun m hm => absurd hm (Nat.not_lt_zero _)⟩
    · rename_i e
      split at h
      · rename_i i hi
        cases h
        obtain ⟨h1, h2⟩ := sIdx_ok hi
        refine ⟨by simpa using h1, fun m hm => ?_⟩
        cases m with
        | zero => intro z; simp at z; exact absurd z (of_decide_eq_false e)
        | succ m => simpa using h2 m (by omega)
      · cases h
def strOf : DV → Option Str
  | .d (.str x) => some x
  | _ => none
theorem str_of {K : KW} {T : Tb} {G : Hp} {v : V} {x : DV} {b : Str} (r : DRep K T G v x) (h : strOf x = some b) : v = .str b := by
  cases r with
  | d r => cases r <;> first | (cases h; rfl) | cases h
  | h => cases h
def eIdxC (ss : List Str) (a : Ev) : Ev := fun L env => bnd (a L env) fun L1 x => bnd (opt L1 (strOf x)) fun L1 z => bnd (opt L1 (sIdx ss z)) fun L1 j => some (.val L1 (.d (.int (j : Nat))))
theorem re_idxC {ss : List Str} (hC : TupC X.prog X.w X.K X.mg x ss) (hg : Gl X x) (hd : (x == ("__debug__" : Str)) = false) (a : RE X e fa) (hs : starEach [e] X.env = (false, eval e X.env) :: starEach [] X.env)
    (hfew : ((backTo pos (starEach [e] X.env)).all (fun x => !x.1) && (backToKw pos (keywordEach [] X.env)).all (fun x => x.1.isSome) && decide ([e].length + ([] : List Keyword).length + (if ([] : List Keyword).isEmpty then 0 else 1) < 30)) = true)
    (hline : (apos.endLine == pos.line) = true) : RE X (.Call (.Attribute (.Name x p) "index" apos) [e] [] pos) (eIdxC ss fa) := by
  obtain ⟨c, hm, hK, hR⟩ := hC
  refine ⟨fun {L env Q Ex} h {W B T G σ H R F} hn tk o n xc => mE_of (pe_bm PySem.F.plainAttrs_tuple PySem.F.slot_tuple_index PySem.F.type_tuple_index mt_tup_index (pe_glob (v := .ref c) hg hm rfl hd) (pa_cons pe_max pa_nil hs) rfl hfew hline hs rfl) ?_⟩
  refine ⟨.inr (.inl ⟨rfl, hK⟩), a.ok (post_bnd h) hn tk o (fun T1 L1 G1 H1 v y q t1 o1 => ?_) xc⟩
  obtain ⟨z, hz, q⟩ := post_bopt q
  obtain ⟨j, hj, q⟩ := post_bopt q
  obtain ⟨h1, h2⟩ := sIdx_ok hj
  obtain ⟨a', vs', e', h1', h2'⟩ := rep_tup (hR G1)
  cases e'
  have ev' := reps_strs h2'
  subst ev'
  refine ⟨_, ss, z, j, rfl, ?_, ex_t o1.sub h1', h1, h2, n T1 L1 G1 H1 _ _ q t1 ((o1.drop o.st).push (stab_drep _ _) (.d (.int _)))⟩
  rw [str_of o1.f.2 hz]
/-! ### CONSTANT[text] -/
def KDict (P : Program) (W : World) (K : PySem.W.Frag) (mg : Str → Option Value) (x : Str) (kvs : List (Str × Str)) : Prop := ∃ a, mg x = some (.ref a) ∧ (a == sysModules) = false ∧ ∃ vs, KV (kvs.map fun p => ((Sum.inr p.1 : Key), V.str p.2)) vs ∧ ∀ h : Heap, K.In h → h.DictOf (mixKind P W) a vs
def eKd (kvs : List (Str × Str)) (a : Ev) : Ev := fun L env => bnd (a L env) fun L1 x => bnd (opt L1 (strOf x)) fun L1 z => bnd (opt L1 (fget z kvs)) fun L1 y => some (.val L1 (.d (.str y)))
theorem valV_kd {z y : Str} : ∀ {kvs : List (Str × Str)}, fget z kvs = some y → valV (kvs.map fun p => ((Sum.inr p.1 : Key), V.str p.2)) (.inr z) = some (.str y)
  | (a, b) :: r, h => by
    simp only [fget] at h
    rw [List.map_cons, valV_cons]
    split at h
    · rename_i e; cases h; rw [if_pos (by rw [of_decide_eq_true e])]
    · rename_i e
      rw [if_neg (fun z => of_decide_eq_false e (Sum.inr.inj z))]
      exact valV_kd h
theorem re_kd {kvs : List (Str × Str)} (hC : KDict X.prog X.w X.K X.mg x kvs) (hg : Gl X x) (hd : (x == ("__debug__" : Str)) = false) (b : RE X eb fb) (hs : PlainIx eb) : RE X (.Subscript (.Name x p) eb pos) (eKd kvs fb) := by
  obtain ⟨c, hm, hlow, vs, rel, dd⟩ := hC
  refine ⟨fun {L env Q Ex} h {W B T G σ H R F} hn tk o n xc => mE_of (pe_ix ix_max (pe_glob (v := .ref c) hg hm rfl hd) pe_max hs) (b.ok (post_bnd h) hn tk o (fun T1 L1 G1 H1 v y q t1 o1 => ?_) xc)⟩
  obtain ⟨z, hz, q⟩ := post_bopt q
  obtain ⟨w, hw, q⟩ := post_bopt q
  rw [str_of o1.f.2 hz]
  intro value slice pins s τ v' u' I rx ru hs'
  cases (show v' = Value.ref c from rx)
  have D0 := dd s.heap I.kIn
  obtain ⟨w', hw', rw'⟩ := RelO.some_of (v := V.str w) (o := valueAt vs (.inr z)) (by rw [← valV_kd hw]; exact rel.val _)
  exact PyProof.Rows.tail_any D0.typeIs PySem.F.slot_dict_getitem.lookup (wpAny_getItem_of (kV_is (k := .inr z) ru) D0.mapOf hw' ⟨.str w, H1, I.tok _, rw', n T1 L1 G1 H1 _ _ q t1 ((o1.drop o.st).push (stab_drep _ _) (.d (.str _)))⟩) hs'
end
end FL

set_option Elab.async false
set_option linter.all false
set_option maxRecDepth 100000
set_option maxHeartbeats 4000000
namespace FL
open PySem PySem.Spec PyProof.Rows L2
open EL (dn tk dn_le call_setK_list call_setK_tuple)
/-! ### len(set(xs)) of numbers and texts -/
def keyOf : D → Option Key
  | .int i => some (.inl i)
  | .str s => some (.inr s)
  | _ => none
def skeys : List D → Option (List Key)
  | [] => some []
  | d :: r => match keyOf d, skeys r with
    | some k, some ks => some (k :: ks)
    | _, _ => none
section
variable {X : Cx} {e : Expr} {p p2 p3 pos : Pos} {fa : Ev}
theorem keys_reps {K : KW} {G : Hp} : ∀ {ds : List D} {ks : List Key} {vs : List V}, skeys ds = some ks → Reps K G vs ds → vs = ks.map kV
  | [], _, _, h, r => by cases h; cases r; rfl
  | d :: ds, ks, vs, h, r => by
    cases r with
    | cons a b =>
      simp only [skeys] at h
      split at h
      · rename_i k ks' h1 h2
        cases h
        rw [keys_reps h2 b]
        cases d <;> first | (cases h1; cases a; rfl) | cases h1
      · cases h
def mLenSet (X : Cx) (e : Expr) : TE := fun σ H Q => mE X e σ H fun x H1 => ∃ (l : Addr) (ks : List Key), x = .ref l ∧ (SqL X.K H1 l (ks.map kV) ∨ SqT X.K H1 l (ks.map kV)) ∧ ks.length ≤ 1000 ∧ Q (.int (dn ks ks.length : Nat)) H1
theorem pe_lenSet (hc : X.calm = true) (hg : Gl X "len") (hm : X.mg "len" = none) (hg2 : Gl X "set") (hm2 : X.mg "set" = none)
    (na : starEach [e] X.env = (false, eval e X.env) :: starEach [] X.env) : PE X (.Call (.Name "len" p) [.Call (.Name "set" p2) [e] [] p3] [] pos) (mLenSet X e) := by
  refine ⟨fun pins s σ H Q I h => Call_ (ld_blt I hg hm boot_len (PyProof.Rows.callWith_builtin1 (PyProof.Rows.args_cons (Call_ (ld_blt I hg2 hm2 boot_set ?_)) rfl) rfl rfl))⟩
  refine PyProof.Rows.callWith_type1 (PyProof.Rows.args_cons (thn (pe_max.run pins s σ H _ I h) fun v s1 ⟨x, H1, I1, r1, q1⟩ => PyProof.Rows.args_nil ?_) na) na rfl
  obtain ⟨l, ks, rfl, hq, hb, q1⟩ := q1
  cases r1
  have fin : ∀ (h' : Heap) (tk' : Nat), h'.SetOf (mixKind X.prog X.w) s1.heap.objs.size (tk ks ks.length) (dn ks ks.length) → (∀ b o, b < s1.heap.objs.size → s1.heap.get? b = some o → h'.get? b = some o) →
      wpAny (model X.prog X.w) X.A (spliced (backTo pos (starEach [] X.env))) (fun vs s₂ => wpAny (model X.prog X.w) X.A (call (.builtin "len") (Value.ref s1.heap.objs.size :: vs)) (EP X pins σ Q) X.xe s₂) X.xe { s1 with heap := h', toks := tk' } := fun h' tk' hS hk => by
    obtain ⟨o, es, ep, t, ho, hex, hd, _, _, _, hf, hn⟩ := hS
    have I2 : Inv X pins σ H1 { s1 with heap := h', toks := tk' } := I1.kept fun b o e => hk b o (Heap.lt_size e) e
    have := dn_le ks ks.length
    exact PyProof.Rows.args_nil (call_len_set ho hex hd hf (by rw [hn]; omega) ⟨.int (dn ks ks.length : Nat), H1, I2.tok _, ⟨_, by rw [hn]⟩, q1⟩)
  have hb' : ks.length + 1 < scanBound := by unfold scanBound; omega
  rcases hq with hq | hq
  · obtain ⟨its, r, pl, hz⟩ := I1.list hq
    exact call_setK_list (I1.ok.hd hc) pl.isList (by simpa using r) hb' fin
  · obtain ⟨its, r, pl, hz⟩ := I1.tuple hq
    exact call_setK_tuple (I1.ok.hd hc) pl (by simpa using r) hb' fin
def itemsD : D → Option (List D)
  | .lst ds => some ds
  | .tup ds => some ds
  | _ => none
def eLenSet (a : Ev) : Ev := fun L env => bnd (a L env) fun L1 x => bnd (opt L1 (obnd (obnd (see L1 x) itemsD) skeys)) fun L1 ks => br (Nat.ble ks.length 1000) (some (.val L1 (.d (.int (dn ks ks.length : Nat))))) none
theorem re_lenSet (hc : X.calm = true) (hg : Gl X "len") (hm : X.mg "len" = none) (hg2 : Gl X "set") (hm2 : X.mg "set" = none) (a : RE X e fa) (na : starEach [e] X.env = (false, eval e X.env) :: starEach [] X.env) : RE X (.Call (.Name "len" p) [.Call (.Name "set" p2) [e] [] p3] [] pos) (eLenSet fa) :=
  ⟨fun {L env Q Ex} h {W B T G σ H R F} hn tk o n xc => mE_of (pe_lenSet hc hg hm hg2 hm2 na) (a.ok (post_bnd h) hn tk o (fun T1 L1 G1 H1 v y q t1 o1 => by
    obtain ⟨ks, hk, q⟩ := post_bopt q
    obtain ⟨hb, q⟩ := post_br q
    obtain ⟨ds, hd, hk⟩ := obnd_some hk
    obtain ⟨d, hy, hd⟩ := obnd_some hd
    have vw := o1.sees (DReps.cons o1.f.2 .nil) (show sees L1 [y] = some [d] by simp only [sees, hy])
    obtain ⟨u, e, vw⟩ := views1 vw
    cases e
    have fin := (n.on t1).d (o1.drop o.st) q (Rep.int _)
    cases d <;> first | cases hd | skip
    · obtain ⟨a, vs, rfl, h1, h2⟩ := vw
      exact ⟨a, ks, rfl, .inl (keys_reps hk h2 ▸ .inl h1), Nat.le_of_ble_eq_true hb, fin⟩
    · obtain ⟨a, vs, rfl, h1, h2⟩ := rep_tup vw
      exact ⟨a, ks, rfl, .inr (keys_reps hk h2 ▸ ex_t o1.sub h1), Nat.le_of_ble_eq_true hb, fin⟩) xc)⟩
end
end FL

set_option Elab.async false
set_option linter.all false
set_option maxRecDepth 100000
set_option maxHeartbeats 4000000
/-! ### enumerate of a tuple -/
namespace GQ
open PySem
theorem meets_enumerate_new1 {v : Value} {o : Obj} {H : Heap → Prop} (B : Begins v o H) :
    Meets (Builtin.«enumerate.__new__» ⟨[.type "enumerate", v], []⟩) (fun _ R s => H s.heap ∧
      R (.ok (.ret (.ref (s.heap.push o).objs.size))) { s with heap := (s.heap.push o).push { cls := .type "enumerate", data := .fields #[.none, .bool false, .ref s.heap.objs.size, rawInt 0, .none, .none] } }) :=
  .of_wp fun prog w A R s h => by
    obtain ⟨hp, g, d, tk, os⟩ := s; obtain ⟨h1, h⟩ := h
    have hsub := sub_enumerate
    have q1 : ∀ {A' : Around} {E : Value → Shared → Prop} {Q : Value → Shared → Prop}, Q (.ref hp.objs.size) ⟨hp.push o, g, d, tk, os⟩ → wpAny (model prog w) A' (pyIter v) Q E ⟨hp, g, d, tk, os⟩ :=
      fun q => B.iter prog w _ _ ⟨hp, g, d, tk, os⟩ _ h1 q
    wp_walk using q1
    refine wpAny_stack_any fun st => wpAny_pure ?_
    split
    · rename_i c _ _ _ _ _
      cases (c == Value.type "enumerate")
      · wp_walk using q1
        exact ⟨_, rfl, h⟩
      · wp_walk using q1
        exact ⟨_, rfl, h⟩
    · wp_walk using q1
      exact ⟨_, rfl, h⟩
section
variable {prog : Program} {w : World} {A : Around} {E : Value → Shared → Prop} {s : Shared}
theorem enum_begins1 {v : Value} {o : Obj} {H : Heap → Prop} {Q : Value → Shared → Prop} (B : Begins v o H) (h1 : H s.heap)
    (h : ∀ h', IsEnum h' (s.heap.objs.size + 1) s.heap.objs.size 0 .none → h'.get? s.heap.objs.size = some o → h'.objs.size = s.heap.objs.size + 2 →
      (∀ b o, s.heap.get? b = some o → h'.get? b = some o) → Q (.ref (s.heap.objs.size + 1)) { s with heap := h' }) :
    wpAny (model prog w) A (call (.type "enumerate") [v]) Q E s := by
  refine callType_new F.called_enumerate (by decide) (F.typeCall_enumerate_1 _) (F.newCall_enumerate_1 _) (fun obj => F.args_object_init_2 obj _) F.entry_enumerate_new
    (meets_enumerate_new1 B) ⟨h1, ?_⟩
  have hz : (s.heap.push o).objs.size = s.heap.objs.size + 1 := Heap.size_push ..
  show _ ∧ _
  rw [hz]
  have he : IsEnum ((s.heap.push o).push { cls := .type "enumerate", data := .fields #[.none, .bool false, .ref s.heap.objs.size, rawInt 0, .none, .none] }) (s.heap.objs.size + 1) s.heap.objs.size 0 .none := by
    have := Heap.get?_push_size (s.heap.push o) (o := { cls := .type "enumerate", data := .fields #[.none, .bool false, .ref s.heap.objs.size, rawInt 0, .none, .none] }) rfl
    rw [hz] at this; exact this
  refine ⟨⟨_, he, rfl⟩, h _ he (Heap.get?_push_of_some _ (Heap.get?_push_size _ B.free)) (by rw [Heap.size_push, hz]) fun b o x => Heap.get?_push_of_some _ (Heap.get?_push_of_some _ x)⟩
theorem enum_endT {e it l : Addr} {i : Nat} {items : Array Value} {old : Value} {Q : Option Value → Shared → Prop} (hh : A.handled = none)
    (he : IsEnum s.heap e it i old) (hit : s.heap.IsTupleIter it l i) (hl : s.heap.IsTuple l items) (hx : items[i]? = none)
    (hQ : ∀ h', Heap.ExtBut it s.heap h' → Q none { s with heap := h' }) : wpAny (model prog w) A (pyNext (.ref e)) Q E s := by
  have hT : s.TypeIs (.ref e) "enumerate" := ⟨_, he, rfl⟩
  unfold pyNext
  refine wpAny_bind (wpAny_attempt (wpAny_callSpecial?_slot (name := Str.ofString "__next__") hT F.slot_enumerate_next
    (wpAny_call_entry F.slot_enumerate_next hT F.entry_enumerate_next ?_ (F.args_enumerate_next_1 _))))
  show wpAny _ _ (field (.ref e) 2 >>= _) _ _ _
  refine wpAny_bind (wpAny_field he rfl (x := .ref it) rfl ?_)
  refine wpAny_bind (wpAny_nextOf_tuple_end hh hit hl hx fun h' x he' hx' => ?_)
  obtain ⟨o, ho, hc⟩ := hx'
  refine wpAny_bind (wpAny_isInstance (T := "StopIteration") (b := true) ⟨o, ho, hc⟩ isSubtype_stop ?_)
  exact wpAny_pure (hQ _ he')
end
end GQ
namespace FL
open PySem PySem.Spec PyProof.Rows L2
/-- the tuple at a, each item in a new pair -/
def IteT (K : PySem.W.Frag) (a : Addr) : It :=
  ⟨fun i H => ∃ (xs : List V) (x : V), SqT K H a xs ∧ xs[i]? = some x, fun i H v H' => ∃ T x, v = .ref T ∧ H T = none ∧ H' = upd H T (.tup [.int (i : Nat), x]) ∧ ∀ xs, SqT K H a xs → xs[i]? = some x, fun i H => ∃ xs : List V, SqT K H a xs ∧ xs.length ≤ i⟩
theorem turn_enumT {P : Program} {w : World} {K : PySem.W.Frag} {elts : List Expr} {kk : Nat} {tpos : Pos} (a e it : Addr) :
    Turn P w K (.Tuple elts kk tpos) (IteT K a) [e, it] e (fun i h => (∃ old, IsEnum h e it ((i : Nat) : Int) old) ∧ h.IsTupleIter it a i ∧ e ≠ it ∧ a ≠ it ∧ e ≠ a) where
  mem := by simp
  obj := fun i h st b hb => by
    obtain ⟨⟨old, he⟩, ⟨o, ho, hc, hd⟩, _⟩ := st
    have e' : b = e ∨ b = it := by simpa using hb
    rcases e' with z | z
    · rw [z]; exact ⟨_, he, fun v q => nomatch q⟩
    · rw [z]; exact ⟨o, ho, fun v q => by rw [hd] at q; cases q⟩
  keep := fun i h h' st k => let ⟨⟨old, he⟩, hi, hne⟩ := st; ⟨⟨old, k e (by simp) _ he⟩, hi.at fun o q => k it (by simp) o q, hne⟩
  item := by
    intro X hP hw hK hc i pins s σ H E I hf st hg
    subst hP hw hK
    obtain ⟨⟨old, he⟩, hit, hne, hat, hea⟩ := st
    obtain ⟨xs, x, hq, hx⟩ := hg
    obtain ⟨its, rv, p, hz⟩ := I.tuple hq
    obtain ⟨u, hu, ru⟩ := rv.get hx
    have hel : e < s.heap.objs.size := Heap.lt_size he
    have hil : it < s.heap.objs.size := by obtain ⟨_, q, _⟩ := hit; exact Heap.lt_size q
    have hu' : its.toArray[i]? = some u := by simpa using hu
    have hlt : i < its.toArray.size := (Array.getElem?_eq_some_iff.mp hu').1
    refine wpAny_pyNext_enum_itemD (Draws.tuple (A := X.A.in1) (I.ok.hd hc) it a hat its.toArray) he ⟨hit, p⟩ hlt hne (by simp [hne, hea]) fun y h' tk hy ho ⟨hit', _⟩ hT hsz hk => ?_
    have ey : y = u := by
      have hy' : its.toArray[i]? = some y := hy
      rw [hu'] at hy'; cases hy'; rfl
    subst ey
    refine ⟨_, rfl, wpAny_letOwnedTupleGo_enum (s := { s with heap := h', toks := tk + 1 }) ho fun h'' he' sb => ?_⟩
    have hT2 : h''.get? s.heap.objs.size = some { cls := .type "tuple", data := .seq #[.int i tk, y] } := (sb.2 _ (Nat.ne_of_gt hel)).trans hT
    have new : ObjOk X.prog X.w (upd H s.heap.objs.size (.tup [.int (i : Nat), x])) h'' s.heap.objs.size (.tup [.int (i : Nat), x]) :=
      ⟨by show 2 ≤ sizeLine; decide, [.int i tk, y], .cons ⟨_, rfl⟩ (.cons ru .nil), ⟨_, hT2, rfl, _, rfl⟩⟩
    have I1 : Inv X pins σ (upd H s.heap.objs.size (.tup [.int (i : Nat), x])) { s with heap := h'', toks := tk + 1 } :=
      I.turnedNew (ch := [e, it]) (fun b ob hb q => (sb.2 b (fun z => hb (by simp [z]))).trans (hk b ob (fun z => hb (by simp [z])) (fun z => hb (by simp [z])) q)) hf (Nat.le_refl _) new
    refine ⟨.ref s.heap.objs.size, _, I1, rfl, ⟨_, x, rfl, I.hok.fresh (Nat.le_refl _), rfl, fun ys hy => by rw [I.tuple_inj hy hq]; exact hx⟩, ⟨⟨y, ?_⟩, hit'.at fun o q => (sb.2 it (Ne.symm hne)).trans q, hne, hat, hea⟩, fun b hb => ?_⟩
    · have e1 : ((i + 1 : Nat) : Int) = (i : Int) + 1 := by omega
      rw [e1]; exact he'
    · have hb' : b < s.heap.objs.size := by
        have e' : b = e ∨ b = it := by simpa using hb
        rcases e' with z | z
        · rw [z]; exact hel
        · rw [z]; exact hil
      rw [upd_ne (Nat.ne_of_lt hb')]
      exact (hf b hb).1
  done := by
    intro X hP hw hK hc i pins s σ H E I hf st hg
    subst hP hw hK
    obtain ⟨⟨old, he⟩, hit, hne, hat, hea⟩ := st
    obtain ⟨xs, hq, hx⟩ := hg
    obtain ⟨its, rv, p, hz⟩ := I.tuple hq
    obtain ⟨f0, f1, f2, f3, f4, f5⟩ := hf it (by simp)
    have hl := rv.length
    have hT : s.TypeIs (.ref e) "enumerate" := ⟨_, he, rfl⟩
    refine GQ.enum_endT (I.ok.hd hc) he hit p (by simp; omega) fun h' eb => ⟨rfl, I.turned (t' := s.toks) (fun b o hb q => eb b o hb q) f0 f1 f3 f4 f5⟩
  self := fun A i s Q E st h => let ⟨⟨_, he⟩, _⟩ := st; wpAny_pyIter_enum he h
def mEnum (X : Cx) (e : Expr) : TI := fun σ H R => mA X [e] σ H fun vs H1 => ∃ a xs, vs = [.ref a] ∧ ((SqL X.K H1 a xs ∧ R (Ite X.K a) H1) ∨ (SqT X.K H1 a xs ∧ R (IteT X.K a) H1))
theorem pi_enumA {X : Cx} {e : Expr} {p pos tpos : Pos} {elts : List Expr} {kk : Nat} (hg : Gl X "enumerate") (hm : X.mg "enumerate" = none) (hs : starEach [e] X.env = [(false, eval e X.env)]) :
    PI X (.Tuple elts kk tpos) (.Call (.Name "enumerate" p) [e] [] pos) (mEnum X e) := by
  refine ⟨fun pins s σ H R I h => ?_⟩
  refine Call_ (ld_blt I hg hm boot_enumerate (PyProof.Rows.callWith_type1 (thn (pa_max.run pos pins s σ H _ I h) fun us s1 ⟨vs, H1, I1, r1, q1⟩ => ?_) hs rfl))
  obtain ⟨a, xs, ex, q⟩ := q1
  subst ex
  cases r1 with
  | cons r rr =>
    cases rr
    cases r
    have new : ∀ {b : Addr}, b ∈ [s1.heap.objs.size + 1, s1.heap.objs.size] → s1.heap.objs.size ≤ b := fun {b} hb => by
      have e' : b = s1.heap.objs.size + 1 ∨ b = s1.heap.objs.size := by simpa using hb
      rcases e' with z | z
      · rw [z]; exact Nat.le_add_right _ _
      · rw [z]; exact Nat.le_refl _
    rcases q with ⟨hq, q⟩ | ⟨hq, q⟩
    · obtain ⟨its, rv, p', hz⟩ := I1.list hq
      refine call_enumerate_list p'.isList fun h' he hit hsz hk => wpAny_pyIter_enum he ?_
      have I2 : Inv X pins σ H1 { s1 with heap := h' } := I1.kept (t' := s1.toks) hk
      exact ⟨s1.heap.objs.size + 1, [s1.heap.objs.size + 1, s1.heap.objs.size], _, _, H1, rfl, I2, turn_enum a (s1.heap.objs.size + 1) s1.heap.objs.size, ⟨⟨.none, he⟩, hit, Nat.succ_ne_self _⟩, fun b hb => I1.fpOk (new hb) (I1.hok.fresh (new hb)), q⟩
    · obtain ⟨its, rv, p', hz⟩ := I1.tuple hq
      have hal : a < s1.heap.objs.size := by obtain ⟨_, q, _⟩ := p'; exact Heap.lt_size q
      refine GQ.enum_begins1 (begins_tuple a its.toArray) p' fun h' he hit hsz hk => wpAny_pyIter_enum he ?_
      have I2 : Inv X pins σ H1 { s1 with heap := h' } := I1.kept (t' := s1.toks) hk
      exact ⟨s1.heap.objs.size + 1, [s1.heap.objs.size + 1, s1.heap.objs.size], _, _, H1, rfl, I2, turn_enumT a (s1.heap.objs.size + 1) s1.heap.objs.size, ⟨⟨.none, he⟩, ⟨_, hit, rfl, rfl⟩, Nat.succ_ne_self _, Nat.ne_of_lt hal, Nat.ne_of_gt (Nat.lt_succ_of_lt hal)⟩, fun b hb => I1.fpOk (new hb) (I1.hok.fresh (new hb)), q⟩
theorem itok_enumT {K : KW} {a : Addr} {vs : List V} {ds : List D} : ItOk K (IteT K.K a) (enumD ds) (fun G => SqT K.K G a vs ∧ Reps K G vs ds) := by
  refine ⟨fun G G' e z => ⟨ex_t e z.1, z.2.mono e⟩, ?_, ?_, ?_⟩
  · intro G H i f s hi
    rw [enumD_length, ← f.2.length] at hi
    exact ⟨vs, vs[i], ex_t s f.1, List.getElem?_eq_getElem hi⟩
  · rintro G H i x H' f s hi ⟨T, y, rfl, hT, rfl, hy⟩
    obtain ⟨d, hd, r⟩ := f.2.getV (hy vs (ex_t s f.1))
    exact ⟨_, enumD_get hd, .inr ⟨T, _, _, hT, rfl, rfl, rfl, .cons (.int _) (.cons r .nil)⟩⟩
  · intro G H f s
    exact ⟨vs, ex_t s f.1, by rw [enumD_length, f.2.length]; exact Nat.le_refl _⟩
def seq1 : List D → Option (List D)
  | [.lst ds] => some ds
  | [.tup ds] => some ds
  | _ => none
theorem seq1_eq {ds es : List D} (h : seq1 ds = some es) : ds = [.lst es] ∨ ds = [.tup es] := by
  unfold seq1 at h
  split at h
  · cases h; exact .inl rfl
  · cases h; exact .inr rfl
  · cases h
def iEnum2 (a : Ea) : Ei := fun L env => bnd (a L env) fun L1 xs => bnd (Fzs L1 xs) fun L2 ds => bnd (opt L2 (seq1 ds)) fun L2 ds => some (.val L2 (enumD ds))
theorem ri_enum2 {X : Cx} {e : Expr} {as : Ea} {p pos tpos : Pos} {elts : List Expr} {kk : Nat} (hg : Gl X "enumerate") (hm : X.mg "enumerate" = none) (a : RA X [e] as) (hs : starEach [e] X.env = [(false, eval e X.env)]) : RI X (.Tuple elts kk tpos) (.Call (.Name "enumerate" p) [e] [] pos) (iEnum2 as) :=
  ⟨fun {L env Q Ex} h {W B T G σ H R F} hn tk o n xc => mI_of (pi_enumA hg hm hs) (a.ok (post_bnd h) hn tk o (fun T1 L1 G1 H1 vs xs q t1 o1 => by
    obtain ⟨L2, ds, hf, q⟩ := post_fzs (post_bnd q)
    obtain ⟨es, he, q⟩ := post_bopt q
    obtain ⟨G2, s2, o2, r2⟩ := (o1.drop o.st).fzs hf
    have r := r2 vs o1.f.2
    rcases seq1_eq he with rfl | rfl
    · cases r with
      | cons r1 r3 =>
        cases r3
        obtain ⟨b, us, rfl, h1, h2⟩ := rep_lst r1
        exact ⟨b, us, rfl, .inl ⟨ex_l o2.sub h1, n T1 L2 G2 H1 _ _ _ q t1 (o2.push itok_enum.st ⟨h1, h2⟩) itok_enum⟩⟩
    · cases r with
      | cons r1 r3 =>
        cases r3
        obtain ⟨b, us, rfl, h1, h2⟩ := rep_tup r1
        exact ⟨b, us, rfl, .inr ⟨ex_t o2.sub h1, n T1 L2 G2 H1 _ _ _ q t1 (o2.push itok_enumT.st ⟨h1, h2⟩) itok_enumT⟩⟩) xc)⟩
end FL

set_option Elab.async false
set_option linter.all false
set_option maxRecDepth 100000
set_option maxHeartbeats 4000000
/-! ### tuples that can be compared though behind the first item that differs nothing is alike -/
namespace GQ
open PySem PySem.W PySem.SeqAt PyProof.Rows PySem.Calls
def comp : List PyData → List PyData → Bool
  | x :: xs, y :: ys => alike x y && (!PyData.eqv x y || comp xs ys)
  | [], _ => true
  | _ :: _, [] => true
def compT : PyData → PyData → Bool
  | .tuple (x :: xs), .tuple (y :: ys) => comp (x :: xs) (y :: ys)
  | _, _ => false
theorem comp_cons {x y : PyData} {xs ys : List PyData} (h : comp (x :: xs) (y :: ys) = true) : alike x y = true ∧ (PyData.eqv x y = true → comp xs ys = true) := by
  rw [comp, Bool.and_eq_true] at h
  refine ⟨h.1, fun e => ?_⟩
  have := h.2
  rw [e] at this
  exact this
theorem compT_of {d d' : PyData} (h : compT d d' = true) : ∃ x xs y ys, d = .tuple (x :: xs) ∧ d' = .tuple (y :: ys) ∧ comp (x :: xs) (y :: ys) = true := by
  unfold compT at h
  split at h
  · exact ⟨_, _, _, _, rfl, rfl, h⟩
  · cases h
theorem comp_unique {h : Heap} : ∀ (xs ys : List PyData) (vs : List Value) (as as' : List Addr), comp xs ys = true → ReadsAll h vs xs as → ReadsAll h vs ys as' → xs = ys
  | [], _, _, _, _, _, r, r' => by cases r; cases r'; rfl
  | x :: xs, [], _, _, _, _, r, r' => by cases r'; cases r
  | x :: xs, y :: ys, _, _, _, ha, r, r' => by
    cases r with
    | cons h1 h2 =>
      cases r' with
      | cons k1 k2 =>
        obtain ⟨c1, c2⟩ := comp_cons ha
        have e := alike_unique x y _ _ _ c1 h1 k1
        subst e
        rw [comp_unique xs ys _ _ _ (c2 (eqv_refl_alike x c1)) h2 k2]
theorem comp_self : ∀ xs : List PyData, comp xs xs = true → alikeAll xs xs = true
  | [], _ => by simp [alikeAll]
  | x :: xs, h => by
    obtain ⟨c1, c2⟩ := comp_cons h
    rw [alikeAll, c1, comp_self xs (c2 (eqv_refl_alike x c1))]
    rfl
def AllComp (ds : List PyData) : Prop := ∀ d, d ∈ ds → ∀ d', d' ∈ ds → compT d d' = true
theorem AllComp.self {ds : List PyData} (h : AllComp ds) {d : PyData} (hd : d ∈ ds) : alike d d = true := by
  obtain ⟨x, xs, y, ys, rfl, e, c⟩ := compT_of (h d hd d hd)
  cases e
  rw [alike]
  exact comp_self _ c
theorem compT_unique {h : Heap} {d d' : PyData} {v : Value} {as as' : List Addr} (hc : compT d d' = true) (r : Reads h v d as) (r' : Reads h v d' as') : d = d' := by
  obtain ⟨x, xs, y, ys, rfl, rfl, c⟩ := compT_of hc
  cases r with
  | tuple h1 h2 h3 h4 =>
    cases r' with
    | tuple k1 k2 k3 k4 =>
      rw [h1] at k1; cases k1
      rw [h3] at k3; cases k3
      rw [comp_unique _ _ _ _ _ c h4 k4]
theorem kind_some {h : Heap} {ds : List PyData} (hal : AllComp ds) {v : Value} {d : PyData} {as : List Addr} (hd : d ∈ ds) (r : Reads h v d as) : (dataKind h ds).keyOf v = some (keyToks d) := by
  have q : ∃ d, d ∈ ds ∧ ∃ as, Reads h v d as := ⟨d, hd, as, r⟩
  have e : (dataKind h ds).keyOf v = some (keyToks q.choose) := by
    show (open Classical in if q : ∃ d, d ∈ ds ∧ ∃ as, Reads h v d as then some (keyToks q.choose) else none) = _
    rw [dif_pos q]
  obtain ⟨h1, as', h2⟩ := q.choose_spec
  rw [e, compT_unique (hal _ h1 _ hd) h2 r]
section
variable {prog : Program} {w : World} {A : Around} {E : Value → Shared → Prop} {s : Shared}
theorem katLex_comp {b fin : Bool} {Q : Bool → Shared → Prop} : ∀ (xs ys : List PyData) (i : Nat) (vs ws : List Value) (as bs : List Addr), ReadsAll s.heap vs xs as → ReadsAll s.heap ws ys bs → comp xs ys = true →
    A.units + min (PyData.depthAll xs) (PyData.depthAll ys) < cLine → (b = true → i = 0 → ∀ x r t, xs = x :: r → x ≠ .tuple t) → fin = decide (xs.length < ys.length) → Q (PyProof.Rows.lexLt itemOrd (keyToksAll xs) (keyToksAll ys)) s → KatLex prog w A b fin Q (vs.zip ws) i s
  | [], [], i, _, _, _, _, ra, rb, _, _, _, hf, hq => by
    cases ra
    cases rb
    have e : fin = false := by rw [hf]; rfl
    subst e
    rw [lex_irrefl] at hq
    exact kat_nil hq
  | [], y :: ys, i, _, _, _, _, ra, rb, _, _, _, hf, hq => by
    cases ra
    have e : fin = true := by rw [hf]; exact decide_eq_true (Nat.succ_pos _)
    subst e
    rw [toks_all_cons] at hq
    simp only [keyToksAll] at hq
    rw [lex_diff (O := itemOrd) (by simp)] at hq
    rw [List.zip_nil_left]
    exact kat_nil (by simpa [itemLt] using hq)
  | x :: xs, [], i, _, _, _, _, ra, rb, _, _, _, hf, hq => by
    cases rb
    have e : fin = false := by rw [hf]; exact decide_eq_false (Nat.not_lt_zero _)
    subst e
    rw [toks_all_cons] at hq
    simp only [keyToksAll] at hq
    rw [lex_diff (O := itemOrd) (by simp)] at hq
    rw [List.zip_nil_right]
    exact kat_nil (by simpa [itemLt] using hq)
  | x :: xs, y :: ys, i, _, _, _, _, ra, rb, h, hu, hb, hf, hq => by
    obtain ⟨h1, h2⟩ := comp_cons h
    have hf' : fin = decide (xs.length < ys.length) := by
      rw [hf]
      simp only [List.length_cons, Nat.add_lt_add_iff_right]
    cases ra with
    | cons r rs =>
      cases rb with
      | cons r' rs' =>
        rw [List.zip_cons_cons]
        refine kat_cons (eqAt_alike x y A s _ _ _ _ r r' h1 (room_head hu) prog w _ _ ?_)
        cases hx : PyData.eqv x y with
        | true =>
          rw [dataLt_all_yes h1 hx] at hq
          exact kat_yes (katLex_comp xs ys (i + 1) _ _ _ _ rs rs' (h2 hx) (room_tail hu) (fun _ hi => absurd hi (Nat.succ_ne_zero i)) hf' hq)
        | false =>
          rw [dataLt_all_no h1 hx] at hq
          refine kat_no (oneLt_alike (fun hbi t => ?_) r r' h1 (ne_none_of h1 hx) (room_head hu) hq)
          rw [Bool.and_eq_true] at hbi
          exact hb hbi.1 (by simpa using hbi.2) x xs t rfl
theorem sortsAt_comp {vs : List Value} {ds : List PyData} (e : EachIs (fun v d => ∃ as, Reads s.heap v d as) vs ds) (hal : AllComp ds) (hu : ∀ d, d ∈ ds → A.units + d.depth < cLine) : SortsAt prog w A s (dataKind s.heap ds) vs := by
  have room : ∀ {d d' : PyData}, d ∈ ds → A.units + min d.depth d'.depth < cLine := fun {d d'} hd => Nat.lt_of_le_of_lt (Nat.add_le_add_left (Nat.min_le_left _ _) _) (hu d hd)
  have ht : ∀ d, d ∈ ds → ∃ x r, d = .tuple (x :: r) := fun d hd => by
    obtain ⟨x, xs, y, ys, rfl, _, _⟩ := compT_of (hal d hd d hd)
    exact ⟨x, xs, rfl⟩
  refine ⟨fun v hv => ?_, ?_⟩
  · obtain ⟨d, hd, as, r⟩ := e.left v hv
    exact ⟨_, kind_some hal hd r⟩
  · cases ds with
    | nil =>
      cases e
      exact ⟨general', fun E x y a b Q ha _ _ => (by
        obtain ⟨d, _, hd, _⟩ := dataKind_inv ha
        exact absurd hd (by simp)), fun h2 => absurd h2 (by simp)⟩
    | cons d₀ ds₀ =>
      obtain ⟨x₀, r₀, e₀⟩ := ht d₀ (List.mem_cons_self ..)
      have hfirst : ∀ x r, PyData.tuple (x :: r) ∈ d₀ :: ds₀ → alike x x₀ = true := by
        intro x r hm
        have q := hal _ hm d₀ (List.mem_cons_self ..)
        rw [e₀] at q
        exact (comp_cons q).1
      refine ⟨tuples' (dataType x₀ != Value.type "tuple"), ?_, fun h2 E Q hq => ?_⟩
      · intro E x y a b Q ha hb hq
        obtain ⟨d, as, hd, ra, rfl⟩ := dataKind_inv ha
        obtain ⟨d', as', hd', rb, rfl⟩ := dataKind_inv hb
        have hdd := hal d hd d' hd'
        have hroom := room (d' := d') hd
        obtain ⟨x1, r1, rfl⟩ := ht d hd
        obtain ⟨x2, r2, rfl⟩ := ht d' hd'
        have hq' : Q (dataLt (.tuple (x1 :: r1)) (.tuple (x2 :: r2))) s := hq
        rw [dataLt_tuple] at hq'
        cases ra with
        | @tuple l o xs n _ _ h1 h2 h3 h4 =>
          cases rb with
          | @tuple l' o' xs' n' _ _ k1 k2 k3 k4 =>
            have n1 : xs.size = (x1 :: r1).length := by simpa using SeqAt.ReadsAll.length _ _ _ h4
            have n2 : xs'.size = (x2 :: r2).length := by simpa using SeqAt.ReadsAll.length _ _ _ k4
            refine kat_lt h1 h3 k1 k3 (katLex_comp (x1 :: r1) (x2 :: r2) 0 _ _ _ _ h4 k4 hdd (by have q := SeqAt.room_in hroom; omega) (fun hb _ x r t ex => ?_) (by rw [n1, n2]) hq')
            obtain ⟨rfl, rfl⟩ := List.cons.inj ex
            have q := dataType_alike (hfirst _ _ hd)
            rw [← q] at hb
            exact dataType_tuple hb t
      · obtain ⟨fs, t1, t2, t3⟩ := each_katTups e ht
        refine kat_kind (T := dataType x₀) t1 (by omega) (fun f hf => ?_) (beq_self_eq_true _) hq
        obtain ⟨x, r, as, m1, m2⟩ := t3 f hf
        rw [← dataType_alike (hfirst x r m1)]
        exact looks_reads m2
theorem each_keys2 {h : Heap} {ds : List PyData} (hal : AllComp ds) {vs : List Value} (e : EachIs (fun v d => ∃ as, Reads h v d as) vs ds) : EachIs (fun v d => (dataKind h ds).keyOf v = some (keyToks d)) vs ds :=
  (each_mem e).mono fun _ _ ⟨⟨_, r⟩, hd⟩ => kind_some hal hd r
variable {β : Type} {vs : List Value} {bs : List β} {enc : β → PyData} {R : Value → β → Prop}
theorem sortVals_comp {h' : Heap} (rev : Bool) (e : EachIs R vs bs) (er : EachIs (fun v b => ∃ as, Reads h' v (enc b) as) vs bs) (hal : AllComp (bs.map enc)) :
    EachIs R (sortVals (dataKind h' (bs.map enc)) rev vs vs) (bs.mergeSort (dataLe rev enc)) :=
  sortVals_each (κ := dataKind h' (bs.map enc)) (fun b => keyToks (enc b)) e (each_of_map enc (each_keys2 hal (each_map (R := fun v d => ∃ as, Reads h' v d as) enc er)))
theorem list_sort_comp {a : Addr} {n : Nat} {Q : Value → Shared → Prop} (ho : s.heap.get? a = some (seqObj "list" vs.toArray n)) (e : EachIs R vs bs) (er : EachIs (fun v b => ∃ as, Reads s.heap v (enc b) as ∧ a ∉ as) vs bs) (hal : AllComp (bs.map enc)) (hL : bs.length ≤ sizeLine)
    (hu : ∀ b, b ∈ bs → A.units + 1 + (enc b).depth < cLine) (h : ∀ out, out.length = bs.length → EachIs R out (bs.mergeSort (dataLe false enc)) → Q .none { s with heap := sortedHeap s.heap a vs (List.toArray out) }) :
    wpAny (model prog w) A (call (.builtin "list.sort") [.ref a]) Q E s := by
  have er' : EachIs (fun v b => ∃ as, Reads (sortingHeap s.heap a vs) v (enc b) as) vs bs :=
    (each_mem er).mono fun v b ⟨⟨as, r, hn⟩, hb⟩ => ⟨as, Reads.keepBut (h' := sortingHeap s.heap a vs) (fun _ _ hb q => sortingHeap_old hb q) (fun o q => by rw [ho] at q; rw [← Option.some.inj q]) _ _ _ (hal.self (List.mem_map.mpr ⟨b, hb, rfl⟩)) r hn⟩
  refine wpAny_call_entry slot_list_sort ⟨_, ho, rfl⟩ entry_list_sort (list_sort_vals (κ := dataKind (sortingHeap s.heap a vs) (bs.map enc)) ho (sortsAt_comp (s := { s with heap := sortingHeap s.heap a vs }) (each_map (R := fun v d => ∃ as, Reads (sortingHeap s.heap a vs) v d as) enc er') hal (bound_map hu)) (by rw [e.length]; exact hL) ⟨.none, rfl, ?_⟩) (args_list_sort _)
  exact h _ (by rw [sortVals_length false rfl]; exact e.length) (sortVals_comp false e er' hal)
end
end GQ
namespace FL
open PySem PySem.Spec PyProof.Rows L2
def rSortC (K : PySem.W.Frag) : List V → Hp → VK → Prop := fun xs H Q => ∃ (a : Addr) (vs : List V) (ds : List PyData), xs = [.ref a] ∧ (SqL K H a vs ∨ SqT K H a vs) ∧ DpAll K H vs ds ∧ GQ.AllComp ds ∧ (∀ d ∈ ds, d.depth ≤ 50) ∧
  ∀ p, H p = none → Q (.ref p) (upd H p (.lst (srtV vs ds)))
theorem cr_sortedC {X : Cx} (hu : X.A.units + 64 < cLine) : CallR X (.builtin "sorted") (rSortC X.K) := by
  intro pins s σ H xs us Q I r h
  obtain ⟨a, vs, ds, rfl, hq, hd, hal, hdep, q⟩ := h
  obtain ⟨u, rfl, rx⟩ := vals1 r
  cases rx
  obtain ⟨its, T, o, n, rv, hT, ho, hc, hdt, hz⟩ : ∃ (its : List Value) (T : String) (o : Obj) (n : Nat), Vals vs its ∧ (T = "list" ∨ T = "tuple") ∧ s.heap.get? a = some o ∧ o.cls = .type T ∧ o.data = .seq its.toArray n ∧ vs.length ≤ sizeLine := by
    rcases hq with hq | hq
    · obtain ⟨its, rv, ⟨o, n, ho, hc, _, hdt⟩, hz⟩ := I.list hq
      exact ⟨its, "list", o, n, rv, .inl rfl, ho, hc, hdt, hz⟩
    · obtain ⟨its, rv, ⟨o, ho, hc, n, hdt⟩, hz⟩ := I.tuple hq
      exact ⟨its, "tuple", o, n, rv, .inr rfl, ho, hc, hdt, hz⟩
  have li : its.length = vs.length := rv.length.symm
  refine Calls.call_function_entry PyProof.Rows.kind_sorted PyProof.Rows.plain_sorted PyProof.Rows.entry_sorted (PyProof.Rows.args_sorted1 _) ?_
  unfold Builtin.«sorted»
  refine wpAny_bind (m := checkCount "sorted" 1 1 _) (wpAny_pure ?_)
  refine wpAny_bind (wpAny_collect_seq a hT ho hc hdt (fun h' hk' => ?_) (by rw [List.size_toArray, li]; exact hz))
  have I1 : Inv X pins σ H { s with heap := h' } := I.kept hk'
  have ea : its.toArray.toList = its := by simp
  rw [ea]
  refine wpAny_bind (wpAny_newList ?_ (by rw [li]; exact hz))
  have hL : ∀ o, s.heap.get? h'.objs.size ≠ some o := fun o e => Nat.lt_irrefl _ (Heap.lt_size (hk' _ _ e))
  have kp : ∀ b o, s.heap.get? b = some o → (h'.push (seqObj "list" its.toArray 0)).get? b = some o := fun b o e => Heap.get?_push_of_some _ (hk' b o e)
  have hoL : (h'.push (seqObj "list" its.toArray 0)).get? h'.objs.size = some (seqObj "list" its.toArray 0) := Heap.get?_push_size _ rfl
  obtain ⟨e1, e2⟩ := each_zip (L := h'.objs.size) I kp hL rv hd
  have eb : (vs.zip ds).map (fun b : V × PyData => b.2) = ds := List.map_snd_zip (by rw [dps_len hd]; exact Nat.le_refl _)
  show wpAny _ _ _ _ _ { s with heap := h'.push (seqObj "list" its.toArray 0) }
  refine wpAny_bind (wpAny_holding (GQ.list_sort_comp (s := { s with heap := h'.push (seqObj "list" its.toArray 0) }) (enc := fun b : V × PyData => b.2) hoL e1 e2 (by rw [eb]; exact hal) (by rw [List.length_zip, dps_len hd, Nat.min_self, ← dps_len hd]; exact hz) (fun b hb => ?_) (fun out ho' eo => ?_)))
  · have hb2 : b.2 ∈ ds := by rw [← eb]; exact List.mem_map.mpr ⟨b, hb, rfl⟩
    have := hdep _ hb2
    show X.A.units + 1 + 1 + b.2.depth < cLine
    omega
  · obtain ⟨e', he'⟩ := PyProof.Rows.sortedHeap_at (vs := its) (out := out.toArray) hoL
    have rs := each_vals eo
    have hlen : (srtV vs ds).length ≤ sizeLine := by
      unfold srtV
      rw [List.length_map, List.length_mergeSort, List.length_zip]
      exact Nat.le_trans (Nat.min_le_left _ _) hz
    refine wpAny_pure ⟨_, rfl, .ref h'.objs.size, upd H h'.objs.size (.lst (srtV vs ds)), I1.laid (t' := s.toks) (fun b u e => ?_) (Nat.le_refl _) ⟨hlen, out, e', rs, he'⟩, rfl, q _ (I1.hok.fresh (Nat.le_refl _))⟩
    have hb : b < h'.objs.size := Heap.lt_size e
    exact (PyProof.Rows.sortedHeap_old (Nat.ne_of_lt hb) (by rw [Heap.size_push]; exact Nat.lt_succ_of_lt hb)).trans (Heap.get?_push_of_some _ e)
def compB (ds : List D) : Bool := ds.all fun a => ds.all fun b => GQ.compT (py a) (py b)
def sortCB (ds : List D) : Bool := pls ds && (compB ds && depB ds)
theorem sortCB_of {ds : List D} (h : sortCB ds = true) : pls ds = true ∧ GQ.AllComp (pys ds) ∧ ∀ x ∈ pys ds, x.depth ≤ 50 := by
  unfold sortCB at h
  simp only [Bool.and_eq_true] at h
  obtain ⟨h1, h2, h4⟩ := h
  refine ⟨h1, fun d hd d' hd' => ?_, fun d hd => ?_⟩
  · obtain ⟨x, hx, rfl⟩ := mem_pys hd
    obtain ⟨y, hy, rfl⟩ := mem_pys hd'
    exact List.all_eq_true.mp (List.all_eq_true.mp h2 x hx) y hy
  · obtain ⟨x, hx, rfl⟩ := mem_pys hd
    exact Nat.le_of_ble_eq_true (List.all_eq_true.mp h4 x hx)
section
variable {X : Cx}
def fSortedC : List D → Option Res
  | [.lst ds] => br (sortCB ds) (some (.lst (srtI ds))) none
  | [.tup ds] => br (sortCB ds) (some (.lst (srtI ds))) none
  | _ => none
theorem vb_sortedC (hu : X.A.units + 64 < cLine) : CbV X (.builtin "sorted") fSortedC := fun {G H xs ds res R} v sm e r => by
  unfold fSortedC at e
  split at e
  · obtain ⟨hb, e⟩ := br_some e
    cases e
    obtain ⟨h1, h2, h4⟩ := sortCB_of hb
    obtain ⟨u, rfl, v1⟩ := views1 v
    obtain ⟨p, vs, rfl, k1, k2⟩ := v1
    refine mCall_of (cr_sortedC hu) ⟨p, vs, _, rfl, .inl (.inl k1), dps_mono sm (k2.dp h1), h2, h4, fun q hq => r q _ hq ?_⟩
    rw [srtI_eq]
    exact srt_reps k2
  · obtain ⟨hb, e⟩ := br_some e
    cases e
    obtain ⟨h1, h2, h4⟩ := sortCB_of hb
    obtain ⟨u, rfl, v1⟩ := views1 v
    have v2 : Rep (kw X) G u _ := v1
    obtain ⟨p, vs, rfl, k1, k2⟩ := rep_tup v2
    refine mCall_of (cr_sortedC hu) ⟨p, vs, _, rfl, .inr (ex_t sm k1), dps_mono sm (k2.dp h1), h2, h4, fun q hq => r q _ hq ?_⟩
    rw [srtI_eq]
    exact srt_reps k2
  · cases e
end
end FL

set_option Elab.async false
set_option linter.all false
set_option maxRecDepth 100000
set_option maxHeartbeats 4000000
/-! G: the reading of a text as a function, once for all texts. -/
namespace FL
open PySem PySem.Spec PyProof.Rows L2
/-! ### what is not read -/
def eBad : Ev := fun _ _ => none
def tBad : Et := fun _ _ => none
def aBad : Ea := fun _ _ => none
def iBad : Ei := fun _ _ => none
def gBad : Gv := fun _ _ _ => none
def sBad : Sv := fun _ _ => none
section
variable {X : Cx} {e tg it : Expr} {es : List Expr} {st : Stmt} {sts : List Stmt}
theorem re_bad : RE X e eBad := ⟨fun h => h.elim⟩
theorem rt_bad : RT X e tBad := ⟨fun h => h.elim⟩
theorem ra_bad : RA X es aBad := ⟨fun h => h.elim⟩
theorem ri_bad : RI X tg it iBad := ⟨fun h => h.elim⟩
theorem rg_bad : RG X tg [] gBad := ⟨fun h => by cases h⟩
theorem rs_bad : RS X st sBad := ⟨fun h => h.elim⟩
theorem rss_bad : RSs X sts sBad := ⟨fun h => h.elim⟩
end
/-! ### tables -/
structure FnE where
  k : Nat
  ps : List Str
  sel : List Nat
  dds : List D
  bs : List Bool
  m : Fn
abbrev Shp := List (Nat × List Str × FnE)
structure Tab where
  fns : List (Str × Shp)
  mks : List (Str × Shp)
  mts : List (Str × List (Str × Shp))
  prs : List (Str × List (Str × Nat × Fn))
  fds : List (Str × List Str)
  cns : List (Str × D)
  bls : List Str
  iC : List Str
  iD : List Str
  eqs : EqT
  lns : EqT
  ixs : List (Str × List Str)
  kds : List (Str × List (Str × Str))
def AllL {α : Type} (P : α → Prop) : List α → Prop
  | [] => True
  | x :: r => P x ∧ AllL P r
theorem AllL.mem {α : Type} {P : α → Prop} : ∀ {l : List α} {x : α}, AllL P l → x ∈ l → P x
  | _ :: _, _, h, .head _ => h.1
  | _ :: _, _, h, .tail _ m => AllL.mem h.2 m
theorem fget_mem {α : Type} {x : Str} {a : α} : ∀ {l : List (Str × α)}, fget x l = some a → (x, a) ∈ l
  | (g, y) :: r, h => by
    simp only [fget] at h
    split at h
    · rename_i e
      cases h
      rw [of_decide_eq_true e]
      exact .head _
    · exact .tail _ (fget_mem h)
def shp (n : Nat) (ks : List Str) : Shp → Option FnE
  | [] => none
  | (n', ks', e) :: r => match Nat.beq n n' && decide (ks = ks') with
    | true => some e
    | false => shp n ks r
theorem shp_mem {n : Nat} {ks : List Str} {e : FnE} : ∀ {l : Shp}, shp n ks l = some e → (n, ks, e) ∈ l
  | (n', ks', e') :: r, h => by
    simp only [shp] at h
    split at h
    · rename_i q
      cases h
      rw [Bool.and_eq_true] at q
      rw [Nat.eq_of_beq_eq_true q.1, of_decide_eq_true q.2]
      exact .head _
    · exact .tail _ (shp_mem h)
def memB (x : Str) : List Str → Bool
  | [] => false
  | a :: r => sEq a x || memB x r
theorem memB_of {x : Str} : ∀ {l : List Str}, memB x l = true → x ∈ l
  | a :: r, h => by
    simp only [memB, Bool.or_eq_true] at h
    rcases h with h | h
    · rw [of_decide_eq_true h]; exact .head _
    · exact .tail _ (memB_of h)
structure TabOk (P : Program) (W : World) (K : PySem.W.Frag) (mg : Str → Option Value) (base : Heap) (t : Tab) : Prop where
  fns : AllL (fun p : Str × Shp => AllL (fun q : Nat × List Str × FnE => DefB P W K mg base p.1 q.2.2.k q.2.2.ps q.1 q.2.1 q.2.2.sel q.2.2.dds q.2.2.m) p.2) t.fns
  mks : AllL (fun p : Str × Shp => AllL (fun q : Nat × List Str × FnE => ClsB P W K mg base p.1 q.2.2.k q.2.2.ps q.1 q.2.1 q.2.2.sel q.2.2.dds q.2.2.m) p.2) t.mks
  mts : AllL (fun p : Str × List (Str × Shp) => AllL (fun c : Str × Shp => AllL (fun q : Nat × List Str × FnE => MethB P W K mg base c.1 p.1 q.2.2.k q.2.2.ps q.1 q.2.1 q.2.2.sel q.2.2.dds q.2.2.m) c.2) p.2) t.mts
  prs : AllL (fun p : Str × List (Str × Nat × Fn) => AllL (fun c : Str × Nat × Fn => PropB P W K mg base c.1 p.1 c.2.1 c.2.2) p.2) t.prs
  fds : AllL (fun p : Str × List Str => AllL (fun C => FldOk K C p.1) p.2) t.fds
  cns : AllL (fun p : Str × D => ConstV P W K mg p.1 p.2) t.cns
  bls : AllL (fun x => mg x = none) t.bls
  isi : Isi K t.iC t.iD
  eqs : EqOks P W K mg base t.eqs
  lns : LenOks P W K mg base t.lns
  ixs : AllL (fun p : Str × List Str => TupC P W K mg p.1 p.2) t.ixs
  kds : AllL (fun p : Str × List (Str × Str) => KDict P W K mg p.1 p.2) t.kds
/-! ### the place where an expression stands -/
structure CtxE (X : Cx) (N : List Str) (k : Nat) (t : Tab) (sc : Scope) : Prop where
  n : X.N = N
  nd : N.Nodup
  vis : ∀ x, sc.names.lookup x = some .local ∨ sc.names.lookup x = some .cell ∨ sc.names.lookup x = some .free → Vis X.env.scope x
  loc : ∀ x, sc.names.lookup x = some .local → X.env.scope.names.lookup x = some .local
  cel : ∀ x, sc.names.lookup x = some .cell → X.env.scope.names.lookup x = some .cell ∧ X.fn x = true
  gl : ∀ x, sc.names.lookup x = some .globalImplicit → Gl X x
  blk : ∀ scope own, blkC N sc scope own = true → BlkOk X.N X.env.scope scope own
  g : X.A.guards = some []
  r : Room k X.A
  c : X.calm = true
  t : TabOk X.prog X.w X.K X.mg X.base t
theorem lookup_map {f : Str → NameKind → NameKind} : ∀ {names : List (Str × NameKind)} {x : Str}, (names.map fun p => (p.1, f p.1 p.2)).lookup x = (names.lookup x).map (f x)
  | [], _ => rfl
  | (n, k) :: r, x => by
    rw [List.map_cons, List.lookup_cons, List.lookup_cons]
    cases e : x == n with
    | true => rw [beq_iff_eq.mp e]; rfl
    | false => exact lookup_map
theorem relabel_lookup (scope : Scope) (env : PySem.Env) (x : Str) : (relabel scope env).names.lookup x = (scope.names.lookup x).map fun k => if (k == .free && env.scope.kind == .function && env.kindOf x == some .cell) then .cell else k := by
  show (scope.names.map fun (n, k) => if (k == .free && env.scope.kind == .function && env.kindOf n == some .cell) then (n, .cell) else (n, k)).lookup x = _
  rw [← lookup_map (f := fun x k => if (k == .free && env.scope.kind == .function && env.kindOf x == some .cell) then .cell else k)]
  congr 1
  apply List.map_congr_left
  rintro ⟨n, k⟩ _
  dsimp only
  split <;> rfl
theorem CtxE.blkX {X : Cx} {N : List Str} {k : Nat} {t : Tab} {sc scope : Scope} {own : List (Str × Nat)} (c : CtxE X N k t sc) (hb : blkC N sc scope own = true) (x : Shared × Hp × Addr × List (Str × Addr) × List Addr) : CtxE (Blk X scope x) N k t scope := by
  have key : ∀ y, (Blk X scope x).env.scope.names.lookup y = (scope.names.lookup y).map fun k => if (k == .free && X.env.scope.kind == .function && X.env.kindOf y == some .cell) then .cell else k := fun y => relabel_lookup scope X.env y
  have one : ∀ {y : Str} {k : NameKind}, scope.names.lookup y = some k → k ≠ .free → (Blk X scope x).env.scope.names.lookup y = some k := by
    intro y k h hk
    rw [key, h]
    cases k <;> first | rfl | exact absurd rfl hk
  have two : ∀ {y : Str}, scope.names.lookup y = some .free → (Blk X scope x).env.scope.names.lookup y = some .cell ∨ (Blk X scope x).env.scope.names.lookup y = some .free := by
    intro y h
    rw [key, h]
    simp only [Option.map_some]
    split
    · exact .inl rfl
    · exact .inr rfl
  refine ⟨c.n, c.nd, fun y h => ?_, fun y h => one h (by intro z; cases z), fun y h => ⟨one h (by intro z; cases z), ?_⟩, fun y h => one h (by intro z; cases z), fun scope' own' h => ?_, c.g, c.r, c.c, c.t⟩
  · rcases h with h | h | h
    · exact .inl (one h (by intro z; cases z))
    · exact .inr (.inl (one h (by intro z; cases z)))
    · exact .inr (two h)
  · show (scope.names.lookup y == some .cell) = true
    rw [h]; rfl
  · have b := blkOk_by h
    refine ⟨b.kind, b.uniq, fun p hp => by show X.N[p.2]? = _; rw [c.n]; exact b.ix p hp, fun y hy e => ?_, fun y hy e => by show _ ∨ y.1 ∉ X.N; rw [c.n]; exact b.own y hy e⟩
    rcases b.free y hy e with h1 | h1
    · exact .inl (one h1 (by intro z; cases z))
    · exact two h1
/-! ### names -/
def ixOf : List Str → Str → Option Nat
  | [], _ => none
  | a :: r, x => match sEq a x with
    | true => some 0
    | false => match ixOf r x with
      | some j => some (j + 1)
      | none => none
theorem ixOf_get : ∀ {N : List Str} {x : Str} {i : Nat}, ixOf N x = some i → N[i]? = some x
  | a :: r, x, i, h => by
    simp only [ixOf] at h
    split at h
    · rename_i e; cases h; rw [of_decide_eq_true e]; rfl
    · split at h
      · rename_i j hj
        cases h
        have := ixOf_get hj
        simpa using this
      · cases h
def isGlob (sc : Scope) (x : Str) : Bool := match sc.names.lookup x with
  | some .globalImplicit => true
  | _ => false
theorem isGlob_of {sc : Scope} {x : Str} (h : isGlob sc x = true) : sc.names.lookup x = some .globalImplicit := by
  unfold isGlob at h
  split at h
  · assumption
  · cases h
def odd (x : Str) : Bool := sEq x "__debug__" || (sEq x "__classdict__" || sEq x "__name__")
theorem odd_of {x : Str} (h : odd x = false) : (x == ("__debug__" : Str)) = false ∧ (x == ("__classdict__" : Str)) = false ∧ x ≠ "__name__" := by
  simp only [odd, Bool.or_eq_false_iff, sEq, decide_eq_false_iff_not] at h
  exact ⟨beq_eq_false_iff_ne.mpr h.1, beq_eq_false_iff_ne.mpr h.2.1, h.2.2⟩
/-- types of the language as values -/
def tyTab : List (Str × String) := [("int", "int"), ("str", "str"), ("bool", "bool"), ("tuple", "tuple"), ("list", "list"), ("dict", "dict")]
theorem tyTab_ok : AllL (fun p : Str × String => bootBuiltins p.1 = some (.type p.2)) tyTab := ⟨by decide +kernel, by decide +kernel, by decide +kernel, by decide +kernel, by decide +kernel, by decide +kernel, trivial⟩
def dGlob (t : Tab) (x : Str) : Ev := match fget x t.cns with
  | some d => eCst d
  | none => match fget x tyTab, memB x t.bls with
    | some T, true => eCst (.ty T)
    | _, _ => eBad
def dName (t : Tab) (N : List Str) (sc : Scope) (x : Str) : Ev := match odd x with
  | true => eBad
  | false => match sc.names.lookup x with
    | some .globalImplicit => dGlob t x
    | some .local => match ixOf N x with
      | some i => eVar i
      | none => eBad
    | some .cell => match ixOf N x with
      | some i => eVar i
      | none => eBad
    | some .free => match ixOf N x with
      | some i => eVar i
      | none => eBad
    | _ => eBad
section
variable {X : Cx} {N : List Str} {k : Nat} {t : Tab} {sc : Scope} {x : Str} {pos : Pos}
theorem dGlob_ok (c : CtxE X N k t sc) (ho : odd x = false) (hg : Gl X x) : RE X (.Name x pos) (dGlob t x) := by
  obtain ⟨h1, h2, h3⟩ := odd_of ho
  unfold dGlob
  split
  · rename_i d hd
    exact re_glob (c.t.cns.mem (fget_mem hd)) hg h1
  · split
    · rename_i T hT hb
      exact re_tyV (pe_bltn (v := .ty T) hg (c.t.bls.mem (memB_of hb)) (tyTab_ok.mem (fget_mem hT)) rfl h3 h1)
    · exact re_bad
theorem dName_ok (c : CtxE X N k t sc) : RE X (.Name x pos) (dName t N sc x) := by
  unfold dName
  split
  · exact re_bad
  · rename_i ho
    obtain ⟨h1, h2, h3⟩ := odd_of ho
    have var : ∀ {i : Nat}, ixOf N x = some i → Vis X.env.scope x → RE X (.Name x pos) (eVar i) := fun hi hv => by
      have h := ixOf_get hi
      rw [← c.n] at h
      exact re_var (pe_var h hv h1 h2) h
    split
    · rename_i h; exact dGlob_ok c ho (c.gl x h)
    · rename_i h; split
      · rename_i hi; exact var hi (c.vis x (.inl h))
      · exact re_bad
    · rename_i h; split
      · rename_i hi; exact var hi (c.vis x (.inr (.inl h)))
      · exact re_bad
    · rename_i h; split
      · rename_i hi; exact var hi (c.vis x (.inr (.inr h)))
      · exact re_bad
    · exact re_bad
end
end FL

set_option Elab.async false
set_option linter.all false
set_option maxRecDepth 100000
set_option maxHeartbeats 4000000
namespace FL
open PySem PySem.Spec PyProof.Rows L2
/-! ### expressions, one level -/
def dCst : Const → Ev
  | .int i => eCst (.int i)
  | .str x => eCst (.str x)
  | .bool b => eCst (.bl b)
  | .none => eCst .non
  | _ => eBad
def dBin (op : Operator) (a b : Ev) : Ev := match op with
  | .Add => eOp fAdd a b
  | .Sub => eOp fSub a b
  | .Mult => eOp fMul a b
  | .Mod => eOp fMod a b
  | .FloorDiv => eOp fDiv a b
  | .Pow => eOp fPow a b
  | _ => eBad
def cmpF : CmpOp → Option (D → D → Option Res)
  | .Eq => some fEq
  | .NotEq => some fNe
  | .Lt => some fLt
  | .LtE => some fLe
  | .Gt => some fGt
  | .GtE => some fGe
  | .In => some fIn2
  | .NotIn => some fNi2
  | _ => none
def isNone : Expr → Bool
  | .Constant .none _ _ => true
  | _ => false
def dCmp (op : CmpOp) (eb : Expr) (a b : Ev) : Ev := match behindInMarks op eb with
  | true => eBad
  | false => match cmpF op with
    | some fn => eOp fn a b
    | none => match op, isNone eb with
      | .Is, true => eIsN a
      | .IsNot, true => eNotN a
      | _, _ => eBad
def tCmp (op : CmpOp) (eb : Expr) (a b : Ev) : Et := match behindInMarks op eb with
  | true => tBad
  | false => match cmpF op with
    | some fn => tVal (eOp fn a b)
    | none => match op, isNone eb with
      | .Is, true => tVal (eIsN a)
      | .IsNot, true => tVal (eNotN a)
      | _, _ => tBad
def negOf : CmpOp → Option Bool
  | .Eq => some false
  | .NotEq => some true
  | _ => none
def dCmpQ (t : Tab) (k : Nat) (op : CmpOp) (eb : Expr) (a b : Ev) : Ev := match t.eqs, negOf op, behindInMarks op eb with
  | _ :: _, some neg, false => eAlt (dCmp op eb a b) (eEqO neg k t.eqs a b)
  | _, _, _ => dCmp op eb a b
def tCmpQ (t : Tab) (k : Nat) (op : CmpOp) (eb : Expr) (a b : Ev) : Et := match t.eqs, negOf op, behindInMarks op eb with
  | _ :: _, some neg, false => tAlt (tCmp op eb a b) (tVal (eEqO neg k t.eqs a b))
  | _, _, _ => tCmp op eb a b
def ordF : CmpOp → Option (Int → Int → Bool)
  | .Lt => some fun i j => decide (i < j)
  | .LtE => some fun i j => decide (i ≤ j)
  | .Gt => some fun i j => decide (j < i)
  | .GtE => some fun i j => decide (j ≤ i)
  | _ => none
def dChain (op op' : CmpOp) (eb ec : Expr) (a b c : Ev) : Ev := match lastMarks [op, op'] [eb, ec], ordF op, ordF op' with
  | false, some g, some g' => eChain g g' a b c
  | _, _, _ => eBad
section
variable {X : Cx} {N : List Str} {k : Nat} {t : Tab} {sc : Scope} {x : Str} {pos p : Pos} {ea eb ec e : Expr} {fa fb fc : Ev} {j : Nat}
theorem dCst_ok {c : Const} : RE X (.Constant c j pos) (dCst c) := by
  unfold dCst
  split
  · exact re_int
  · exact re_str
  · exact re_bl
  · exact re_non
  · exact re_bad
theorem dBin_ok {op : Operator} (a : RE X ea fa) (b : RE X eb fb) : RE X (.BinOp ea op eb pos) (dBin op fa fb) := by
  unfold dBin
  split
  · exact re_op v_add a b
  · exact re_op v_sub a b
  · exact re_op v_mul a b
  · exact re_op v_mod a b
  · exact re_op v_fdiv a b
  · exact re_op v_pow a b
  · exact re_bad
theorem cmpF_ok {op : CmpOp} {fn : D → D → Option Res} (hu : X.A.units + 64 < cLine) (h : cmpF op = some fn) : OpV X (compareOp op) fn := by
  unfold cmpF at h
  split at h <;> cases h
  · exact v_eq hu
  · exact v_ne hu
  · exact v_lt
  · exact v_le
  · exact v_gt
  · exact v_ge
  · exact v_in2 hu
  · exact v_ni2 hu
theorem isNone_of {e : Expr} (h : isNone e = true) : ∃ j p, e = .Constant .none j p := by
  unfold isNone at h
  split at h
  · exact ⟨_, _, rfl⟩
  · cases h
theorem dCmp_ok {op : CmpOp} (hu : X.A.units + 64 < cLine) (a : RE X ea fa) (b : RE X eb fb) : RE X (.Compare ea [op] [eb] pos) (dCmp op eb fa fb) := by
  unfold dCmp
  split
  · exact re_bad
  · rename_i hm
    split
    · rename_i fn hf; exact re_cmp (cmpF_ok hu hf) a b hm
    · split
      · rename_i h _; obtain ⟨j, p, rfl⟩ := isNone_of h; exact re_isN a
      · rename_i h _; obtain ⟨j, p, rfl⟩ := isNone_of h; exact re_notN a
      · exact re_bad
theorem tCmp_ok {op : CmpOp} (hu : X.A.units + 64 < cLine) (a : RE X ea fa) (b : RE X eb fb) : RT X (.Compare ea [op] [eb] pos) (tCmp op eb fa fb) := by
  unfold tCmp
  split
  · exact rt_bad
  · rename_i hm
    split
    · rename_i fn hf; exact rt_cmp (cmpF_ok hu hf) a b hm
    · split
      · rename_i h _; obtain ⟨j, p, rfl⟩ := isNone_of h; exact rt_isN a
      · rename_i h _; obtain ⟨j, p, rfl⟩ := isNone_of h; exact rt_notN a
      · exact rt_bad
theorem negOf_of {op : CmpOp} {neg : Bool} (h : negOf op = some neg) : (op = .Eq ∧ neg = false) ∨ (op = .NotEq ∧ neg = true) := by
  unfold negOf at h
  split at h <;> cases h
  · exact .inl ⟨rfl, rfl⟩
  · exact .inr ⟨rfl, rfl⟩
theorem dCmpQ_ok (c : CtxE X N k t sc) {op : CmpOp} (a : RE X ea fa) (b : RE X eb fb) : RE X (.Compare ea [op] [eb] pos) (dCmpQ t k op eb fa fb) := by
  unfold dCmpQ
  split
  · rename_i h1 h2; exact re_alt (dCmp_ok c.r.units a b) (re_eqO (negOf_of h1) c.t.eqs c.r c.g a b h2)
  · exact dCmp_ok c.r.units a b
theorem tCmpQ_ok (c : CtxE X N k t sc) {op : CmpOp} (a : RE X ea fa) (b : RE X eb fb) : RT X (.Compare ea [op] [eb] pos) (tCmpQ t k op eb fa fb) := by
  unfold tCmpQ
  split
  · rename_i h1 h2; exact rt_alt (tCmp_ok c.r.units a b) (rt_eqO (negOf_of h1) c.t.eqs c.r c.g a b h2)
  · exact tCmp_ok c.r.units a b
theorem ordF_ok {op : CmpOp} {g : Int → Int → Bool} (h : ordF op = some g) : OpR X (compareOp op) (rI0 fun i j => .bl (g i j)) := by
  unfold ordF at h
  split at h <;> cases h
  · exact op_lt
  · exact op_le
  · exact op_gt
  · exact op_ge
theorem dChain_ok {op op' : CmpOp} (a : RE X ea fa) (b : RE X eb fb) (c : RE X ec fc) : RE X (.Compare ea [op, op'] [eb, ec] pos) (dChain op op' eb ec fa fb fc) := by
  unfold dChain
  split
  · rename_i h1 h2 h3; exact re_chain (ordF_ok h2) (ordF_ok h3) a b c h1
  · exact re_bad
theorem tChain_ok {op op' : CmpOp} (a : RE X ea fa) (b : RE X eb fb) (c : RE X ec fc) : RT X (.Compare ea [op, op'] [eb, ec] pos) (tVal (dChain op op' eb ec fa fb fc)) := by
  unfold dChain
  split
  · rename_i h1 h2 h3; exact rt_chain (ordF_ok h2) (ordF_ok h3) a b c h1
  · exact ⟨fun h => (post_bnd (m := (none : Mo DV)) h).elim⟩
end
/-! ### a value that is made plain at once -/
def eFzE (f : Ev) : Ev := fun L env => bnd (f L env) fun L1 x => bnd (Fz L1 x) fun L2 d => some (.val L2 (.d d))
theorem re_fzE {X : Cx} {e : Expr} {f : Ev} (a : RE X e f) : RE X e (eFzE f) :=
  ⟨fun {L env Q Ex} h {W B T G σ H R F} hn tk o n xc => a.ok (post_bnd h) hn tk o (fun T1 L1 G1 H1 v x q t1 o1 => by
    obtain ⟨L2, d, hf, q⟩ := post_fz (post_bnd q)
    obtain ⟨G2, s2, o2, r2⟩ := (o1.drop o.st).fz hf
    exact (n.on t1).d o2 q (r2 v o1.f.2)) xc⟩
/-- the cells of a draw are never changed: they are plain from the beginning -/
def isCells : Expr → Bool
  | .Constant (.str x) _ _ => sEq x "cells"
  | _ => false
def dFzE (k : Expr) (f : Ev) : Ev := match isCells k with
  | true => eFzE f
  | false => f
theorem dFzE_ok {X : Cx} {k e : Expr} {f : Ev} (a : RE X e f) : RE X e (dFzE k f) := by
  unfold dFzE
  split
  · exact re_fzE a
  · exact a
/-! ### arguments -/
def dA (f : Expr → Ev) : List Expr → Ea
  | [] => aNil
  | e :: r => match e with
    | .Starred e _ => aStar (f e) (dA f r)
    | e => aCons (f e) (dA f r)
def dK (f : Expr → Ev) : List Keyword → Ea
  | [] => aNil
  | ⟨_, e, _⟩ :: r => aCons (f e) (dK f r)
def dP (f : Expr → Ev) : List (Option Expr) → List Expr → Ep
  | [], [] => pNil
  | some a :: ks, b :: vs => pCons (f a) (dFzE a (f b)) (dP f ks vs)
  | _, _ => fun _ _ => none
def ksOf (kws : List Keyword) : List Str := kws.filterMap (·.arg)
def fewB (es : List Expr) (kws : List Keyword) : Bool := !es.any isStar && (kws.all (·.arg.isSome) && decide (es.length + kws.length + (if kws.isEmpty then 0 else 1) < 30))
section
variable {X : Cx} {N : List Str} {k : Nat} {t : Tab} {sc : Scope} {x : Str} {pos p : Pos} {e : Expr} {f : Expr → Ev} {env : PySem.Env}
theorem dA_ok (hf : ∀ e, RE X e (f e)) : ∀ es : List Expr, RA X es (dA f es)
  | [] => ra_nil
  | e :: r => by
    have ih := dA_ok hf r
    cases e <;> first | exact ra_star (hf _) ih | exact ra_cons (hf _) ih
theorem dK_ok (hf : ∀ e, RE X e (f e)) : ∀ kws : List Keyword, RK X kws (dK f kws)
  | [] => rk_nil
  | ⟨_, e, _⟩ :: r => rk_cons (hf e) (dK_ok hf r)
theorem dP_ok (hf : ∀ e, RE X e (f e)) : ∀ (ks : List (Option Expr)) (vs : List Expr), RP X pos ks vs (dP f ks vs)
  | [], [] => rp_nil
  | some a :: ks, b :: vs => rp_cons (hf a) (dFzE_ok (hf b)) (dP_ok hf ks vs)
  | [], _ :: _ => ⟨fun h => h.elim⟩
  | some _ :: _, [] => ⟨fun h => h.elim⟩
  | none :: _, _ => ⟨fun h => by simp only [dP] at h; exact h.elim⟩
theorem any_star : ∀ {es : List Expr}, es.any isStar = false → (backTo pos (starEach es env)).any (·.1) = false
  | [], _ => rfl
  | e :: r, h => by
    simp only [List.any_cons, Bool.or_eq_false_iff] at h
    rw [star_plain h.1]
    show (false || (backTo pos (starEach r env)).any (·.1)) = false
    rw [any_star h.2]; rfl
theorem all_star {es : List Expr} (h : es.any isStar = false) : (backTo pos (starEach es env)).all (fun x => !x.1) = true := by
  have := any_star (pos := pos) (env := env) h
  rw [List.all_eq_not_any_not]
  simp only [Bool.not_not]
  rw [this]; rfl
theorem kw_map : ∀ kws : List Keyword, (backToKw pos (keywordEach kws env)).map (·.1) = kws.map (·.arg)
  | [] => rfl
  | ⟨_, _, _⟩ :: r => by
    have ih := kw_map r
    exact congrArg (List.cons _) ih
theorem kw_all {kws : List Keyword} (h : kws.all (·.arg.isSome) = true) : (backToKw pos (keywordEach kws env)).all (·.1.isSome) = true := by
  have e := congrArg (fun l => l.all Option.isSome) (kw_map (pos := pos) (env := env) kws)
  simp only [List.all_map] at e
  exact e.trans h
theorem kw_any {kws : List Keyword} (h : kws.all (·.arg.isSome) = true) : (backToKw pos (keywordEach kws env)).any (·.1.isNone) = false := by
  have := kw_all (pos := pos) (env := env) h
  rw [List.any_eq_not_all_not]
  have e : ((backToKw pos (keywordEach kws env)).all fun x => !x.1.isNone) = (backToKw pos (keywordEach kws env)).all (·.1.isSome) := by
    congr 1; funext x; cases x.1 <;> rfl
  rw [e, this]; rfl
theorem kw_ks (kws : List Keyword) : (backToKw pos (keywordEach kws env)).filterMap (·.1) = ksOf kws := by
  have e := congrArg (fun l => l.filterMap id) (kw_map (pos := pos) (env := env) kws)
  simp only [List.filterMap_map] at e
  exact e
theorem few_of {es : List Expr} {kws : List Keyword} (h : fewB es kws = true) : es.any isStar = false ∧ kws.all (·.arg.isSome) = true ∧ methodCallForm (es.length + kws.length) (backTo pos (starEach es env)) (backToKw pos (keywordEach kws env)) = true := by
  simp only [fewB, Bool.and_eq_true, Bool.not_eq_true'] at h
  obtain ⟨h1, h2, h3⟩ := h
  refine ⟨h1, h2, ?_⟩
  unfold methodCallForm
  rw [all_star h1, kw_all h2]
  have : (backToKw pos (keywordEach kws env)).isEmpty = kws.isEmpty := by
    cases kws with
    | nil => rfl
    | cons a r => cases a; rfl
  rw [this]
  simpa using h3
theorem shape_of {es : List Expr} {kws : List Keyword} (hf : ∀ e, RE X e (f e)) (h1 : es.any isStar = false) (h2 : kws.all (·.arg.isSome) = true) : ShapeG X es kws (ksOf kws) pos (dA f es) (dK f kws) := by
  have a := dA_ok hf es
  have b := dK_ok hf kws
  cases es with
  | nil => exact shape_nil b (kw_all h2) (kw_ks kws) (by rw [kw_any h2]; rfl)
  | cons e es =>
    have h0 := h1
    simp only [List.any_cons, Bool.or_eq_false_iff] at h1
    exact shape_cons a b (kw_all h2) (kw_ks kws) (star_plain h1.1) (by rw [any_star h0, kw_any h2]; rfl)
end
end FL

set_option Elab.async false
set_option linter.all false
set_option maxRecDepth 100000
set_option maxHeartbeats 4000000
namespace FL
open PySem PySem.Spec PyProof.Rows L2
/-! ### calls, attributes -/
def blts (t : Tab) : List (Str × Bool × String × (List D → Option Res)) :=
  [("len", true, "len", fLen), ("tuple", false, "tuple", fTuple), ("list", false, "list", alt2 fList fListD), ("int", false, "int", fIntB), ("abs", true, "abs", fAbs), ("all", true, "all", fAll), ("any", true, "any", fAny),
   ("sorted", true, "sorted", alt2 fSorted (alt2 fSortedC fSortedD)), ("repr", true, "repr", fRepr), ("min", true, "min", alt2 fMin2 fMin1), ("max", true, "max", alt2 fMax2 fMax1), ("isinstance", true, "isinstance", fIsi2 t.iC t.iD), ("dict", false, "dict", alt2 fDictP fDictD)]
def BltOk (X : Cx) (p : Str × Bool × String × (List D → Option Res)) : Prop := match p.2.1 with
  | true => bootBuiltins p.1 = some (.builtin p.2.2.1) ∧ CbV X (.builtin p.2.2.1) p.2.2.2
  | false => bootBuiltins p.1 = some (.type p.2.2.1) ∧ CbV X (.type p.2.2.1) p.2.2.2
theorem blts_ok {X : Cx} {N : List Str} {k : Nat} {t : Tab} {sc : Scope} (c : CtxE X N k t sc) : AllL (BltOk X) (blts t) :=
  have hu := c.r.units
  ⟨⟨by decide +kernel, vb_len⟩, ⟨by decide +kernel, vb_tuple⟩, ⟨by decide +kernel, cbv_alt vb_list (vb_listD c.c)⟩, ⟨by decide +kernel, vb_int⟩, ⟨by decide +kernel, vb_abs⟩, ⟨by decide +kernel, vb_all c.c⟩, ⟨by decide +kernel, vb_any c.c⟩,
    ⟨by decide +kernel, cbv_alt (vb_sorted hu) (cbv_alt (vb_sortedC hu) (vb_sortedD c.c hu))⟩, ⟨by decide +kernel, vb_repr c.g hu⟩, ⟨by decide +kernel, cbv_alt (vb_min2 c.c) (vb_min1 c.c)⟩, ⟨by decide +kernel, cbv_alt (vb_max2 c.c) (vb_max1 c.c)⟩, ⟨(by decide +kernel : bootBuiltins "isinstance" = some (.builtin "isinstance")), vb_isinstance c.t.isi⟩, ⟨by decide +kernel, cbv_alt (vb_dictP c.c) (vb_dictD hu)⟩, trivial⟩
def dBlt (t : Tab) (x : Str) (es : List Expr) (kws : List Keyword) (as : Ea) : Ev := match fget x (blts t), memB x t.bls, es, kws with
  | some p, true, _ :: _, [] => eCb p.2.2 as
  | _, _, _, _ => eBad
/-- len(set(..)), list(range(..)) -/
def dBig (t : Tab) (sc : Scope) (f : Expr → Ev) (x : Str) (e : Expr) : Option Ev := match e with
  | .Call (.Name y _) es [] _ => match isGlob sc y && (memB x t.bls && memB y t.bls) with
    | true => match es with
      | [a] => match isStar a with
        | false => match sEq x "len" && sEq y "set" with
          | true => some (eLenSet (f a))
          | false => match sEq x "list" && sEq y "range" with
            | true => some (eRgL (aCons (f a) aNil))
            | false => none
        | true => none
      | [a, b] => match isStar a || isStar b with
        | false => match sEq x "list" && sEq y "range" with
            | true => some (eRgL (aCons (f a) (aCons (f b) aNil)))
            | false => none
        | true => none
      | _ => none
    | false => none
  | _ => none
def dBlt1 (t : Tab) (k : Nat) (sc : Scope) (f : Expr → Ev) (x : Str) (es : List Expr) (kws : List Keyword) (as : Ea) : Ev := match es, kws with
  | [e], [] => match dBig t sc f x e with
    | some r => r
    | none => match sEq x "len" && memB x t.bls, t.lns with
      | true, _ :: _ => eAlt (dBlt t x [e] [] as) (eLenO k t.lns as)
      | _, _ => dBlt t x [e] [] as
  | es, kws => dBlt t x es kws as
def dCallN (t : Tab) (k : Nat) (sc : Scope) (f : Expr → Ev) (x : Str) (es : List Expr) (kws : List Keyword) (as ka : Ea) : Ev := match fewB es kws, odd x with
  | true, false => match fget x t.fns with
    | some l => match shp es.length (ksOf kws) l with
      | some e => match Nat.ble e.k k with
        | true => eCallG e.m e.bs es.length (ksOf kws).length e.sel e.dds as ka
        | false => eBad
      | none => eBad
    | none => match fget x t.mks with
      | some l => match shp (es.length + 1) (ksOf kws) l with
        | some e => match Nat.ble (e.k + 1) k with
          | true => eMake x e.m e.bs (es.length + 1) (ksOf kws).length e.sel e.dds as ka
          | false => eBad
        | none => eBad
      | none => dBlt1 t k sc f x es kws as
  | _, _ => eBad
def eAlts : List Ev → Ev
  | [] => eBad
  | [a] => a
  | a :: r => eAlt a (eAlts r)
theorem alts_ok {X : Cx} {e : Expr} : ∀ {l : List Ev}, (∀ a ∈ l, RE X e a) → RE X e (eAlts l)
  | [], _ => re_bad
  | [a], h => h a (.head _)
  | a :: b :: r, h => re_alt (h a (.head _)) (alts_ok fun c hc => h c (.tail _ hc))
def abB : Expr → Bool
  | .Call (.Name x _) [] [] _ => !sEq x "super"
  | _ => true
theorem ab_of {e : Expr} {m : Str} {env : PySem.Env} (h : abB e = true) : attributeBase e m env (eval e env) = eval e env := by
  cases e with
  | Call f args kws p =>
    cases f with
    | Name x q =>
      cases args with
      | nil =>
        cases kws with
        | nil =>
          simp only [abB, Bool.not_eq_true', sEq, decide_eq_false_iff_not] at h
          unfold attributeBase
          have h' : (x != ("super" : Str)) = true := by simpa using h
          simp only [h', Bool.true_or, if_true]
        | cons _ _ => rfl
      | cons _ _ => rfl
    | _ => rfl
  | _ => rfl
theorem meth_eval {eo : Expr} {m : Str} {apos pos : Pos} {es : List Expr} {kws : List Keyword} {env : PySem.Env} (hab : abB eo = true) (hf : methodCallForm (es.length + kws.length) (backTo pos (starEach es env)) (backToKw pos (keywordEach kws env)) = true) (hl : (apos.endLine == pos.line) = true) :
    eval (.Call (.Attribute eo m apos) es kws pos) env = (do
      let ov ← eval eo env
      standAt apos.atName
      let (g, frst) ← holding [ov] (getMethod ov m (do return (← importBound eo env).getD true))
      callWith pos g frst (backTo pos (starEach es env)) (backToKw pos (keywordEach kws env))) := by
  show (do let ov ← attributeBase eo m env (eval eo env); standAt apos.atName; methodCall eo m apos pos env ov (es.length + kws.length) (backTo pos (starEach es env)) (backToKw pos (keywordEach kws env))) = _
  rw [ab_of hab]
  simp only [methodCall, hf, calleeOf, methodCallPos, hl]
  rfl
def mOwn1 (k : Nat) (m : Str) (n : Nat) (ks : List Str) (o : Ev) (as ka : Ea) (c : Str × Shp) : Ev := match shp n ks c.2 with
  | some e => match Nat.ble e.k k with
    | true => eMeth c.1 m e.m e.bs n ks.length e.sel e.dds o as ka
    | false => eBad
  | none => eBad
def mOwn (t : Tab) (k : Nat) (m : Str) (es : List Expr) (kws : List Keyword) (o : Ev) (as ka : Ea) : List Ev := match fget m t.mts with
  | some l => l.map (mOwn1 k m (es.length + 1) (ksOf kws) o as ka)
  | none => []
def mLst (m : Str) (es : List Expr) (kws : List Keyword) (o : Ev) (as : Ea) : List Ev := match es, kws with
  | [_], [] => match sEq m "append", sEq m "extend", sEq m "pop" with
    | true, _, _ => [eApp o as]
    | _, true, _ => [eExt o as]
    | _, _, true => [ePop o as]
    | _, _, _ => []
  | [], [] => match sEq m "pop" with
    | true => [ePop0 o]
    | false => []
  | _, _ => []
/-- CONSTANT.index(text) -/
def dIdx (t : Tab) (sc : Scope) (f : Expr → Ev) (eo : Expr) (m : Str) (es : List Expr) (kws : List Keyword) (ln : Bool) : Option Ev := match eo, es, kws with
  | .Name x _, [e], [] => match isGlob sc x && (!odd x && (sEq m "index" && (ln && !isStar e))), fget x t.ixs with
    | true, some ss => some (eIdxC ss (f e))
    | _, _ => none
  | _, _, _ => none
def dMeth1 (t : Tab) (k : Nat) (eo : Expr) (m : Str) (es : List Expr) (kws : List Keyword) (ln : Bool) (o : Ev) (as ka : Ea) : Ev := match fewB es kws, abB eo, ln with
  | true, true, true => eAlts (mLst m es kws o as ++ mOwn t k m es kws o as ka)
  | _, _, _ => eBad
def dMeth (t : Tab) (k : Nat) (sc : Scope) (f : Expr → Ev) (eo : Expr) (m : Str) (es : List Expr) (kws : List Keyword) (ln : Bool) (o : Ev) (as ka : Ea) : Ev := match dIdx t sc f eo m es kws ln with
  | some r => r
  | none => dMeth1 t k eo m es kws ln o as ka
def aFld (m : Str) (o : Ev) (C : Str) : Ev := eFld C m o
def aPrp (k : Nat) (m : Str) (o : Ev) (c : Str × Nat × Fn) : Ev := match Nat.ble (c.2.1 + 1) k with
  | true => eProp c.1 m c.2.2 o
  | false => eBad
def dAttr (t : Tab) (k : Nat) (eo : Expr) (m : Str) (o : Ev) : Ev := match abB eo with
  | true => eAlts ((match fget m t.fds with
    | some l => l.map (aFld m o)
    | none => []) ++ (match fget m t.prs with
    | some l => l.map (aPrp k m o)
    | none => []))
  | false => eBad
section
variable {X : Cx} {N : List Str} {k : Nat} {t : Tab} {sc : Scope} {x m : Str} {pos p apos : Pos} {e eo : Expr} {f : Expr → Ev} {es : List Expr} {kws : List Keyword}
theorem dBlt_ok (c : CtxE X N k t sc) (hf : ∀ e, RE X e (f e)) (hs : es.any isStar = false) (ho : odd x = false) (hg : Gl X x) : RE X (.Call (.Name x p) es kws pos) (dBlt t x es kws (dA f es)) := by
  obtain ⟨h1, h2, h3⟩ := odd_of ho
  unfold dBlt
  split
  · rename_i q e0 es0 hq hb
    simp only [List.any_cons, Bool.or_eq_false_iff] at hs
    have ok : BltOk X (x, q) := (blts_ok c).mem (fget_mem hq)
    have hm := c.t.bls.mem (memB_of hb)
    have a := dA_ok hf (e0 :: es0)
    unfold BltOk at ok
    split at ok
    · exact re_cb ok.2 hg hm ok.1 a h3 h1 (star_plain hs.1) (any_star hs.2)
    · exact re_cty ok.2 hg hm ok.1 a h3 h1 (star_plain hs.1) (any_star hs.2)
  · exact re_bad
theorem dBig_ok (c : CtxE X N k t sc) (hf : ∀ e, RE X e (f e)) (hg : Gl X x) {r : Ev} (h : dBig t sc f x e = some r) : RE X (.Call (.Name x p) [e] [] pos) r := by
  unfold dBig at h
  split at h
  · rename_i y p2 es p3
    split at h
    · rename_i hy
      simp only [Bool.and_eq_true] at hy
      obtain ⟨h1, h2, h3⟩ := hy
      have hg2 := c.gl y (isGlob_of h1)
      have hm := c.t.bls.mem (memB_of h2)
      have hm2 := c.t.bls.mem (memB_of h3)
      split at h
      · rename_i a
        split at h
        · rename_i ha
          split at h
          · rename_i q
            cases h
            rw [Bool.and_eq_true] at q
            obtain ⟨q1, q2⟩ := q
            have q1 := of_decide_eq_true q1
            have q2 := of_decide_eq_true q2
            subst q1 q2
            exact re_lenSet c.c hg hm hg2 hm2 (hf a) (star_plain ha)
          · split at h
            · rename_i q
              cases h
              rw [Bool.and_eq_true] at q
              obtain ⟨q1, q2⟩ := q
              have q1 := of_decide_eq_true q1
              have q2 := of_decide_eq_true q2
              subst q1 q2
              exact re_rgL1 c.c hg hm hg2 hm2 (hf a) (star_plain ha)
            · cases h
        · cases h
      · rename_i a b
        split at h
        · rename_i ha
          rw [Bool.or_eq_false_iff] at ha
          split at h
          · rename_i q
            cases h
            rw [Bool.and_eq_true] at q
            obtain ⟨q1, q2⟩ := q
            have q1 := of_decide_eq_true q1
            have q2 := of_decide_eq_true q2
            subst q1 q2
            exact re_rgL2 c.c hg hm hg2 hm2 (hf a) (hf b) (star_plain ha.1) (star_plain ha.2) (any_star (by simp [ha.2]))
          · cases h
        · cases h
      · cases h
    · cases h
  · cases h
theorem dBlt1_ok (c : CtxE X N k t sc) (hf : ∀ e, RE X e (f e)) (hs : es.any isStar = false) (ho : odd x = false) (hg : Gl X x) : RE X (.Call (.Name x p) es kws pos) (dBlt1 t k sc f x es kws (dA f es)) := by
  unfold dBlt1
  split
  · rename_i e0
    split
    · rename_i r hr
      exact dBig_ok c hf hg hr
    · split
      · rename_i h _
        rw [Bool.and_eq_true] at h
        have hm := c.t.bls.mem (memB_of h.2)
        have hx := of_decide_eq_true h.1
        subst hx
        exact re_alt (dBlt_ok c hf hs ho hg) (re_lenO c.t.lns c.r c.g hg hm (dA_ok hf _) (star_plain (by simpa using hs)))
      · exact dBlt_ok c hf hs ho hg
  · exact dBlt_ok c hf hs ho hg
theorem dCallN_ok (c : CtxE X N k t sc) (hf : ∀ e, RE X e (f e)) (hg : Gl X x) : RE X (.Call (.Name x p) es kws pos) (dCallN t k sc f x es kws (dA f es) (dK f kws)) := by
  unfold dCallN
  split
  · rename_i hfew ho
    obtain ⟨h1, h2, h3⟩ := odd_of ho
    obtain ⟨f1, f2, _⟩ := few_of (pos := pos) (env := X.env) hfew
    have sg : ShapeG X es kws (ksOf kws) pos (dA f es) (dK f kws) := shape_of hf f1 f2
    split
    · rename_i l hl
      split
      · rename_i e he
        split
        · rename_i hk
          have a1 := c.t.fns.mem (fget_mem hl)
          have a2 := AllL.mem a1 (shp_mem he)
          exact re_callG a2 c.g c.r (Nat.le_of_ble_eq_true hk) hg sg h1
        · exact re_bad
      · exact re_bad
    · split
      · rename_i l hl
        split
        · rename_i e he
          split
          · rename_i hk
            have a1 := c.t.mks.mem (fget_mem hl)
            have a2 := AllL.mem a1 (shp_mem he)
            exact re_make a2 c.g c.r (Nat.le_of_ble_eq_true hk) hg sg h1
          · exact re_bad
        · exact re_bad
      · exact dBlt1_ok c hf f1 ho hg
  · exact re_bad
theorem dMeth1_ok (c : CtxE X N k t sc) (hf : ∀ e, RE X e (f e)) : RE X (.Call (.Attribute eo m apos) es kws pos) (dMeth1 t k eo m es kws (apos.endLine == pos.line) (f eo) (dA f es) (dK f kws)) := by
  unfold dMeth1
  split
  · rename_i hfew hab hl
    obtain ⟨f1, f2, f3⟩ := few_of (pos := pos) (env := X.env) hfew
    have sg : ShapeG X es kws (ksOf kws) pos (dA f es) (dK f kws) := shape_of hf f1 f2
    refine alts_ok fun a ha => ?_
    rcases List.mem_append.mp ha with ha | ha
    · unfold mLst at ha
      split at ha
      · rename_i e0 _
        have e1 : isStar e0 = false := by simpa using f1
        have few1 : ((backTo pos (starEach [e0] X.env)).all (fun x => !x.1) && (backToKw pos (keywordEach [] X.env)).all (fun x => x.1.isSome) && decide ([e0].length + ([] : List Keyword).length + (if ([] : List Keyword).isEmpty then 0 else 1) < 30)) = true := by rw [all_star f1]; rfl
        have ra := dA_ok hf [e0]
        split at ha
        · rename_i h
          rw [of_decide_eq_true h]
          obtain rfl := List.mem_singleton.mp ha
          exact re_append (hf eo) ra (ab_of hab) few1 hl (star_plain e1) rfl
        · rename_i h _
          rw [of_decide_eq_true h]
          obtain rfl := List.mem_singleton.mp ha
          exact re_extend (hf eo) ra (ab_of hab) few1 hl (star_plain e1) rfl
        · rename_i h _ _
          rw [of_decide_eq_true h]
          obtain rfl := List.mem_singleton.mp ha
          exact re_pop (hf eo) ra (ab_of hab) few1 hl (star_plain e1) rfl
        · cases ha
      · split at ha
        · rename_i h
          rw [of_decide_eq_true h]
          obtain rfl := List.mem_singleton.mp ha
          exact re_pop0 (hf eo) (ab_of hab) hl
        · cases ha
      · cases ha
    · unfold mOwn at ha
      split at ha
      · rename_i l hl'
        obtain ⟨cl, hc, rfl⟩ := List.mem_map.mp ha
        unfold mOwn1
        split
        · rename_i e he
          split
          · rename_i hk
            have d1 := c.t.mts.mem (fget_mem hl')
            have d2 := AllL.mem d1 hc
            have d := AllL.mem d2 (shp_mem he)
            exact re_meth (pl := (do return (← importBound eo X.env).getD true)) d c.g c.r (Nat.le_of_ble_eq_true hk) (hf eo) sg (meth_eval hab f3 hl)
          · exact re_bad
        · exact re_bad
      · cases ha
  · exact re_bad
theorem dIdx_ok (c : CtxE X N k t sc) (hf : ∀ e, RE X e (f e)) {r : Ev} (h : dIdx t sc f eo m es kws (apos.endLine == pos.line) = some r) : RE X (.Call (.Attribute eo m apos) es kws pos) r := by
  unfold dIdx at h
  split at h
  · rename_i x p0 e0
    split at h
    · rename_i ss h1 h2
      cases h
      simp only [Bool.and_eq_true, Bool.not_eq_true'] at h1
      obtain ⟨q1, q2, q3, q4, q5⟩ := h1
      obtain ⟨o1, o2, o3⟩ := odd_of q2
      have hx := of_decide_eq_true q3
      subst hx
      have f1 : [e0].any isStar = false := by simp [q5]
      have few1 : ((backTo pos (starEach [e0] X.env)).all (fun x => !x.1) && (backToKw pos (keywordEach [] X.env)).all (fun x => x.1.isSome) && decide ([e0].length + ([] : List Keyword).length + (if ([] : List Keyword).isEmpty then 0 else 1) < 30)) = true := by rw [all_star f1]; rfl
      exact re_idxC (c.t.ixs.mem (fget_mem h2)) (c.gl x (isGlob_of q1)) o1 (hf e0) (star_plain q5) few1 q4
    · cases h
  · cases h
theorem dMeth_ok (c : CtxE X N k t sc) (hf : ∀ e, RE X e (f e)) : RE X (.Call (.Attribute eo m apos) es kws pos) (dMeth t k sc f eo m es kws (apos.endLine == pos.line) (f eo) (dA f es) (dK f kws)) := by
  unfold dMeth
  split
  · rename_i r hr; exact dIdx_ok c hf hr
  · exact dMeth1_ok c hf
theorem dAttr_ok (c : CtxE X N k t sc) (hf : ∀ e, RE X e (f e)) : RE X (.Attribute eo m pos) (dAttr t k eo m (f eo)) := by
  unfold dAttr
  split
  · rename_i hab
    refine alts_ok fun a ha => ?_
    rcases List.mem_append.mp ha with ha | ha
    · split at ha
      · rename_i l hl
        obtain ⟨C, hC, rfl⟩ := List.mem_map.mp ha
        have a1 := c.t.fds.mem (fget_mem hl)
        have a2 := AllL.mem a1 hC
        exact re_fld a2 (hf eo) (ab_of hab)
      · cases ha
    · split at ha
      · rename_i l hl
        obtain ⟨C, hC, rfl⟩ := List.mem_map.mp ha
        unfold aPrp
        split
        · rename_i hk
          have a1 := c.t.prs.mem (fget_mem hl)
          have a2 := AllL.mem a1 hC
          exact re_prop a2 c.g c.r (Nat.le_of_ble_eq_true hk) (hf eo) (ab_of hab)
        · exact re_bad
      · cases ha
  · exact re_bad
end
end FL

set_option Elab.async false
set_option linter.all false
set_option maxRecDepth 100000
set_option maxHeartbeats 4000000
namespace FL
open PySem PySem.Spec PyProof.Rows L2
/-! ### walks, targets, comprehensions -/
def isTupE : Expr → Bool
  | .Tuple _ _ _ => true
  | _ => false
def isSetE : Expr → Bool
  | .Set _ _ _ => true
  | _ => false
theorem noset {e : Expr} {env : PySem.Env} (h : isSetE e = false) : ∀ x, foldedSetIterable e env x = pure x := by
  cases e <;> first | (intro _; rfl) | cases h
def dI (t : Tab) (sc : Scope) (f : Expr → Ev) (tg it : Expr) : Ei := match it with
  | .Call (.Name x _) es [] _ => match isGlob sc x && (memB x t.bls && !es.any isStar) with
    | true => match es with
      | [_] => match sEq x "range", sEq x "enumerate" && isTupE tg with
        | true, _ => iRange1 (dA f es)
        | _, true => iEnum2 (dA f es)
        | _, _ => iItE (f it)
      | [_, _] => match sEq x "range", sEq x "zip" && isTupE tg with
        | true, _ => iRange2 (dA f es)
        | _, true => iZip (dA f es)
        | _, _ => iItE (f it)
      | _ => iItE (f it)
    | false => iItE (f it)
  | .Call (.Attribute e m apos) [] [] cpos => match abB e && (apos.endLine == cpos.line) with
    | true => match sEq m "values", sEq m "items" && isTupE tg with
      | true, _ => iValsE (f e)
      | _, true => iItemsE (f e)
      | _, _ => iItE (f it)
    | false => iItE (f it)
  | _ => iItE (f it)
def dGs (d : Expr → Option (List Nat × Gv)) : List Expr → Option (List Nat × Gvs)
  | [] => some ([], gNil)
  | e :: r => match d e, dGs d r with
    | some a, some b => some (a.1 ++ b.1, gCons a.2 b.2)
    | _, _ => none
def dG (N : List Str) (sc : Scope) : Nat → Expr → Option (List Nat × Gv)
  | 0, _ => none
  | n + 1, e => match e with
    | .Name x _ => match sc.names.lookup x, ixOf N x with
      | some .local, some i => some ([i], gName i)
      | some .cell, some i => some ([i], gName i)
      | _, _ => none
    | .Tuple es _ _ => match es.any isStar, dGs (dG N sc n) es with
      | false, some b => some (b.1, gTup es.length b.2)
      | _, _ => none
    | _ => none
structure Rd2 where
  e : Expr → Ev
  t : Expr → Et
def ownOf (N : List Str) (vs : List Nat) : List (Str × Nat) := vs.map fun i => (N.getD i "", i)
theorem ownOf_map (N : List Str) (vs : List Nat) : (ownOf N vs).map (·.2) = vs := by
  unfold ownOf
  rw [List.map_map]
  exact List.map_id' vs
def dTs (r : Rd2) : List Expr → Et
  | [] => tYesE
  | [c] => r.t c
  | _ => tBad
/-- the parts of a comprehension -/
def dCp (t : Tab) (N : List Str) (r : Scope → Rd2) (sc : Scope) (gens : List Comprehension) (scope : Scope) : Option (List Nat × Ei × Gv × Et) := match gens with
  | [⟨tg, iter, ifs, 0⟩] => match dG N scope 4 tg, isSetE iter with
    | some a, false => match blkC N sc scope (ownOf N a.1), Nat.ble ifs.length 1 with
      | true, true => some (a.1, dI t sc (r sc).e tg iter, a.2, dTs (r scope) ifs)
      | _, _ => none
    | _, _ => none
  | _ => none
def dLc (t : Tab) (N : List Str) (r : Scope → Rd2) (sc : Scope) (elt : Expr) (gens : List Comprehension) (scope : Scope) : Ev := match dCp t N r sc gens scope with
  | some p => eLc p.1 p.2.1 p.2.2.1 p.2.2.2 ((r scope).e elt)
  | none => eBad
def dDc (t : Tab) (N : List Str) (r : Scope → Rd2) (sc : Scope) (kx vx : Expr) (gens : List Comprehension) (scope : Scope) : Ev := match dCp t N r sc gens scope with
  | some p => eDc p.1 p.2.1 p.2.2.1 p.2.2.2 ((r scope).e kx) ((r scope).e vx)
  | none => eBad
section
variable {X : Cx} {N : List Str} {k : Nat} {t : Tab} {sc : Scope} {x m : Str} {pos p apos : Pos} {e tg it : Expr} {f : Expr → Ev} {es : List Expr}
theorem isTup_of {e : Expr} (h : isTupE e = true) : ∃ es k p, e = .Tuple es k p := by
  cases e <;> first | exact ⟨_, _, _, rfl⟩ | cases h
theorem dI_ok (c : CtxE X N k t sc) (hf : ∀ e, RE X e (f e)) : RI X tg it (dI t sc f tg it) := by
  unfold dI
  split
  · rename_i x p es pos
    split
    · rename_i h
      simp only [Bool.and_eq_true, Bool.not_eq_true'] at h
      obtain ⟨h1, h2, h3⟩ := h
      have hg := c.gl x (isGlob_of h1)
      have hm := c.t.bls.mem (memB_of h2)
      have a := dA_ok hf es
      split
      · rename_i e0
        have e1 : isStar e0 = false := by simpa using h3
        split
        · rename_i hx
          have hx := of_decide_eq_true hx
          subst hx
          exact ri_range1 hg hm a (star_plain e1)
        · rename_i hx _
          rw [Bool.and_eq_true] at hx
          obtain ⟨es, k0, p0, rfl⟩ := isTup_of hx.2
          have hx := of_decide_eq_true hx.1
          subst hx
          exact ri_enum2 hg hm a (star_plain e1)
        · exact ri_it (hf _)
      · rename_i e0 e2
        have e1 : isStar e0 = false ∧ isStar e2 = false := by simpa using h3
        split
        · rename_i hx
          have hx := of_decide_eq_true hx
          subst hx
          exact ri_range2 hg hm a (by rw [star_plain e1.1, star_plain e1.2]; rfl) (star_plain e1.2)
        · rename_i hx _
          rw [Bool.and_eq_true] at hx
          obtain ⟨es, k0, p0, rfl⟩ := isTup_of hx.2
          have hx := of_decide_eq_true hx.1
          subst hx
          exact ri_zip hg hm a (star_plain e1.1) (any_star (by simp [e1.2]))
        · exact ri_it (hf _)
      · exact ri_it (hf _)
    · exact ri_it (hf _)
  · rename_i e m apos cpos
    split
    · rename_i h
      rw [Bool.and_eq_true] at h
      split
      · rename_i hx
        have hx := of_decide_eq_true hx
        subst hx
        exact ri_values (hf e) (ab_of h.1) h.2
      · rename_i hx _
        rw [Bool.and_eq_true] at hx
        obtain ⟨es, k0, p0, rfl⟩ := isTup_of hx.2
        have hx := of_decide_eq_true hx.1
        subst hx
        exact ri_items (hf e) (ab_of h.1) h.2
      · exact ri_it (hf _)
    · exact ri_it (hf _)
  · exact ri_it (hf _)
theorem dGs_ok (hc : X.calm = true) {d : Expr → Option (List Nat × Gv)} (hd : ∀ e a, d e = some a → RG X e a.1 a.2) : ∀ {es : List Expr} {b : List Nat × Gvs}, es.any isStar = false → dGs d es = some b → RGs X es b.1 b.2
  | [], _, _, h => by cases h; exact rgs_nil
  | e :: r, b, hs, h => by
    simp only [List.any_cons, Bool.or_eq_false_iff] at hs
    simp only [dGs] at h
    split at h
    · rename_i a b' h1 h2
      cases h
      exact rgs_cons (hd e a h1) (dGs_ok hc hd hs.2 h2) (asg_plain hs.1)
    · cases h
theorem dG_ok (c : CtxE X N k t sc) : ∀ (n : Nat) (e : Expr) (a : List Nat × Gv), dG N sc n e = some a → RG X e a.1 a.2
  | 0, e, a, h => by cases h
  | n + 1, e, a, h => by
    unfold dG at h
    split at h
    · rename_i x p
      have nm : ∀ {i : Nat}, ixOf N x = some i → Loc X.env.scope x → (X.fn x = true ∨ X.env.scope.names.lookup x = some .local) → RG X (.Name x p) [i] (gName i) := fun hi hl hf => by
        have h := ixOf_get hi
        rw [← c.n] at h
        exact rg_name (pg_name (by rw [c.n]; exact c.nd) h hl hf) h
      split at h
      · rename_i h1 h2
        cases h
        exact nm h2 (.inl (c.loc x h1)) (.inr (c.loc x h1))
      · rename_i h1 h2
        cases h
        exact nm h2 (.inr (c.cel x h1).1) (.inl (c.cel x h1).2)
      · cases h
    · rename_i es k0 p
      split at h
      · rename_i b h1 h2
        cases h
        exact rg_tup (dGs_ok c.c (fun e a h => dG_ok c n e a h) h1 h2) c.c (asg_len es) (asg_nostar h1)
      · cases h
    · cases h
def RdOk (X : Cx) (r : Rd2) : Prop := (∀ e, RE X e (r.e e)) ∧ ∀ e, RT X e (r.t e)
theorem dTs_ok {r : Rd2} (hr : RdOk X r) {ifs : List Expr} (h : ifs.length ≤ 1) : RTs X ifs (dTs r ifs) := by
  match ifs, h with
  | [], _ => exact rts_nil
  | [c], _ => exact rts_one (hr.2 c)
structure CpOk (X : Cx) (gens : List Comprehension) (scope : Scope) (p : List Nat × Ei × Gv × Et) : Prop where
  ex : ∃ (tg iter : Expr) (ifs : List Expr) (own : List (Str × Nat)), gens = [⟨tg, iter, ifs, 0⟩] ∧ own.map (·.2) = p.1 ∧ BlkOk X.N X.env.scope scope own ∧ RI X tg iter p.2.1 ∧ (∀ x, RG (Blk X scope x) tg p.1 p.2.2.1) ∧ (∀ x, RTs (Blk X scope x) ifs p.2.2.2) ∧ ∀ x, foldedSetIterable iter X.env x = pure x
theorem dCp_ok (c : CtxE X N k t sc) {r : Scope → Rd2} (hr : ∀ (X : Cx) sc, CtxE X N k t sc → RdOk X (r sc)) {gens : List Comprehension} {scope : Scope} {p : List Nat × Ei × Gv × Et} (h : dCp t N r sc gens scope = some p) : CpOk X gens scope p ∧ ∀ x, CtxE (Blk X scope x) N k t scope := by
  unfold dCp at h
  split at h
  · rename_i tg iter ifs
    split at h
    · rename_i a h1 h2
      split at h
      · rename_i h3 h4
        cases h
        have cb := fun x => c.blkX h3 x
        exact ⟨⟨tg, iter, ifs, ownOf N a.1, rfl, ownOf_map N a.1, c.blk _ _ h3, dI_ok c (hr X sc c).1, fun x => dG_ok (cb x) 4 tg a h1, fun x => dTs_ok (hr _ scope (cb x)) (Nat.le_of_ble_eq_true h4), noset h2⟩, cb⟩
      · cases h
    · cases h
  · cases h
theorem dLc_ok (c : CtxE X N k t sc) {r : Scope → Rd2} (hr : ∀ (X : Cx) sc, CtxE X N k t sc → RdOk X (r sc)) {elt : Expr} {gens : List Comprehension} {scope : Scope} : RE X (.ListComp elt gens scope pos) (dLc t N r sc elt gens scope) := by
  unfold dLc
  split
  · rename_i p hp
    obtain ⟨⟨tg, iter, ifs, own, rfl, h1, h2, h3, h4, h5, h6⟩, cb⟩ := dCp_ok c hr hp
    rw [← h1]
    exact re_lc c.c (by rw [c.n]; exact c.nd) h2 h3 h4 h5 (fun x => (hr _ scope (cb x)).1 elt) (by rw [← h1]; exact fun _ h => h) h6
  · exact re_bad
theorem dDc_ok (c : CtxE X N k t sc) {r : Scope → Rd2} (hr : ∀ (X : Cx) sc, CtxE X N k t sc → RdOk X (r sc)) {kx vx : Expr} {gens : List Comprehension} {scope : Scope} : RE X (.DictComp kx vx gens scope pos) (dDc t N r sc kx vx gens scope) := by
  unfold dDc
  split
  · rename_i p hp
    obtain ⟨⟨tg, iter, ifs, own, rfl, h1, h2, h3, h4, h5, h6⟩, cb⟩ := dCp_ok c hr hp
    rw [← h1]
    exact re_dc c.c c.r.units (by rw [c.n]; exact c.nd) h2 h3 h4 h5 (fun x => (hr _ scope (cb x)).1 kx) (fun x => (hr _ scope (cb x)).1 vx) (by rw [← h1]; exact fun _ h => h) h6
  · exact re_bad
end
end FL

set_option Elab.async false
set_option linter.all false
set_option maxRecDepth 100000
set_option maxHeartbeats 4000000
namespace FL
open PySem PySem.Spec PyProof.Rows L2
/-! ### the knot -/
def dB (f : Expr → Ev) (op : BoolOp) : List Expr → Ev
  | [] => eBad
  | a :: r => match r with
    | [] => f a
    | _ :: _ => match op with
      | .And => eAnd (f a) (dB f op r)
      | .Or => eOr (f a) (dB f op r)
def dW (f : Expr → Et) (op : BoolOp) : List Expr → Et
  | [] => tBad
  | a :: r => match r with
    | [] => f a
    | _ :: _ => match op with
      | .And => tAnd (f a) (dW f op r)
      | .Or => tOr (f a) (dW f op r)
def dO (f : Expr → Ev) : Option Expr → Eo
  | none => oNone
  | some e => oSome (f e)
def dKd (t : Tab) (sc : Scope) (a : Expr) : Option (List (Str × Str)) := match a with
  | .Name x _ => match isGlob sc x && !odd x, fget x t.kds with
    | true, some kvs => some kvs
    | _, _ => none
  | _ => none
def isSl : Expr → Bool
  | .Slice .. => true
  | _ => false
def dSub (t : Tab) (sc : Scope) (f : Expr → Ev) (a b : Expr) : Ev := match b with
  | .Slice lo hi st _ => match st with
    | none => eSlice (f a) (dO f lo) (dO f hi)
    | some _ => eBad
  | b => match dKd t sc a with
    | some kvs => eKd kvs (f b)
    | none => eIx (f a) (f b)
def dDict (f : Expr → Ev) (ks : List (Option Expr)) (vs : List Expr) : Ev := match ks, vs with
  | [], [] => eDict0
  | k0 :: ks, vs => match (k0 :: ks).all (·.isSome) && (Nat.beq (k0 :: ks).length vs.length && Nat.ble (k0 :: ks).length 15) with
    | true => eDict (dP f (k0 :: ks) vs)
    | false => eBad
  | _, _ => eBad
def dE1 (t : Tab) (N : List Str) (k : Nat) (sc : Scope) (r : Scope → Rd2) (e : Expr) : Ev := match e with
  | .Constant c _ _ => dCst c
  | .Name x _ => dName t N sc x
  | .BinOp a op b _ => dBin op ((r sc).e a) ((r sc).e b)
  | .UnaryOp .Not a _ => eNot ((r sc).e a)
  | .UnaryOp .USub a _ => eNeg ((r sc).e a)
  | .BoolOp op vs _ => dB (r sc).e op vs
  | .IfExp c a b _ => eIf ((r sc).t c) ((r sc).e a) ((r sc).e b)
  | .Compare a [op] [b] _ => dCmpQ t k op b ((r sc).e a) ((r sc).e b)
  | .Compare a [op, op'] [b, c] _ => dChain op op' b c ((r sc).e a) ((r sc).e b) ((r sc).e c)
  | .Call (.Name x _) es kws _ => match isGlob sc x with
    | true => dCallN t k sc (r sc).e x es kws (dA (r sc).e es) (dK (r sc).e kws)
    | false => eBad
  | .Call (.Attribute eo m apos) es kws pos => dMeth t k sc (r sc).e eo m es kws (apos.endLine == pos.line) ((r sc).e eo) (dA (r sc).e es) (dK (r sc).e kws)
  | .Attribute eo m _ => dAttr t k eo m ((r sc).e eo)
  | .Subscript a b _ => dSub t sc (r sc).e a b
  | .List es _ => eLst (dA (r sc).e es)
  | .Tuple es _ _ => eTup (dA (r sc).e es)
  | .Dict ks vs _ => dDict (r sc).e ks vs
  | .ListComp elt gens scope _ => dLc t N r sc elt gens scope
  | .DictComp kx vx gens scope _ => dDc t N r sc kx vx gens scope
  | _ => eBad
def dT1 (t : Tab) (k : Nat) (r : Rd2) (e : Expr) : Et := match e with
  | .UnaryOp op a p => match op with
    | .Not => tNot (r.t a)
    | op => tVal (r.e (.UnaryOp op a p))
  | .BoolOp op vs _ => dW r.t op vs
  | .IfExp c a b _ => tIf (r.t c) (r.t a) (r.t b)
  | .Compare a ops cs _ => match ops, cs with
    | [op], [b] => tCmpQ t k op b (r.e a) (r.e b)
    | [op, op'], [b, c] => tVal (dChain op op' b c (r.e a) (r.e b) (r.e c))
    | _, _ => tBad
  | e => tVal (r.e e)
def rd (t : Tab) (N : List Str) (k : Nat) : Nat → Scope → Rd2
  | 0, _ => ⟨fun _ => eBad, fun _ => tBad⟩
  | n + 1, sc => ⟨dE1 t N k sc (rd t N k n), dT1 t k (rd t N k n sc)⟩
section
variable {X : Cx} {N : List Str} {k : Nat} {t : Tab} {sc : Scope} {x m : Str} {pos p apos : Pos} {e tg it a b : Expr} {f : Expr → Ev} {ft : Expr → Et} {es : List Expr} {op : BoolOp}
theorem dB_ok (hf : ∀ e, RE X e (f e)) : ∀ vs : List Expr, RE X (.BoolOp op vs pos) (dB f op vs)
  | [] => re_bad
  | [a] => re_one (hf a)
  | a :: b :: r => by
    have ih := dB_ok hf (b :: r)
    cases op with
    | And => exact re_and (hf a) ih
    | Or => exact re_or (hf a) ih
theorem dW_ok (hf : ∀ e, RT X e (ft e)) : ∀ vs : List Expr, RW X (.BoolOp op vs pos) (dW ft op vs)
  | [] => ⟨fun h => h.elim⟩
  | [a] => by cases op with
    | And => exact rw_and1 (hf a)
    | Or => exact rw_or1 (hf a)
  | a :: b :: r => by
    have ih := dW_ok hf (b :: r)
    cases op with
    | And => exact rw_and (hf a) ih
    | Or => exact rw_or (hf a) ih
theorem dO_ok (hf : ∀ e, RE X e (f e)) : ∀ o : Option Expr, RO X o (dO f o)
  | none => ro_none
  | some e => ro_some (hf e)
theorem dKd_ok (c : CtxE X N k t sc) {kvs : List (Str × Str)} (h : dKd t sc a = some kvs) : ∃ x p, a = .Name x p ∧ odd x = false ∧ Gl X x ∧ KDict X.prog X.w X.K X.mg x kvs := by
  unfold dKd at h
  split at h
  · rename_i x p0
    split at h
    · rename_i h1 h2
      cases h
      simp only [Bool.and_eq_true, Bool.not_eq_true'] at h1
      exact ⟨_, _, rfl, h1.2, c.gl x (isGlob_of h1.1), c.t.kds.mem (fget_mem h2)⟩
    · cases h
  · cases h
theorem dSub_ok (c : CtxE X N k t sc) (hf : ∀ e, RE X e (f e)) : RE X (.Subscript a b pos) (dSub t sc f a b) := by
  unfold dSub
  split
  · split
    · exact re_slice (hf a) (dO_ok hf _) (dO_ok hf _)
    · exact re_bad
  · rename_i h
    split
    · rename_i kvs hk
      obtain ⟨x, p0, rfl, ho, hg, kd⟩ := dKd_ok c hk
      refine re_kd kd hg (odd_of ho).1 (hf b) ?_
      intro o i
      cases b <;> first | rfl | exact (h _ _ _ _ rfl).elim
    · refine re_ix c.r.units (hf a) (hf b) ?_
      intro o i
      cases b <;> first | rfl | exact (h _ _ _ _ rfl).elim
theorem dDict_ok (c : CtxE X N k t sc) (hf : ∀ e, RE X e (f e)) {ks : List (Option Expr)} {vs : List Expr} : RE X (.Dict ks vs pos) (dDict f ks vs) := by
  unfold dDict
  split
  · exact re_dict0
  · rename_i k0 ks vs
    split
    · rename_i h
      simp only [Bool.and_eq_true] at h
      exact re_dict c.r.units (dP_ok hf _ _) h.1 (Nat.eq_of_beq_eq_true h.2.1) (by simp) (Nat.le_of_ble_eq_true h.2.2)
    · exact re_bad
  · exact re_bad
theorem dE1_ok (c : CtxE X N k t sc) {r : Scope → Rd2} (hr : ∀ (X : Cx) sc, CtxE X N k t sc → RdOk X (r sc)) (e : Expr) : RE X e (dE1 t N k sc r e) := by
  have hf := (hr X sc c).1
  have ht := (hr X sc c).2
  unfold dE1
  split
  · exact dCst_ok
  · exact dName_ok c
  · exact dBin_ok (hf _) (hf _)
  · exact re_not (hf _)
  · exact re_neg (hf _)
  · exact dB_ok hf _
  · exact re_if (ht _) (hf _) (hf _)
  · exact dCmpQ_ok c (hf _) (hf _)
  · exact dChain_ok (hf _) (hf _) (hf _)
  · split
    · rename_i h; exact dCallN_ok c hf (c.gl _ (isGlob_of h))
    · exact re_bad
  · exact dMeth_ok c hf
  · exact dAttr_ok c hf
  · exact dSub_ok c hf
  · exact re_lst (dA_ok hf _)
  · exact re_tup (dA_ok hf _)
  · exact dDict_ok c hf
  · exact dLc_ok c hr
  · exact dDc_ok c hr
  · exact re_bad
theorem un_true {op : UnaryOp} {env : PySem.Env} (h : op = .Not → False) : ∀ whole, isTrue (.UnaryOp op a p) env whole = (do let v ← whole; standAt (Expr.UnaryOp op a p).pos; holding [v] (truthy v)) := by
  cases op <;> first | (intro _; rfl) | exact (h rfl).elim
theorem dT1_ok (c : CtxE X N k t sc) {r : Rd2} (hr : RdOk X r) (e : Expr) : RT X e (dT1 t k r e) := by
  unfold dT1
  split
  · split
    · exact rt_not (hr.2 _)
    · exact rt_val (hr.1 _) (un_true (by assumption))
  · exact rt_w (dW_ok hr.2 _)
  · exact rt_if (hr.2 _) (hr.2 _) (hr.2 _)
  · split
    · exact tCmpQ_ok c (hr.1 _) (hr.1 _)
    · exact tChain_ok (hr.1 _) (hr.1 _) (hr.1 _)
    · exact rt_bad
  · rename_i h1 h2 h3 h4
    refine rt_val (hr.1 _) ?_
    cases e <;> first | (intro _; rfl) | exact (h1 _ _ _ rfl).elim | exact (h2 _ _ _ rfl).elim | exact (h3 _ _ _ _ rfl).elim | exact (h4 _ _ _ _ rfl).elim
theorem rd_ok : ∀ (n : Nat) (X : Cx) (sc : Scope), CtxE X N k t sc → RdOk X (rd t N k n sc)
  | 0, _, _, _ => ⟨fun _ => re_bad, fun _ => rt_bad⟩
  | n + 1, X, sc, c => ⟨fun e => dE1_ok c (fun X sc c => rd_ok n X sc c) e, fun e => dT1_ok c (rd_ok n X sc c) e⟩
end
end FL

set_option Elab.async false
set_option linter.all false
set_option maxRecDepth 100000
set_option maxHeartbeats 4000000
namespace FL
open PySem PySem.Spec PyProof.Rows L2
/-! ### statements -/
def sAlt (a b : Sv) : Sv := fun L env => match a L env with
  | some o => some o
  | none => b L env
theorem rs_alt {X : Cx} {st : Stmt} {a b : Sv} (ra : RS X st a) (rb : RS X st b) : RS X st (sAlt a b) :=
  ⟨fun {L env Z} h => by
    unfold sAlt at h
    cases q : a L env with
    | some o => rw [q] at h; exact ra.ok (by rw [q]; exact h)
    | none => rw [q] at h; exact rb.ok h⟩
def sAlts : List Sv → Sv
  | [] => sBad
  | [a] => a
  | a :: r => sAlt a (sAlts r)
theorem salts_ok {X : Cx} {st : Stmt} : ∀ {l : List Sv}, (∀ a ∈ l, RS X st a) → RS X st (sAlts l)
  | [], _ => rs_bad
  | [a], h => h a (.head _)
  | a :: b :: r, h => rs_alt (h a (.head _)) (salts_ok fun c hc => h c (.tail _ hc))
structure CtxS (X : Cx) (N : List Str) (k : Nat) (t : Tab) (sc : Scope) : Prop extends CtxE X N k t sc where
  se : X.env.scope = sc
  kd : sc.kind = .function
  ps : PassesOwn (model X.prog X.w) X.A X.env X.xe
/-! which stores are exchanged -/
def isStarB : Expr → Bool
  | .Starred .. => true
  | _ => false
def nmLoc (sc : Scope) (line : Nat) : Expr → Option Str
  | .Name id pos => if sc.names.lookup id == some .local && pos.line == line then some id else none
  | _ => none
def swN (sc : Scope) (ts vs : List Expr) : Option (Option (List Str)) :=
  if (!(ts.length == 2 || ts.length == 3) || vs.length != ts.length) = true then some none
  else if vs.any isStarB = true then some none
  else
    let line := (ts.head?.map (·.pos.line)).getD 0
    let names := ts.filterMap (nmLoc sc line)
    if (names.length != ts.length || names.eraseDups.length != names.length) = true then some none
    else if vs.all (foldedForSure 8) = true then some none
    else if vs.all (constantsAlone 8) = true then none
    else some (some names)
theorem swN_ok {sc : Scope} {ts vs : List Expr} {r : Option (List Str)} {env : PySem.Env} {k k2 : Nat} {p p2 : Pos} (h : swN sc ts vs = some r) (se : env.scope = sc) (kd : sc.kind = .function) : swappedStores [.Tuple ts k p] (.Tuple vs k2 p2) env = pure r := by
  subst se
  have hb : (env.blockKind != .function) = false := by unfold Env.blockKind; rw [kd]; rfl
  unfold swN at h
  unfold swappedStores
  simp only [hb, Bool.or_false]
  split at h
  · rename_i h1; cases h; rw [if_pos h1]
  · rename_i h1
    rw [if_neg h1]
    split at h
    · rename_i h2; cases h; exact if_pos h2
    · rename_i h2
      refine (if_neg h2).trans ?_
      dsimp only at h ⊢
      split at h
      · rename_i h3; cases h; exact if_pos h3
      · rename_i h3
        refine (if_neg h3).trans ?_
        split at h
        · rename_i h4; cases h; exact if_pos h4
        · rename_i h4
          refine (if_neg h4).trans ?_
          split at h
          · cases h
          · rename_i h5
            cases h
            exact if_neg h5
def locB (sc : Scope) (x : Str) : Bool := match sc.names.lookup x with
  | some .local => true
  | _ => false
theorem locB_of {sc : Scope} {x : Str} (h : locB sc x = true) : sc.names.lookup x = some .local := by
  unfold locB at h
  split at h
  · assumption
  · cases h
def dPar (N : List Str) (sc : Scope) (ts vs : List Expr) (as : Ea) : Sv := match swN sc ts vs with
  | some none => match ts.any isStar, dGs (dG N sc 4) ts with
    | false, some g => sAsgT ts.length as g.2
    | _, _ => sBad
  | some (some l) => match ts, vs with
    | [.Name x _, .Name y _], [_, _] => match decide (l = [x, y]) && (locB sc x && locB sc y), ixOf N x, ixOf N y with
      | true, some i, some j => match Nat.beq i j with
        | false => sAsgT 2 as (gCons (gName i) (gCons (gName j) gNil))
        | true => sBad
      | _, _, _ => sBad
    | [.Name x _, .Name y _, .Name z _], [_, _, _] => match decide (l = [x, y, z]) && (locB sc x && (locB sc y && locB sc z)), ixOf N x, ixOf N y, ixOf N z with
      | true, some i, some j, some m => match Nat.beq i j || (Nat.beq i m || Nat.beq j m) with
        | false => sAsgT 3 as (gCons (gName i) (gCons (gName j) (gCons (gName m) gNil)))
        | true => sBad
      | _, _, _, _ => sBad
    | _, _ => sBad
  | none => sBad
theorem beq_ne {i j : Nat} (h : Nat.beq i j = false) : i ≠ j := by
  rintro rfl
  rw [Nat.beq_refl] at h
  cases h
def isComp : Expr → Bool
  | .ListComp .. => true
  | .DictComp .. => true
  | .SetComp .. => true
  | _ => false
theorem sw_plain {e : Expr} {o : Option Expr} {l : Nat} {env : PySem.Env} (h : isComp e = false) : swapsWith e o l env = pure false := by
  cases e <;> first | rfl | cases h
theorem sw_other {e tg : Expr} {l : Nat} {env : PySem.Env} (h : ∀ x p, tg ≠ .Name x p) : swapsWith e (some tg) l env = pure false := by
  cases e <;> first | rfl | (cases tg <;> first | rfl | exact (h _ _ rfl).elim)
theorem sole_other {e tg : Expr} {l : Nat} {env : PySem.Env} (h : ∀ x p, tg ≠ .Name x p) : swapsWithSole [tg] e l env = pure false := sw_other h
def swB (sc scope : Scope) (x : Str) (tp vp : Pos) : Bool := locB sc x && ((tp.line == vp.line) && !(scope.names.any fun (n, k) => n == x && (k == .local || k == .cell)))
theorem kind_dec {a b : NameKind} : (some a == some b) = (a == b) := rfl
theorem swB_eq {sc scope : Scope} {x : Str} {tp vp : Pos} {env : PySem.Env} (se : env.scope = sc) (kd : sc.kind = .function) : (env.blockKind == .function && env.kindOf x == some .local && tp.line == vp.line && !(scope.names.any fun (n, k) => n == x && (k == .local || k == .cell))) = swB sc scope x tp vp := by
  subst se
  have hb : (env.blockKind == .function) = true := by unfold Env.blockKind; rw [kd]; rfl
  have hl : (env.kindOf x == some .local) = locB env.scope x := by
    show (env.scope.names.lookup x == some .local) = _
    unfold locB
    cases h : env.scope.names.lookup x with
    | none => rfl
    | some k => cases k <;> rfl
  rw [hb, hl]
  unfold swB
  simp only [Bool.true_and, Bool.and_assoc]
def dAsgN (t : Tab) (N : List Str) (r : Scope → Rd2) (sc : Scope) (x : Str) (e : Expr) : Sv := match ixOf N x, locB sc x || (match sc.names.lookup x with
    | some .cell => true
    | _ => false) with
  | some i, true => match e with
    | .ListComp elt gens scope _ => sSet i (dLc t N r sc elt gens scope)
    | .DictComp kx vx gens scope _ => sSet i (dDc t N r sc kx vx gens scope)
    | .SetComp .. => sBad
    | e => sSet i ((r sc).e e)
  | _, _ => sBad
def dAsg (t : Tab) (N : List Str) (r : Scope → Rd2) (sc : Scope) (tg e : Expr) : Sv := match tg with
  | .Name x _ => dAsgN t N r sc x e
  | .Tuple ts _ _ => match e with
    | .Tuple vs _ _ => dPar N sc ts vs (dA (r sc).e vs)
    | e => match dG N sc 4 tg with
      | some g => sAsg ((r sc).e e) g.2
      | none => sBad
  | .Subscript a b _ => match b with
    | .Slice .. => sBad
    | b => sPut ((r sc).e a) ((r sc).e b) ((r sc).e e)
  | .Attribute a m _ => match fget m t.fds with
    | some l => sAlts (l.map fun C => sFld C m ((r sc).e a) ((r sc).e e))
    | none => sBad
  | _ => sBad
def dSs (d : Stmt → Sv) : List Stmt → Sv
  | [] => sNil
  | [s] => d s
  | s :: r => sCons (d s) (dSs d r)
def isDoc : Expr → Bool
  | .Constant (.str _) _ _ => true
  | _ => false
def dS (t : Tab) (N : List Str) (r : Scope → Rd2) (sc : Scope) (fl : Nat) : Nat → Stmt → Sv
  | 0, _ => sBad
  | n + 1, st => match st with
    | .Return none _ => sRetN
    | .Return (some e) _ => sRet ((r sc).e e)
    | .Pass _ => sNil
    | .Break _ => sBreak
    | .Continue _ => sCont
    | .Expr e _ => match isDoc e with
      | true => sNil
      | false => match isComp e with
        | true => sBad
        | false => sExpr ((r sc).e e)
    | .If c a b _ => sIf ((r sc).t c) (dSs (dS t N r sc fl n) a) (dSs (dS t N r sc fl n) b)
    | .For tg it sts [] _ => match dG N sc 4 tg, isSetE it with
      | some g, false => sFor N.length (dI t sc (r sc).e tg it) g.2 (dSs (dS t N r sc fl n) sts)
      | _, _ => sBad
    | .While c sts [] _ => sWhile N.length fl ((r sc).t c) (dSs (dS t N r sc fl n) sts)
    | .Assign [tg] e _ => dAsg t N r sc tg e
    | .Raise .. => sNever
    | .AugAssign (.Name x _) .Add e _ => match ixOf N x, locB sc x with
      | some i, true => sAug i ((r sc).e e)
      | _, _ => sBad
    | _ => sBad
section
variable {X : Cx} {N : List Str} {k : Nat} {t : Tab} {sc : Scope} {x m : Str} {pos p apos : Pos} {e tg it a b : Expr} {f : Expr → Ev} {es ts vs : List Expr}
theorem dPar_ok (c : CtxS X N k t sc) (hf : ∀ e, RE X e (f e)) {kt k2 : Nat} {p2 : Pos} : RS X (.Assign [.Tuple ts kt p] (.Tuple vs k2 p2) pos) (dPar N sc ts vs (dA f vs)) := by
  have hN : X.N.Nodup := by rw [c.n]; exact c.nd
  unfold dPar
  split
  · rename_i hw
    split
    · rename_i g h1 h2
      exact rs_asgT c.c (dA_ok hf vs) (dGs_ok c.c (fun e a h => dG_ok c.toCtxE 4 e a h) h1 h2) h1 rfl (swN_ok hw c.se c.kd)
    · exact rs_bad
  · rename_i l hw
    have ix : ∀ {x : Str} {i : Nat}, ixOf N x = some i → X.N[i]? = some x := fun h => by rw [c.n]; exact ixOf_get h
    split
    · rename_i x px y py _ _
      split
      · rename_i i j h1 h2 h3
        split
        · rename_i h4
          simp only [Bool.and_eq_true, decide_eq_true_eq] at h1
          obtain ⟨rfl, h5, h6⟩ := h1
          exact rs_par2 c.c hN (ix h2) (ix h3) (beq_ne h4) (c.loc _ (locB_of h5)) (c.loc _ (locB_of h6)) (dA_ok hf _) (swN_ok hw c.se c.kd)
        · exact rs_bad
      · exact rs_bad
    · rename_i x px y py z pz _ _ _
      split
      · rename_i i j m h1 h2 h3 h3'
        split
        · rename_i h4
          simp only [Bool.and_eq_true, decide_eq_true_eq] at h1
          obtain ⟨rfl, h5, h6, h7⟩ := h1
          simp only [Bool.or_eq_false_iff] at h4
          exact rs_par3 c.c hN (ix h2) (ix h3) (ix h3') (beq_ne h4.1) (beq_ne h4.2.1) (beq_ne h4.2.2) (c.loc _ (locB_of h5)) (c.loc _ (locB_of h6)) (c.loc _ (locB_of h7)) (dA_ok hf _) (swN_ok hw c.se c.kd)
        · exact rs_bad
      · exact rs_bad
    · exact rs_bad
  · exact rs_bad
theorem dAsgN_ok (c : CtxS X N k t sc) {r : Scope → Rd2} (hr : ∀ (X : Cx) sc, CtxE X N k t sc → RdOk X (r sc)) : RS X (.Assign [.Name x p] e pos) (dAsgN t N r sc x e) := by
  have hN : X.N.Nodup := by rw [c.n]; exact c.nd
  have hf := (hr X sc c.toCtxE).1
  unfold dAsgN
  split
  · rename_i i hi hl
    have hi' : X.N[i]? = some x := by rw [c.n]; exact ixOf_get hi
    have lf : Loc X.env.scope x ∧ (X.fn x = true ∨ X.env.scope.names.lookup x = some .local) := by
      rw [Bool.or_eq_true] at hl
      rcases hl with hl | hl
      · exact ⟨.inl (c.loc x (locB_of hl)), .inr (c.loc x (locB_of hl))⟩
      · split at hl
        · rename_i h; exact ⟨.inr (c.cel x h).1, .inl (c.cel x h).2⟩
        · cases hl
    split
    · rename_i elt gens scope lp
      have hsw : swapsWith (.ListComp elt gens scope lp) (some (.Name x p)) pos.line X.env = pure (swB sc scope x p lp) := by
        show pure (X.env.blockKind == .function && X.env.kindOf x == some .local && p.line == lp.line && !(scope.names.any fun (n, k) => n == x && (k == .local || k == .cell))) = _
        rw [swB_eq c.se c.kd]
      cases hb : swB sc scope x p lp with
      | false => exact rs_set hN hi' lf.1 (dLc_ok c.toCtxE hr) (by rw [hsw, hb]) lf.2
      | true =>
        rw [hb] at hsw
        have hloc : X.env.scope.names.lookup x = some .local := by
          unfold swB at hb
          rw [Bool.and_eq_true] at hb
          exact c.loc x (locB_of hb.1)
        unfold dLc
        split
        · rename_i q hq
          obtain ⟨⟨tg, iter, ifs, own, rfl, h1, h2, h3, h4, h5, h6⟩, cb⟩ := dCp_ok c.toCtxE hr hq
          rw [← h1]
          exact rs_setLc c.c hN hi' hloc hsw h2 h3 h4 h5 (fun x => (hr _ scope (cb x)).1 elt) (by rw [← h1]; exact fun _ h => h) h6
        · exact ⟨fun h => (post_sb (m := (none : Mo DV)) h).elim⟩
    · rename_i kx vx gens scope lp
      have hsw : swapsWith (.DictComp kx vx gens scope lp) (some (.Name x p)) pos.line X.env = pure (swB sc scope x p lp) := by
        show pure (X.env.blockKind == .function && X.env.kindOf x == some .local && p.line == lp.line && !(scope.names.any fun (n, k) => n == x && (k == .local || k == .cell))) = _
        rw [swB_eq c.se c.kd]
      cases hb : swB sc scope x p lp with
      | false => exact rs_set hN hi' lf.1 (dDc_ok c.toCtxE hr) (by rw [hsw, hb]) lf.2
      | true =>
        rw [hb] at hsw
        have hloc : X.env.scope.names.lookup x = some .local := by
          unfold swB at hb
          rw [Bool.and_eq_true] at hb
          exact c.loc x (locB_of hb.1)
        unfold dDc
        split
        · rename_i q hq
          obtain ⟨⟨tg, iter, ifs, own, rfl, h1, h2, h3, h4, h5, h6⟩, cb⟩ := dCp_ok c.toCtxE hr hq
          rw [← h1]
          exact rs_setDc c.c c.r.units hN hi' hloc hsw h2 h3 h4 h5 (fun x => (hr _ scope (cb x)).1 kx) (fun x => (hr _ scope (cb x)).1 vx) (by rw [← h1]; exact fun _ h => h) h6
        · exact ⟨fun h => (post_sb (m := (none : Mo DV)) h).elim⟩
    · exact rs_bad
    · rename_i h1 h2 h3
      refine rs_set hN hi' lf.1 (hf e) (sw_plain ?_) lf.2
      cases e <;> first | rfl | exact (h1 _ _ _ _ rfl).elim | exact (h2 _ _ _ _ _ rfl).elim | exact (h3 _ _ _ _ rfl).elim
  · exact rs_bad
theorem dAsg_ok (c : CtxS X N k t sc) {r : Scope → Rd2} (hr : ∀ (X : Cx) sc, CtxE X N k t sc → RdOk X (r sc)) : RS X (.Assign [tg] e pos) (dAsg t N r sc tg e) := by
  have hf := (hr X sc c.toCtxE).1
  unfold dAsg
  split
  · exact dAsgN_ok c hr
  · split
    · exact dPar_ok c hf
    · rename_i h
      split
      · rename_i g hg
        refine rs_asg (hf e) (dG_ok c.toCtxE 4 _ g hg) (sole_other (by intro x p z; cases z)) ?_ rfl
        cases e <;> first | rfl | exact (h _ _ _ rfl).elim
      · exact rs_bad
  · split
    · exact rs_bad
    · exact rs_put c.r.units (hf _) (hf _) (hf e) (sw_other (by intro x p z; cases z))
  · split
    · rename_i l hl
      refine salts_ok fun s hs => ?_
      obtain ⟨C, hC, rfl⟩ := List.mem_map.mp hs
      have a1 := c.t.fds.mem (fget_mem hl)
      have a2 := AllL.mem a1 hC
      exact rs_fld a2 (hf _) (hf e) (sw_other (by intro x p z; cases z))
    · exact rs_bad
  · exact rs_bad
theorem dSs_ok {d : Stmt → Sv} (hd : ∀ s, RS X s (d s)) : ∀ l : List Stmt, RSs X l (dSs d l)
  | [] => rss_nil
  | [s] => rss_one (hd s)
  | s :: s2 :: r => rss_cons (hd s) (dSs_ok hd (s2 :: r))
theorem dS_ok (c : CtxS X N k t sc) {r : Scope → Rd2} {fl : Nat} (hr : ∀ (X : Cx) sc, CtxE X N k t sc → RdOk X (r sc)) : ∀ (n : Nat) (st : Stmt), RS X st (dS t N r sc fl n st)
  | 0, _ => rs_bad
  | n + 1, st => by
    have ih := dSs_ok (fun s => dS_ok c (fl := fl) hr n s)
    have hf := (hr X sc c.toCtxE).1
    have ht := (hr X sc c.toCtxE).2
    unfold dS
    split
    · exact rs_retN
    · exact rs_ret (hf _)
    · exact rs_pass
    · exact rs_break
    · exact rs_cont
    · split
      · rename_i h
        unfold isDoc at h
        split at h
        · exact rs_doc
        · cases h
      · split
        · exact rs_bad
        · rename_i h; exact rs_expr (hf _) (sw_plain h)
    · exact rs_if (ht _) (ih _) (ih _)
    · split
      · rename_i g hg hs
        exact rs_for c.ps c.c (dI_ok c.toCtxE hf) (dG_ok c.toCtxE 4 _ g hg) (ih _) (noset hs)
      · exact rs_bad
    · exact rs_while c.ps (ht _) (ih _)
    · exact dAsg_ok c hr
    · exact rs_never
    · split
      · rename_i i hi hl
        exact rs_aug (by rw [c.n]; exact c.nd) (by rw [c.n]; exact ixOf_get hi) (.inl (c.loc _ (locB_of hl))) (hf _) (.inr (c.loc _ (locB_of hl)))
      · exact rs_bad
    · exact rs_bad
end
end FL

set_option Elab.async false
set_option linter.all false
set_option maxRecDepth 100000
set_option maxHeartbeats 4000000
namespace FL
open PySem PySem.Spec PyProof.Rows L2
/-! ### defs -/
/-- the reading of a def -/
def dDef (t : Tab) (N : List Str) (k : Nat) (sc : Scope) (fl : Nat) (own : Bool) (np : Nat) (body : List Stmt) : Fn :=
  mkF own N.length np (dSs (dS t N (rd t N k 40) sc fl 40) body)
def scB (N ps : List Str) (sc : Scope) : Bool := (match sc.kind with
    | .function => true
    | _ => false) && (!sc.isCoroutine && (!sc.isGenerator && (decide N.Nodup && (decide (N.take ps.length = ps) && ((ps.all fun x => match sc.names.lookup x with
    | some .local => true
    | some .cell => true
    | _ => false) && sc.names.all fun y => match y.2 with
    | .free => false
    | _ => true)))))
theorem scB_of {N ps : List Str} {sc : Scope} (h : scB N ps sc = true) : FnScope N ps sc := by
  simp only [scB, Bool.and_eq_true, Bool.not_eq_true', List.all_eq_true, decide_eq_true_eq] at h
  obtain ⟨h1, h2, h3, h4, h5, h6, h7⟩ := h
  refine ⟨?_, h2, h3, h4, h5, fun x hx => ?_, fun y hy e => ?_⟩
  · split at h1
    · assumption
    · cases h1
  · have q := h6 x hx
    split at q <;> first | exact .inl (by assumption) | exact .inr (by assumption) | cases q
  · have q := h7 y hy
    rw [e] at q
    cases q
section
variable {P : Program} {W : World} {K : PySem.W.Frag} {mg : Str → Option Value} {base : Heap} {nm qual : Str} {st : Stmt} {f : Addr} {fd : FuncData} {N ps : List Str} {k : Nat} {dvs : List V} {t : Tab}
theorem ctx_bx {cdv : Value} {B : Around} {ou : List PySem.Env} {c : Shared} {H : Hp} {E : XK} (Sc : FnScope N ps (defScope st)) (tk : TabOk P W K mg base t) (hg : B.guards = some []) (hr : Room k (B.deeper (envOfC qual (defScope st) c.heap.objs.size f cdv))) :
    CtxS (bx P W K mg base N qual st f cdv B ou c H E) N k t (defScope st) where
  n := rfl
  nd := Sc.nd
  vis := fun x h => h
  loc := fun x h => h
  cel := fun x h => ⟨h, rfl⟩
  gl := fun x h => h
  blk := fun scope own h => blkOk_by h
  g := hg
  r := hr
  c := rfl
  t := tk
  se := rfl
  kd := Sc.kind
  ps := passes_of rfl
theorem def_fnv {own : Bool} {fl : Nat} (F : FunD K nm qual (defArgs st) (defBody st) (defScope st) dvs [] f fd) (Sc : FnScope N ps (defScope st)) (tk : TabOk P W K mg base t) :
    FnV P W K mg base (k + 1) f fd ps (SpF ⟨K, P, W⟩ (dDef t N k (defScope st) fl own ps.length (defBody st))) :=
  fnF_ok F Sc fun cdv B ou c H E hg hr => dSs_ok (dS_ok (ctx_bx Sc tk hg hr) (fun X sc c => rd_ok 40 X sc c) 40) (defBody st)
/-! how a call binds -/
theorem bindG0 {n : Nat} {ks : List Str} {sel : List Nat} (F : FunD K nm qual (defArgs st) (defBody st) (defScope st) [] [] f fd)
    (h : ∀ (kV doc pm : Value) (an : Option Addr) (cdv ct : Value) (us ws : List Value), us.length = n → ws.length = ks.length → bindArgs (PySem.W.fnOf nm qual (defArgs st) (defBody st) (defScope st) .none kV doc pm an cdv ct) ⟨us, ks.zip ws⟩ = pure (ps.zip (pk sel (us ++ (ws ++ []))))) : BindG K fd ps n ks sel [] := by
  obtain ⟨oc, od, dV, kV, doc, pm, an, cdv, ct, osl, rfl, lk, hcd, hD, hK⟩ := F.ex
  rcases hD with ⟨_, rfl⟩ | ⟨e, _⟩
  · exact ⟨[], .nil, fun s us ws _ h1 h2 => .of_eq (h kV doc pm an cdv ct us ws h1 h2)⟩
  · exact absurd rfl e
theorem bindGD {n : Nat} {ks : List Str} {sel : List Nat} (F : FunD K nm qual (defArgs st) (defBody st) (defScope st) dvs [] f fd) (hd : dvs ≠ [])
    (h : ∀ (T : Addr) (kV doc pm : Value) (an : Option Addr) (cdv ct : Value) (us ws its : List Value), us.length = n → ws.length = ks.length → its.length = dvs.length →
      ∃ k, bindArgs (PySem.W.fnOf nm qual (defArgs st) (defBody st) (defScope st) (.ref T) kV doc pm an cdv ct) ⟨us, ks.zip ws⟩ = seqItems? (.ref T) >>= k ∧ k (some its.toArray) = pure (ps.zip (pk sel (us ++ (ws ++ its))))) : BindG K fd ps n ks sel dvs := by
  obtain ⟨oc, od, dV, kV, doc, pm, an, cdv, ct, osl, rfl, lk, hcd, hD, hK⟩ := F.ex
  rcases hD with ⟨e, _⟩ | ⟨_, T, o, its, m, rfl, lT, oT, rT⟩
  · exact absurd e hd
  · refine ⟨its, rT, fun s us ws X h1 h2 => ?_⟩
    obtain ⟨k, e1, e2⟩ := h T kV doc pm an cdv ct us ws its h1 h2 rT.length.symm
    refine BindsTo.of_looks fun M => ?_
    rw [e1]
    exact looks_items X lT oT (.of_pure e2)
end
end FL
namespace FL
open PySem
def addK {α : Type} (x : Str) (a : α) : List (Str × List α) → List (Str × List α)
  | [] => [(x, [a])]
  | (y, l) :: r => match sEq y x with
    | true => (y, a :: l) :: r
    | false => (y, l) :: addK x a r
end FL

set_option Elab.async false
set_option linter.all false
set_option maxRecDepth 100000
set_option maxHeartbeats 4000000
/-! The head by a Hook of one's own (turned from ELH to FL): defs that are looked for, questions that a part of the heap must answer, dicts. -/
namespace FH
open PySem PySem.Spec PyProof.Rows L2 FL
/-! ### the law's call -/
section
variable {P : Program} {W : World} {K : PySem.W.Frag} {mg mb : Str → Option Value} {k : Nat} {fa a : Addr} {fd : FuncData} {x : Str} {sp : Sp} {c : Shared} {vs : List Value} {ns : List Int}
def LawEnd (c : Shared) : Result → Shared → Prop := fun r c' => r = .ok (.ret (.bool true)) ∧ OldK c.heap c'.heap ∧ c'.os = c.os ∧ AllBare c'.gens
theorem law_at (kin : K.In c.heap) (n1 : c.heap.Ns mainGlobals mg) (n2 : c.heap.Ns builtinsNs mb) (n3 : ∀ y : Str, y ≠ "__name__" → mb y = bootBuiltins y) (n4 : c.heap.NoLimit) (n5 : c.gens = #[])
    (ha : c.heap.get? a = some { cls := .type "list", data := .seq vs.toArray }) (hr : Room k callerA) (F : ∀ base : Heap, K.In base → base.Ns mainGlobals mg → FnV P W K mg base k fa fd [x] sp) (hbd : ∀ (s : Shared) (u : Value), BindsTo s fd ⟨[u], []⟩ [(x, u)])
    {H : Hp} (on : Only H) (q : sp [.ref a] H (fun v _ => v = .bl true) (fun _ _ _ => False)) (hok : HOk P W H c.heap) (own : ∀ b u, H b = some u → b = a ∧ K.lookup a = none) :
    codeAny (model P W) callerA (.call (.ref fa) ⟨[.ref a], []⟩) (LawEnd c) c := by
  have out : ∀ {b : Addr}, (b = a → K.lookup a = none → False) → H b = none := fun {b} h => by
    cases e : H b with
    | none => rfl
    | some u => exact (h (own b u e).1 (own b u e).2).elim
  have ns : ∀ {b : Addr} {m : Str → Option Value}, c.heap.Ns b m → (hidT c.heap H).Ns b m := by
    rintro b m ⟨o, es, ep, e, d, r⟩
    refine ⟨o, es, ep, hidT_get e (out fun z _ => ?_), d, r⟩
    rw [z, ha] at e
    cases e
    cases (show Data.seq vs.toArray _ = Data.dict es ep from d)
  have kb : K.In (hidT c.heap H) := fun b o e => hidT_get (kin b o e) (out fun z w => by rw [z, w] at e; cases e)
  have md : Mod K mg (hidT c.heap H) := ⟨kb, ns n1, ⟨mb, ns n2, n3⟩, n4.elim fun m h => ⟨m, ns h.1, h.2⟩⟩
  have e0 : Env0 P W K mg (hidT c.heap H) callerA [] c H := ⟨rfl, md, fun _ _ e => of_hidT e, Nat.le_of_eq (hidT_size _ _), trivial, fun b z => absurd (show b ∈ ([] : List Addr) from z) List.not_mem_nil, hok, .of_eq n5⟩
  refine codeAny_mono ((F _ kb (ns n1)).run callerA [] c H ⟨[.ref a], []⟩ [.ref a] [.ref a] _ _ rfl hr e0 (hbd c (.ref a)) (.cons rfl .nil) q) fun res c' h => ?_
  cases res with
  | error e =>
    obtain ⟨_, _, _, _, _, _, _, _, _, _, _, _, z⟩ := h
    exact z.elim
  | ok fl => cases fl with
    | next => exact h.elim
    | brk => exact h.elim
    | cont => exact h.elim
    | ret u =>
      obtain ⟨v, H', os, bare, un, hok', rv, ev⟩ := h
      cases (show v = V.bl true from ev)
      cases (show u = Value.bool true from rv)
      refine ⟨rfl, OldK.of_keep fun b o e => ?_, os, bare⟩
      rcases on b with z | ⟨ob, xs, z⟩
      · exact un.keep b o e z (fun y => absurd (show b ∈ ([] : List Addr) from y) List.not_mem_nil) (by simp)
      · have h1 := (hok b _ z).1
        rw [e] at h1
        cases h1
        exact (hok' b _ (un.frzs b _ _ z)).1
def noList (K : PySem.W.Frag) : Bool := K.all fun p => !decide (p.2.cls = .type "list")
theorem noList_ok {o : Obj} (h : noList K = true) (hk : K.lookup a = some o) : o.cls ≠ .type "list" := by
  unfold noList at h
  induction K with
  | nil => cases hk
  | cons p K ih =>
    obtain ⟨b, ob⟩ := p
    rw [List.all_cons, Bool.and_eq_true] at h
    rw [List.lookup_cons] at hk
    split at hk
    · cases hk
      intro z
      have := h.1
      simp [z] at this
    · exact ih h.2 hk
theorem reps_ints {K : KW} {G : Hp} : ∀ ns : List Int, Reps K G (ns.map V.int) (ns.map D.int)
  | [] => .nil
  | i :: ns => .cons (.int i) (reps_ints ns)
/-- the reading of the law says True -/
def LawYes (n : Nat) (m : Fn) : Prop := ∀ ns : List Int, ns.length ≤ n → ∃ L', m [] [.d (.lst (ns.map D.int))] = some (.val L' (.d (.bl true)))
theorem law_callV {m : Fn} {n : Nat} (kin : K.In c.heap) (n1 : c.heap.Ns mainGlobals mg) (n2 : c.heap.Ns builtinsNs mb) (n3 : ∀ y : Str, y ≠ "__name__" → mb y = bootBuiltins y) (n4 : c.heap.NoLimit) (n5 : c.gens = #[])
    (ha : c.heap.get? a = some { cls := .type "list", data := .seq vs.toArray }) (hi : IntsAre vs ns) (hl : ns.length ≤ sizeLine) (hln : ns.length ≤ n) (hr : Room k callerA) (nl : noList K = true) (F : ∀ base : Heap, K.In base → base.Ns mainGlobals mg → FnV P W K mg base k fa fd [x] (SpF ⟨K, P, W⟩ m))
    (hbd : ∀ (s : Shared) (u : Value), BindsTo s fd ⟨[u], []⟩ [(x, u)]) (hy : LawYes n m) :
    codeAny (model P W) callerA (.call (.ref fa) ⟨[.ref a], []⟩) (LawEnd c) c := by
  have hk : K.lookup a = none := by
    cases hk : K.lookup a with
    | none => rfl
    | some o =>
      obtain rfl := Option.some.inj ((kin a o hk).symm.trans ha)
      exact (noList_ok nl hk rfl).elim
  let H : Hp := fun b => if b = a then some (.frz { cls := .type "list", data := .seq vs.toArray } (.lst (ns.map V.int))) else none
  have at_ : ∀ {b u}, H b = some u → b = a ∧ u = .frz { cls := .type "list", data := .seq vs.toArray } (.lst (ns.map V.int)) := fun {b u} z => by
    by_cases e : b = a
    · exact ⟨e, (Option.some.inj ((if_pos e).symm.trans z)).symm⟩
    · cases (if_neg e).symm.trans z
  have on : Only H := fun b => by
    by_cases e : b = a
    · exact .inr ⟨_, _, if_pos e⟩
    · exact .inl (if_neg e)
  obtain ⟨L', hm⟩ := hy ns hln
  have rep : Rep ⟨K, P, W⟩ H (.ref a) (.lst (ns.map D.int)) := .lst (.inr ⟨_, if_pos rfl⟩) (reps_ints ns)
  have hsp : SpF ⟨K, P, W⟩ m [.ref a] H (fun v _ => v = .bl true) (fun _ _ _ => False) := by
    refine ⟨fun _ => none, [], [], H, [.d (.lst (ns.map D.int))], fun _ x => x = .d (.bl true), fun _ _ => False, ⟨slv_nil, rfl, Sm.refl _, rfl, ?_, ?_, ?_, ?_, stab_dreps _ _, .cons (.d rep) .nil⟩, ?_, ?_, ?_⟩
    · intro j k p c c' h1; simp at h1
    · intro k p e h1; simp at h1
    · intro k p e h1; simp at h1
    · intro a o z; cases z
    · rw [hm]; exact rfl
    · rintro T' L' G' H' v x rfl t sm o'
      have r := o'.f
      cases r with
      | d r => cases r; rfl
    · rintro T' L' G' H' cls d x z; exact z.elim
  refine law_at (H := H) kin n1 n2 n3 n4 n5 ha hr F hbd on hsp (fun b u z => ?_) (fun b u z => ⟨(at_ z).1, hk⟩)
  obtain ⟨rfl, rfl⟩ := at_ z
  exact ⟨ha, by rw [List.length_map]; exact hl, vs, _, vals_ints hi, ha⟩
end
/-- the goal that the head leaves, over a Hook -/
theorem walk_V {l : PySem.W.OpenLaw} {n k : Nat} {q : Program} {loose : List Str} {XP : (Str → Option Value) → Heap → Prop} {YP : World → Heap → Prop} {d : DefRec} {x : Str} {m : Fn}
    (hn : l.most = some n) (hn2 : n ≤ sizeLine) (hdf : d.params.defaults = []) (hr : Room k callerA) (hy : LawYes n m)
    (F : ∀ (w : World) (mg : Str → Option Value) (fa : Addr) (h : Heap), YP w h → h.Ns mainGlobals mg → mg d.name = some (.ref fa) →
      ∃ (K : PySem.W.Frag) (fd : FuncData), K.In h ∧ noList K = true ∧ (∀ (s : Shared) (u : Value), BindsTo s fd ⟨[u], []⟩ [(x, u)]) ∧ (∀ base : Heap, K.In base → base.Ns mainGlobals mg → FnV l.prog w K mg base k fa fd [x] (SpF ⟨K, l.prog, w⟩ m))) :
    PySem.W.WalkO q loose XP YP l.row.toRowW d [] (fun f vs => PySem.call f vs) := by
  refine Att.attach_call hn hdf fun w s₀ s₁ mg mb fa o pm cd doc a vs ns G Y ho hd hcd hmg hobj hints hlen hg => ?_
  obtain ⟨K, fd, KX, nl, hb, hF⟩ := F w mg fa _ Y G.T.g hmg
  exact law_callV KX G.T.g G.T.b G.T.builtins G.T.nolimit hg hobj hints (Nat.le_trans hlen hn2) hlen hr nl hF hb hy
/-! ### defs that are looked for -/
structure Fx where
  spot : PySem.W.Frag → Addr
  nm : Str
  qual : Str
  st : Stmt
  dfl : List He.Dv := []
  pre : PySem.W.Frag → Bool := fun _ => true
def lookFn (K : PySem.W.Frag) (a : Addr) : He.FnW := match K.lookup a with
  | some ⟨_, _, .func u, _⟩ => some (u.name, u.qualname, u.params, u.body, u.scope, u.globals, u.closure, u.builtins)
  | _ => none
def Fx.want (x : Fx) : He.FnW := some (x.nm, x.qual, defArgs x.st, .stmts (defBody x.st), defScope x.st, mainGlobals, [], builtinsNs)
def Fx.dvs (x : Fx) (K : PySem.W.Frag) : List V := x.dfl.map (He.Dv.v K)
def Fx.good (K : PySem.W.Frag) (x : Fx) : Bool := x.pre K && (PySem.W.keepIn K (.ref (x.spot K)) && (match K.lookup (x.spot K) with
  | some ⟨_, _, .func u, _⟩ => PySem.W.codeIn K u.code x.qual && He.dflB K u.defaults (x.dvs K)
  | _ => false))
theorem Fx.fun_ {K : PySem.W.Frag} {x : Fx} (e : lookFn K (x.spot K) = x.want) (c : x.good K = true) : x.pre K = true ∧ ∃ fd, FunD K x.nm x.qual (defArgs x.st) (defBody x.st) (defScope x.st) (x.dvs K) [] (x.spot K) fd := by
  obtain ⟨c0, c1⟩ := He.ba c
  obtain ⟨kp, c2⟩ := He.ba c1
  refine ⟨c0, ?_⟩
  unfold lookFn at e
  cases q : K.lookup (x.spot K) with
  | none => rw [q] at e; cases e
  | some o =>
    obtain ⟨o1, o2, o3, o4⟩ := o
    rw [q] at e c2
    cases o3 with
    | func u =>
      obtain ⟨u1, u2, u3, u4, u5, u6, u7, u8, u9, u10, u11, u12, u13, u14, u15⟩ := u
      have e' : (some (u1, u2, u3, u4, u5, u6, u7, u15) : He.FnW) = some (x.nm, x.qual, defArgs x.st, .stmts (defBody x.st), defScope x.st, mainGlobals, [], builtinsNs) := e
      cases e'
      have c3 : (PySem.W.codeIn K u13 x.qual && He.dflB K u8 (x.dvs K)) = true := c2
      exact ⟨_, ⟨o1, o2, u8, u9, u10, u11, u12, u13, u14, o4, rfl, q, (He.ba c3).1, He.dflB_ok (He.ba c3).2, .inl rfl⟩, kp⟩
    | _ => cases e
/-! ### dicts of texts -/
abbrev KdW : Type := Option (List (Int × Str × Str))
def entsOf : List DictEntry → Option (List (Int × Str × Str))
  | [] => some []
  | ⟨h, .str k _, .str v _⟩ :: r => match entsOf r with
    | some l => some ((h, k, v) :: l)
    | none => none
  | _ => none
def lookKd (K : PySem.W.Frag) (a : Addr) : KdW := match K.lookup a with
  | some ⟨.type c, none, .dict es _, sl⟩ => match decide (c = "dict"), decide (sl = #[]) with
    | true, true => entsOf es.toList
    | _, _ => none
  | _ => none
def wantKd (w : World) (kvs : List (Str × Str)) : KdW := some (kvs.map fun p => (hashStr w p.1, p.1, p.2))
/-! ### the Hook -/
abbrev Qs := List (PySem.W.Frag → Bool)
abbrev Kds := List (Str × List (Str × Str))
abbrev Seen : Type := Bool × List He.FnW × List KdW
def seen (qs : Qs) (fx : List Fx) (kd : Kds) (K : PySem.W.Frag) : Seen := ((qs.all fun q => q K) && fx.all fun x => x.good K, fx.map fun x => lookFn K (x.spot K), kd.map fun p => lookKd K (He.ga K p.1))
def wanted (fx : List Fx) (kd : Kds) (w : World) : Seen := (true, fx.map Fx.want, kd.map fun p => wantKd w p.2)
def Says (qs : Qs) (fx : List Fx) (kd : Kds) (w : World) (K : PySem.W.Frag) : Prop := seen qs fx kd K = wanted fx kd w
def seenG (n : List Addr) (qs : Qs) (fx : List Fx) (kd : Kds) (g : Addr → Option Obj) : Seen := seen qs fx kd (He.frG g n)
def hook (n : List Addr) (qs : Qs) (fx : List Fx) (kd : Kds) : PySem.W.Hook where
  α := Seen
  obs := fun s => seenG n qs fx kd s.heap.get?
  val := fun w => wanted fx kd w
  says := fun w h => ∃ K : PySem.W.Frag, K.In h ∧ Says qs fx kd w K
  of := fun _ _ e => ⟨_, He.frG_in, e⟩
  keeps := fun _ _ _ ⟨K, hK, c⟩ k => ⟨K, hK.keeps k, c⟩
def obT (n : List Addr) (qs : Qs) (fx : List Fx) (kd : Kds) (s : PySem.W.SharedT) : Seen := seenG n qs fx kd (HandSHeadRun.getT s)
theorem obT_eq {n : List Addr} {qs : Qs} {fx : List Fx} {kd : Kds} (s : PySem.W.SharedT) : obT n qs fx kd s = (hook n qs fx kd).obs s.abs := by
  show seenG n qs fx kd (HandSHeadRun.getT s) = seenG n qs fx kd s.abs.heap.get?
  rw [show HandSHeadRun.getT s = s.abs.heap.get? from funext (HandSHeadRun.getT_eq s)]
section
variable {P : Program} {W : World} {qs : Qs} {fx : List Fx} {kd : Kds} {K : PySem.W.Frag} {h : Heap} {mg : Str → Option Value}
theorem Says.q (c : Says qs fx kd W K) (i : Nat) {q : PySem.W.Frag → Bool} (hq : qs[i]? = some q := by rfl) : q K = true :=
  List.all_eq_true.mp (He.ba (congrArg Prod.fst c)).1 q (List.mem_of_getElem? hq)
theorem Says.f (c : Says qs fx kd W K) (i : Nat) {x : Fx} (hx : fx[i]? = some x := by rfl) : x.pre K = true ∧ ∃ fd, FunD K x.nm x.qual (defArgs x.st) (defBody x.st) (defScope x.st) (x.dvs K) [] (x.spot K) fd := by
  have e : fx.map (fun x => lookFn K (x.spot K)) = fx.map Fx.want := congrArg (fun p => p.2.1) c
  have e2 := congrArg (fun l => l[i]?) e
  simp only [List.getElem?_map, hx, Option.map_some, Option.some.injEq] at e2
  exact Fx.fun_ e2 (List.all_eq_true.mp (He.ba (congrArg Prod.fst c)).2 x (List.mem_of_getElem? hx))
theorem Says.d (c : Says qs fx kd W K) (i : Nat) {p : Str × List (Str × Str)} (hx : kd[i]? = some p := by rfl) : lookKd K (He.ga K p.1) = wantKd W p.2 := by
  have e : kd.map (fun p => lookKd K (He.ga K p.1)) = kd.map (fun p => wantKd W p.2) := congrArg (fun p => p.2.2) c
  have e2 := congrArg (fun l => l[i]?) e
  simpa only [List.getElem?_map, hx, Option.map_some, Option.some.injEq] using e2
/-! ### questions -/
def qFree (x : Str) (K : PySem.W.Frag) : Bool := He.eqO (PySem.W.nsIn K mainGlobals x) (some none)
def qGlo (x : Str) (K : PySem.W.Frag) : Bool := He.eqO (PySem.W.nsIn K mainGlobals x) (some (some (.ref (He.ga K x))))
def qMeth (C m : Str) (K : PySem.W.Frag) : Bool := (He.Fa.meth C m).ok K
def qMk (C : Str) (K : PySem.W.Frag) : Bool := (He.Fa.mkr C).ok K && qGlo C K
def getter (C m : Str) (K : PySem.W.Frag) : Addr := match PySem.W.recIn K (He.ma K (He.ga K C) m) "property" with
  | some (.ref g :: _) => g
  | _ => 0
def qProp (C m : Str) (K : PySem.W.Frag) : Bool := He.eqO (PySem.W.findIn K (.ref (He.ga K C)) m) (some (some (.ref (He.ma K (He.ga K C) m)))) && (He.eqO (PySem.W.specialIn K (.ref (He.ma K (He.ga K C) m)) "__get__") (some (some (.builtin "property.__get__"))) && (decide (PySem.W.takesIn K (.ref (He.ma K (He.ga K C) m)) = some true) && (match PySem.W.recIn K (He.ma K (He.ga K C) m) "property" with
  | some (.ref _ :: _) => true
  | _ => false)))
def fxG (x : Str) (st : Stmt) (dfl : List He.Dv := []) : Fx := { spot := fun K => He.ga K x, nm := x, qual := x, st := st, dfl := dfl, pre := qGlo x }
def fxM (C m qual : Str) (st : Stmt) (dfl : List He.Dv := []) : Fx := { spot := fun K => He.ma K (He.ga K C) m, nm := m, qual := qual, st := st, dfl := dfl, pre := qMeth C m }
def fxI (C qual : Str) (st : Stmt) (dfl : List He.Dv := []) : Fx := { spot := fun K => He.ma K (He.ga K C) "__init__", nm := "__init__", qual := qual, st := st, dfl := dfl, pre := qMk C }
def fxP (C m qual : Str) (st : Stmt) : Fx := { spot := getter C m, nm := m, qual := qual, st := st, pre := qProp C m }
theorem free_ (X : K.In h) (G : h.Ns mainGlobals mg) {x : Str} (c : qFree x K = true) : mg x = none := He.free_ok X G c
theorem glo_ (X : K.In h) (G : h.Ns mainGlobals mg) {x : Str} (c : qGlo x K = true) : mg x = some (.ref (He.ga K x)) := He.glo_ok X G c
/-! data in the heap -/
mutual
def valB (K : PySem.W.Frag) : D → Value → Bool
  | .non, .none => true
  | .bl b, .bool c => decide (b = c)
  | .int i, .int j _ => decide (i = j)
  | .str x, .str y _ => decide (x = y)
  | .cn C, .ref a => decide (a = He.ga K C)
  | .tup ds, .ref a => match K.lookup a with
    | some ⟨.type c, none, .seq its _, _⟩ => decide (c = "tuple") && (decide (its.size ≤ sizeLine) && valsB K ds its.toList)
    | _ => false
  | _, _ => false
def valsB (K : PySem.W.Frag) : List D → List Value → Bool
  | [], [] => true
  | d :: ds, u :: us => valB K d u && valsB K ds us
  | _, _ => false
end
mutual
theorem valB_ok : ∀ {d : D} {u : Value}, valB K d u = true → ∃ v, RelV v u ∧ ∀ G : Hp, Rep ⟨K, P, W⟩ G v d
  | .non, u, h => by
    cases u <;> first | exact ⟨.non, rfl, fun G => .non⟩ | (simp [valB] at h; done)
  | .bl b, u, h => by
    cases u with
    | bool c => simp [valB] at h; subst h; exact ⟨.bl b, rfl, fun G => .bl b⟩
    | _ => simp [valB] at h
  | .int i, u, h => by
    cases u with
    | int j t => simp [valB] at h; subst h; exact ⟨.int i, ⟨t, rfl⟩, fun G => .int i⟩
    | _ => simp [valB] at h
  | .str i, u, h => by
    cases u with
    | str j t => simp [valB] at h; subst h; exact ⟨.str i, ⟨t, rfl⟩, fun G => .str i⟩
    | _ => simp [valB] at h
  | .cn C, u, h => by
    cases u with
    | ref a => simp [valB] at h; subst h; exact ⟨.ref _, rfl, fun G => .cn C⟩
    | _ => simp [valB] at h
  | .tup ds, u, h => by
    cases u with
    | ref a =>
      unfold valB at h
      split at h
      · rename_i c its n sl hk
        simp only [Bool.and_eq_true, decide_eq_true_eq] at h
        obtain ⟨rfl, h2, h3⟩ := h
        obtain ⟨vs, rv, rp⟩ := valsB_ok h3
        exact ⟨.ref a, rfl, fun G => .tup (.inr ⟨_, its, n, hk, rfl, rfl, h2, rv⟩) (rp G)⟩
      · cases h
    | _ => simp [valB] at h
  | .lst _, u, h => by cases u <;> simp [valB] at h
  | .dct _, u, h => by cases u <;> simp [valB] at h
  | .obj _ _, u, h => by cases u <;> simp [valB] at h
  | .ty _, u, h => by cases u <;> simp [valB] at h
theorem valsB_ok : ∀ {ds : List D} {us : List Value}, valsB K ds us = true → ∃ vs, Vals vs us ∧ ∀ G : Hp, Reps ⟨K, P, W⟩ G vs ds
  | [], [], _ => ⟨[], .nil, fun G => .nil⟩
  | [], _ :: _, h => by simp [valsB] at h
  | _ :: _, [], h => by simp [valsB] at h
  | d :: ds, u :: us, h => by
    rw [valsB, Bool.and_eq_true] at h
    obtain ⟨v, r1, p1⟩ := valB_ok h.1
    obtain ⟨vs, r2, p2⟩ := valsB_ok h.2
    exact ⟨v :: vs, .cons r1 r2, fun G => .cons (p1 G) (p2 G)⟩
end
def qConst (x : Str) (d : D) (K : PySem.W.Frag) : Bool := match PySem.W.nsIn K mainGlobals x with
  | some (some u) => valB K d u
  | _ => false
theorem const_ (X : K.In h) (G : h.Ns mainGlobals mg) {x : Str} {d : D} (c : qConst x d K = true) : ConstV P W K mg x d := by
  unfold qConst at c
  split at c
  · rename_i u hu
    obtain ⟨v, r, p⟩ := valB_ok (P := P) (W := W) c
    exact ⟨v, u, PySem.W.mg_of X G hu, r, p⟩
  · cases c
def dvB (K : PySem.W.Frag) : He.Dv → D → Bool
  | .non, .non => true
  | .bl b, .bl c => decide (b = c)
  | .int i, .int j => decide (i = j)
  | .str x, .str y => decide (x = y)
  | .adr p, d => valB K d (.ref (p K))
  | _, _ => false
theorem dvB_ok {v : He.Dv} {d : D} (c : dvB K v d = true) (G : Hp) : Rep ⟨K, P, W⟩ G (v.v K) d := by
  unfold dvB at c
  split at c
  · exact .non
  · rw [of_decide_eq_true c]; exact .bl _
  · rw [of_decide_eq_true c]; exact .int _
  · rw [of_decide_eq_true c]; exact .str _
  · rename_i q
    obtain ⟨v, r, p⟩ := valB_ok (P := P) (W := W) c
    have e : v = .ref (q K) := by cases v <;> first | (cases r; done) | (obtain ⟨_, z⟩ := r; cases z; done) | (cases r; rfl)
    rw [e] at p
    exact p G
  · cases c
def dvsB (K : PySem.W.Frag) : List He.Dv → List D → Bool
  | [], [] => true
  | v :: vs, d :: ds => dvB K v d && dvsB K vs ds
  | _, _ => false
theorem dvsB_ok : ∀ {vs : List He.Dv} {ds : List D}, dvsB K vs ds = true → DflIs ⟨K, P, W⟩ (vs.map (He.Dv.v K)) ds
  | [], [], _ => fun G => .nil
  | [], _ :: _, h => by simp [dvsB] at h
  | _ :: _, [], h => by simp [dvsB] at h
  | v :: vs, d :: ds, h => fun G => by
    rw [dvsB, Bool.and_eq_true] at h
    exact .cons (dvB_ok h.1 G) (dvsB_ok h.2 G)
def qStrs (x : Str) (ss : List Str) (K : PySem.W.Frag) : Bool := qGlo x K && match K.lookup (He.ga K x) with
  | some ⟨.type c, none, .seq its _, _⟩ => decide (c = "tuple") && (decide (its.size ≤ sizeLine) && He.relAll (ss.map V.str) its.toList)
  | _ => false
theorem strs_reps {K : KW} {G : Hp} : ∀ ss : List Str, Reps K G (ss.map V.str) (ss.map D.str)
  | [] => .nil
  | s :: ss => .cons (.str s) (strs_reps ss)
theorem tupC_ (X : K.In h) (G : h.Ns mainGlobals mg) {x : Str} {ss : List Str} (c : qStrs x ss K = true) : TupC P W K mg x ss := by
  obtain ⟨c1, c2⟩ := He.ba c
  cases q : K.lookup (He.ga K x) with
  | none => rw [q] at c2; cases c2
  | some o =>
    obtain ⟨o1, o2, o3, o4⟩ := o
    rw [q] at c2
    cases o1 with
    | type t => cases o2 with
      | none => cases o3 with
        | seq its n =>
          have c3 : (decide (t = "tuple") && (decide (its.size ≤ sizeLine) && He.relAll (ss.map V.str) its.toList)) = true := c2
          obtain ⟨e1, c4⟩ := He.ba c3
          obtain ⟨e2, e3⟩ := He.ba c4
          obtain rfl := of_decide_eq_true e1
          exact ⟨_, glo_ X G c1, ⟨_, q, rfl, rfl⟩, fun G => .tup (.inr ⟨_, its, n, q, rfl, rfl, of_decide_eq_true e2, He.relAll_ok e3⟩) (strs_reps ss)⟩
        | _ => cases c2
      | some a => cases o3 <;> cases c2
    | _ => cases o2 <;> cases o3 <;> cases c2
def qKd (x : Str) (kvs : List (Str × Str)) (K : PySem.W.Frag) : Bool := qGlo x K && (!(He.ga K x == sysModules) && decide (kvs.map (·.1)).Nodup)
theorem ents_ok : ∀ {es : List DictEntry} {kvs : List (Str × Str)}, entsOf es = some (kvs.map fun p => (hashStr W p.1, p.1, p.2)) →
    ∃ vs : List (Key × Value), KV (kvs.map fun p => ((Sum.inr p.1 : Key), V.str p.2)) vs ∧ Pairs (mixKind P W) es vs ∧ (∀ e ∈ es, ∃ k, (mixKind P W).is k e.key = true ∧ e.hash = (mixKind P W).hash k) ∧ vs.map (·.1) = kvs.map fun p => (Sum.inr p.1 : Key)
  | [], kvs, h => by
    cases kvs with
    | nil => exact ⟨[], .nil, .nil, fun e he => (by simp at he), rfl⟩
    | cons p r => simp [entsOf] at h
  | e :: es, kvs, h => by
    obtain ⟨hs, key, val⟩ := e
    cases key with
    | str k t =>
      cases val with
      | str v t2 =>
        simp only [entsOf] at h
        split at h
        · rename_i l hl
          cases kvs with
          | nil => simp at h
          | cons p r =>
            simp only [List.map_cons, Option.some.injEq, List.cons.injEq, Prod.mk.injEq] at h
            obtain ⟨⟨e1, e2, e3⟩, e4⟩ := h
            subst e1 e2 e3 e4
            obtain ⟨vs, h1, h2, h3, h4⟩ := ents_ok hl
            have is_ : (mixKind P W).is (Sum.inr p.1) (.str p.1 t) = true := by
              show Value.isStrOf p.1 (.str p.1 t) = true
              simp [Value.isStrOf, Value.isStr]
            refine ⟨(Sum.inr p.1, .str p.2 t2) :: vs, .cons ⟨rfl, t2, rfl⟩ h1, .cons is_ rfl h2, fun e he => ?_, by rw [List.map_cons, List.map_cons, h4]⟩
            rcases List.mem_cons.mp he with rfl | he
            · exact ⟨Sum.inr p.1, is_, rfl⟩
            · exact h3 e he
        · cases h
      | _ => simp [entsOf] at h
    | _ => simp [entsOf] at h
theorem kd_ (X : K.In h) (G : h.Ns mainGlobals mg) {x : Str} {kvs : List (Str × Str)} (c : qKd x kvs K = true) (e : lookKd K (He.ga K x) = wantKd W kvs) : KDict P W K mg x kvs := by
  obtain ⟨c1, c2⟩ := He.ba c
  obtain ⟨c3, c4⟩ := He.ba c2
  have nd := of_decide_eq_true c4
  unfold lookKd at e
  split at e
  · rename_i cl es ep sl hk
    split at e
    · rename_i d1 d2
      have d1 := of_decide_eq_true d1
      have d2 := of_decide_eq_true d2
      subst d1 d2
      obtain ⟨vs, h1, h2, h3, h4⟩ := ents_ok (P := P) e
      refine ⟨_, glo_ X G c1, by simpa using c3, vs, h1, fun hh kin => ⟨_, es, ep, kin _ _ hk, ⟨rfl, rfl, rfl⟩, rfl, fun e he => h3 e (by simpa using he), h2, ?_⟩⟩
      rw [h4]
      rw [show (fun p : Str × Str => (Sum.inr p.1 : Key)) = Sum.inr ∘ (fun p => p.1) from rfl, ← List.map_map]
      exact List.Pairwise.map _ (fun a b (hab : a ≠ b) z => hab (Sum.inr.inj z)) nd
    · cases e
  · cases e
/-! classes -/
def qCls (C : Str) (K : PySem.W.Frag) : Bool := (He.Fa.cls C).ok K
def qFld (C f : Str) (K : PySem.W.Frag) : Bool := (He.Fa.cls C).ok K && (He.Fa.noat C f).ok K
theorem fld_ {C f : Str} (c : qFld C f K = true) : FldOk K C f := ⟨He.cls_ok (He.ba c).1, He.noat_ok (He.ba c).2⟩
def qIsC (x : Str) (K : PySem.W.Frag) : Bool := (He.Fa.cls x).ok K && (He.eqO (PySem.W.findIn K (.ref (He.ga K x)) "__class__") (some (some (.builtin "object.__class__"))) && (He.eqO (PySem.W.specialIn K (.builtin "object.__class__") "__get__") (some (some (.builtin "getset_descriptor.__get__"))) && (decide (PySem.W.takesIn K (.builtin "object.__class__") = some true) && decide (PySem.W.mroIn K (He.ga K x) (.type "object") = some true))))
theorem isC_ {x : Str} (c : qIsC x K = true) : FL.IsC K (He.ga K x) := by
  obtain ⟨c1, c⟩ := He.ba c
  obtain ⟨c2, c⟩ := He.ba c
  obtain ⟨c3, c⟩ := He.ba c
  obtain ⟨c4, c5⟩ := He.ba c
  exact ⟨He.cls_ok c1, He.eqO_ok c2, He.eqO_ok c3, of_decide_eq_true c4, of_decide_eq_true c5⟩
def tys : List String := ["str", "int", "bool", "tuple", "list", "dict"]
def tyN7 : List String := ["NoneType", "bool", "int", "str", "list", "tuple", "dict"]
def qIsi (Cs : List Str) (K : PySem.W.Frag) : Bool := (Cs.all fun C => qIsC C K) && ((Cs.all fun C => tys.all fun T => decide (PySem.W.kitOne K (.ref (He.ga K C)) (.type T) = some false)) && ((Cs.all fun C0 => Cs.all fun C => decide (PySem.W.kitOne K (.ref (He.ga K C0)) (.ref (He.ga K C)) = some (sEq C0 C))) && Cs.all fun C => tyN7.all fun T => decide (PySem.W.kitOne K (.type T) (.ref (He.ga K C)) = some false)))
theorem isi_ {Cs : List Str} (c : qIsi Cs K = true) : Isi K Cs Cs := by
  obtain ⟨c1, c⟩ := He.ba c
  obtain ⟨c2, c⟩ := He.ba c
  obtain ⟨c3, c4⟩ := He.ba c
  have i : ∀ C ∈ Cs, FL.IsC K (He.ga K C) := fun C hC => isC_ (List.all_eq_true.mp c1 C hC)
  refine ⟨fun T hT => ⟨i, fun C hC => ?_⟩, fun C hC => ⟨i, fun C0 h0 => of_decide_eq_true (List.all_eq_true.mp (List.all_eq_true.mp c3 C0 h0) C hC), fun T hT => of_decide_eq_true (List.all_eq_true.mp (List.all_eq_true.mp c4 C hC) T hT)⟩⟩
  refine of_decide_eq_true (List.all_eq_true.mp (List.all_eq_true.mp c2 C hC) T ?_)
  unfold tyOk at hT
  simp only [Bool.or_eq_true, decide_eq_true_eq] at hT
  rcases hT with ((((rfl | rfl) | rfl) | rfl) | rfl) | rfl <;> decide
def qNe (x : Str) (K : PySem.W.Frag) : Bool := He.eqO (PySem.W.findIn K (.ref (He.ga K x)) "__ne__") (some (some (.builtin "object.__ne__"))) && decide (PySem.W.mroIn K (He.ga K x) (.type "object") = some true)
/-! ### the table's parts -/
section
variable {base : Heap} {t : Tab} {x C m qual : Str} {st : Stmt} {N ps ks : List Str} {k fl n : Nat} {own : Bool} {sel : List Nat} {dfl : List He.Dv} {dds : List D}
theorem dvs0 : DflIs ⟨K, P, W⟩ [] [] := fun G => .nil
abbrev Bd0 (nm qual : Str) (st : Stmt) (ps : List Str) (n : Nat) (ks : List Str) (sel : List Nat) : Prop := ∀ (kV doc pm : Value) (an : Option Addr) (cdv ct : Value) (us ws : List Value), us.length = n → ws.length = ks.length → bindArgs (PySem.W.fnOf nm qual (defArgs st) (defBody st) (defScope st) .none kV doc pm an cdv ct) ⟨us, ks.zip ws⟩ = pure (ps.zip (pk sel (us ++ (ws ++ []))))
abbrev BdD (nm qual : Str) (st : Stmt) (ps : List Str) (n : Nat) (ks : List Str) (sel : List Nat) (j : Nat) : Prop := ∀ (T : Addr) (kV doc pm : Value) (an : Option Addr) (cdv ct : Value) (us ws its : List Value), us.length = n → ws.length = ks.length → its.length = j →
      ∃ k, bindArgs (PySem.W.fnOf nm qual (defArgs st) (defBody st) (defScope st) (.ref T) kV doc pm an cdv ct) ⟨us, ks.zip ws⟩ = seqItems? (.ref T) >>= k ∧ k (some its.toArray) = pure (ps.zip (pk sel (us ++ (ws ++ its))))
theorem mkDef (X : K.In h) (G : h.Ns mainGlobals mg) (c : Says qs fx kd W K) (i : Nat) (hx : fx[i]? = some (fxG x st)) (sc : scB N ps (defScope st) = true) (tk : TabOk P W K mg base t) (hb : Bd0 x x st ps n ks sel) :
    DefB P W K mg base x (k + 1) ps n ks sel [] (dDef t N k (defScope st) fl own ps.length (defBody st)) := by
  obtain ⟨a, fd, F⟩ := c.f i hx
  exact ⟨_, fd, [], glo_ X G a, F.kp, bindG0 F hb, dvs0, def_fnv F (scB_of sc) tk⟩
theorem map_ne {l : List He.Dv} (h : l ≠ []) : l.map (He.Dv.v K) ≠ [] := fun z => h (List.map_eq_nil_iff.mp z)
theorem mkDefD (X : K.In h) (G : h.Ns mainGlobals mg) (c : Says qs fx kd W K) (i : Nat) (hx : fx[i]? = some (fxG x st dfl)) (hd : dvsB K dfl dds = true) (hn : dfl ≠ []) (sc : scB N ps (defScope st) = true) (tk : TabOk P W K mg base t) (hb : BdD x x st ps n ks sel dfl.length) :
    DefB P W K mg base x (k + 1) ps n ks sel dds (dDef t N k (defScope st) fl own ps.length (defBody st)) := by
  obtain ⟨a, fd, F⟩ := c.f i hx
  exact ⟨_, fd, _, glo_ X G a, F.kp, bindGD F (map_ne hn) (by rw [show ((fxG x st dfl).dvs K).length = dfl.length from List.length_map _]; exact hb), dvsB_ok hd, def_fnv F (scB_of sc) tk⟩
theorem mkMeth (c : Says qs fx kd W K) (i : Nat) (hx : fx[i]? = some (fxM C m qual st)) (hc : qCls C K = true) (sc : scB N ps (defScope st) = true) (tk : TabOk P W K mg base t) (hb : Bd0 m qual st ps n ks sel) :
    MethB P W K mg base C m (k + 1) ps n ks sel [] (dDef t N k (defScope st) fl own ps.length (defBody st)) := by
  obtain ⟨a, fd, F⟩ := c.f i hx
  exact ⟨He.cls_ok hc, _, fd, [], He.meth_ok a, bindG0 F hb, dvs0, def_fnv F (scB_of sc) tk⟩
theorem mkMethD (c : Says qs fx kd W K) (i : Nat) (hx : fx[i]? = some (fxM C m qual st dfl)) (hd : dvsB K dfl dds = true) (hn : dfl ≠ []) (hc : qCls C K = true) (sc : scB N ps (defScope st) = true) (tk : TabOk P W K mg base t) (hb : BdD m qual st ps n ks sel dfl.length) :
    MethB P W K mg base C m (k + 1) ps n ks sel dds (dDef t N k (defScope st) fl own ps.length (defBody st)) := by
  obtain ⟨a, fd, F⟩ := c.f i hx
  exact ⟨He.cls_ok hc, _, fd, _, He.meth_ok a, bindGD F (map_ne hn) (by rw [show ((fxM C m qual st dfl).dvs K).length = dfl.length from List.length_map _]; exact hb), dvsB_ok hd, def_fnv F (scB_of sc) tk⟩
theorem mkCls (X : K.In h) (G : h.Ns mainGlobals mg) (c : Says qs fx kd W K) (i : Nat) (hx : fx[i]? = some (fxI C qual st)) (sc : scB N ps (defScope st) = true) (tk : TabOk P W K mg base t) (hb : Bd0 "__init__" qual st ps n ks sel) :
    ClsB P W K mg base C (k + 1) ps n ks sel [] (dDef t N k (defScope st) fl own ps.length (defBody st)) := by
  obtain ⟨a, fd, F⟩ := c.f i hx
  obtain ⟨a1, a2⟩ := He.ba a
  exact ⟨glo_ X G a2, _, fd, [], He.mkr_ok a1, bindG0 F hb, dvs0, def_fnv F (scB_of sc) tk⟩
theorem mkClsD (X : K.In h) (G : h.Ns mainGlobals mg) (c : Says qs fx kd W K) (i : Nat) (hx : fx[i]? = some (fxI C qual st dfl)) (hd : dvsB K dfl dds = true) (hn : dfl ≠ []) (sc : scB N ps (defScope st) = true) (tk : TabOk P W K mg base t) (hb : BdD "__init__" qual st ps n ks sel dfl.length) :
    ClsB P W K mg base C (k + 1) ps n ks sel dds (dDef t N k (defScope st) fl own ps.length (defBody st)) := by
  obtain ⟨a, fd, F⟩ := c.f i hx
  obtain ⟨a1, a2⟩ := He.ba a
  exact ⟨glo_ X G a2, _, fd, _, He.mkr_ok a1, bindGD F (map_ne hn) (by rw [show ((fxI C qual st dfl).dvs K).length = dfl.length from List.length_map _]; exact hb), dvsB_ok hd, def_fnv F (scB_of sc) tk⟩
theorem binds_of {fd : FuncData} (F : FunD K m qual (defArgs st) (defBody st) (defScope st) [] [] f fd) (hn : ps.length = n) (hb : Bd0 m qual st ps n [] (List.range n)) : Binds K fd ps [] := by
  refine F.bindsN fun kV doc pm an cdv ct us hl => ?_
  have e := hb kV doc pm an cdv ct us [] (hl.trans hn) rfl
  have e2 : pk (List.range n) (us ++ ([] ++ [])) = us := by
    have key : ∀ (ys xs : List Value), pk (List.range' xs.length ys.length) (xs ++ ys) = ys := by
      intro ys
      induction ys with
      | nil => intro xs; rfl
      | cons y ys ih =>
        intro xs
        rw [List.length_cons, List.range'_succ, pk]
        have e1 : (xs ++ y :: ys)[xs.length]? = some y := by simp
        rw [e1]
        have := ih (xs ++ [y])
        rw [List.length_append, List.append_assoc] at this
        exact congrArg (List.cons y) this
    have := key us []
    rw [List.nil_append, List.length_nil, hl, hn, ← List.range_eq_range'] at this
    rw [List.append_nil, List.append_nil]
    exact this
  rw [e2] at e
  exact e
theorem mkProp (c : Says qs fx kd W K) (i : Nat) (hx : fx[i]? = some (fxP C m qual st)) (hc : qCls C K = true) (sc : scB N ["self"] (defScope st) = true) (tk : TabOk P W K mg base t) (hb : Bd0 m qual st ["self"] 1 [] [0]) :
    PropB P W K mg base C m (k + 1) (dDef t N k (defScope st) fl own 1 (defBody st)) := by
  obtain ⟨a, fd, F⟩ := c.f i hx
  obtain ⟨a1, a⟩ := He.ba a
  obtain ⟨a2, a⟩ := He.ba a
  obtain ⟨a3, a4⟩ := He.ba a
  have hrec : ∃ rest, PySem.W.recIn K (He.ma K (He.ga K C) m) "property" = some (.ref (getter C m K) :: rest) := by
    unfold getter
    cases q : PySem.W.recIn K (He.ma K (He.ga K C) m) "property" with
    | none => rw [q] at a4; cases a4
    | some l =>
      rw [q] at a4
      cases l with
      | nil => cases a4
      | cons v r => cases v with
        | ref g => exact ⟨r, rfl⟩
        | _ => cases a4
  obtain ⟨rest, hrec⟩ := hrec
  exact ⟨He.cls_ok hc, _, _, fd, ⟨He.eqO_ok a1, He.eqO_ok a2, of_decide_eq_true a3, rest, hrec⟩, binds_of F rfl hb, def_fnv F (scB_of sc) tk⟩
theorem mkEq (c : Says qs fx kd W K) (i : Nat) (hx : fx[i]? = some (fxM C "__eq__" qual st)) (hq : qNe C K = true) (sc : scB N ["self", "other"] (defScope st) = true) (tk : TabOk P W K mg base t) (hb : Bd0 "__eq__" qual st ["self", "other"] 2 [] [0, 1])
    (rf : ∀ (a : D) (r : Bool), dDef t N k (defScope st) fl own 2 (defBody st) [] [.d a, .d a] = some (.val [] (.d (.bl r))) → r = true) :
    EqB P W K mg base C (k + 1) (dDef t N k (defScope st) fl own 2 (defBody st)) := by
  obtain ⟨a, fd, F⟩ := c.f i hx
  have M := He.meth_ok a
  obtain ⟨q1, q2⟩ := He.ba hq
  exact ⟨⟨_, fd, M.at_, M.fn, binds_of F rfl hb, def_fnv F (scB_of sc) tk⟩, He.eqO_ok q1, of_decide_eq_true q2, rf⟩
theorem mkLen (c : Says qs fx kd W K) (i : Nat) (hx : fx[i]? = some (fxM C "__len__" qual st)) (sc : scB N ["self"] (defScope st) = true) (tk : TabOk P W K mg base t) (hb : Bd0 "__len__" qual st ["self"] 1 [] [0]) :
    LenB P W K mg base C (k + 1) (dDef t N k (defScope st) fl own 1 (defBody st)) := by
  obtain ⟨a, fd, F⟩ := c.f i hx
  have M := He.meth_ok a
  exact ⟨⟨_, fd, M.at_, M.fn, binds_of F rfl hb, def_fnv F (scB_of sc) tk⟩⟩
/-! ### the table grows -/
abbrev ShpF (P : Program) (W : World) (K : PySem.W.Frag) (mg : Str → Option Value) (base : Heap) (x : Str) (l : Shp) : Prop := AllL (fun q : Nat × List Str × FnE => DefB P W K mg base x q.2.2.k q.2.2.ps q.1 q.2.1 q.2.2.sel q.2.2.dds q.2.2.m) l
abbrev ShpC (P : Program) (W : World) (K : PySem.W.Frag) (mg : Str → Option Value) (base : Heap) (x : Str) (l : Shp) : Prop := AllL (fun q : Nat × List Str × FnE => ClsB P W K mg base x q.2.2.k q.2.2.ps q.1 q.2.1 q.2.2.sel q.2.2.dds q.2.2.m) l
abbrev ShpM (P : Program) (W : World) (K : PySem.W.Frag) (mg : Str → Option Value) (base : Heap) (C m : Str) (l : Shp) : Prop := AllL (fun q : Nat × List Str × FnE => MethB P W K mg base C m q.2.2.k q.2.2.ps q.1 q.2.1 q.2.2.sel q.2.2.dds q.2.2.m) l
theorem tFn (tk : TabOk P W K mg base t) {l : Shp} (h : ShpF P W K mg base x l) : TabOk P W K mg base { t with fns := (x, l) :: t.fns } :=
  ⟨⟨h, tk.fns⟩, tk.mks, tk.mts, tk.prs, tk.fds, tk.cns, tk.bls, tk.isi, tk.eqs, tk.lns, tk.ixs, tk.kds⟩
theorem tMk (tk : TabOk P W K mg base t) {l : Shp} (h : ShpC P W K mg base x l) : TabOk P W K mg base { t with mks := (x, l) :: t.mks } :=
  ⟨tk.fns, ⟨h, tk.mks⟩, tk.mts, tk.prs, tk.fds, tk.cns, tk.bls, tk.isi, tk.eqs, tk.lns, tk.ixs, tk.kds⟩
theorem addK_all {α : Type} {P : Str → α → Prop} {a : α} (h : P x a) : ∀ {l : List (Str × List α)}, AllL (fun p : Str × List α => AllL (P p.1) p.2) l → AllL (fun p : Str × List α => AllL (P p.1) p.2) (addK x a l)
  | [], _ => ⟨⟨h, trivial⟩, trivial⟩
  | (y, l) :: r, k => by
    unfold addK
    split
    · rename_i e
      rw [← of_decide_eq_true e] at h
      exact ⟨⟨h, k.1⟩, k.2⟩
    · exact ⟨k.1, addK_all h k.2⟩
theorem tMt (tk : TabOk P W K mg base t) {l : Shp} (h : ShpM P W K mg base C m l) : TabOk P W K mg base { t with mts := addK m (C, l) t.mts } :=
  ⟨tk.fns, tk.mks, addK_all (P := fun (m : Str) (c : Str × Shp) => ShpM P W K mg base c.1 m c.2) h tk.mts, tk.prs, tk.fds, tk.cns, tk.bls, tk.isi, tk.eqs, tk.lns, tk.ixs, tk.kds⟩
theorem tPr (tk : TabOk P W K mg base t) {fn : Fn} (h : PropB P W K mg base C m k fn) : TabOk P W K mg base { t with prs := addK m (C, k, fn) t.prs } :=
  ⟨tk.fns, tk.mks, tk.mts, addK_all (P := fun (m : Str) (c : Str × Nat × Fn) => PropB P W K mg base c.1 m c.2.1 c.2.2) h tk.prs, tk.fds, tk.cns, tk.bls, tk.isi, tk.eqs, tk.lns, tk.ixs, tk.kds⟩
theorem tEq (tk : TabOk P W K mg base t) {fn : Fn} (h : EqB P W K mg base C k fn) : TabOk P W K mg base { t with eqs := (C, k, fn) :: t.eqs } :=
  ⟨tk.fns, tk.mks, tk.mts, tk.prs, tk.fds, tk.cns, tk.bls, tk.isi, fun C' q hq => by
    unfold fget at hq
    split at hq
    · rename_i e
      rw [of_decide_eq_true e] at h
      cases hq
      exact h
    · exact tk.eqs C' q hq, tk.lns, tk.ixs, tk.kds⟩
theorem tLn (tk : TabOk P W K mg base t) {fn : Fn} (h : LenB P W K mg base C k fn) : TabOk P W K mg base { t with lns := (C, k, fn) :: t.lns } :=
  ⟨tk.fns, tk.mks, tk.mts, tk.prs, tk.fds, tk.cns, tk.bls, tk.isi, tk.eqs, fun C' q hq => by
    unfold fget at hq
    split at hq
    · rename_i e
      rw [of_decide_eq_true e] at h
      cases hq
      exact h
    · exact tk.lns C' q hq, tk.ixs, tk.kds⟩
/-- the law's def -/
theorem lawFn (X : K.In h) (G : h.Ns mainGlobals mg) (c : Says qs fx kd W K) (i : Nat) {fa : Addr} (hx : fx[i]? = some (fxG x st)) (hfa : mg x = some (.ref fa)) (sc : scB N ps (defScope st) = true) (tk : ∀ base : Heap, K.In base → TabOk P W K mg base t) (hb : Bd0 x x st [m] 1 [] [0]) (hp : ps = [m]) :
    ∃ fd : FuncData, (∀ (s : Shared) (v : Value), BindsTo s fd ⟨[v], []⟩ [(m, v)]) ∧ ∀ base : Heap, K.In base → base.Ns mainGlobals mg → FnV P W K mg base (k + 1) fa fd [m] (SpF ⟨K, P, W⟩ (dDef t N k (defScope st) fl own 1 (defBody st))) := by
  subst hp
  obtain ⟨a, fd, F⟩ := c.f i hx
  have e := hfa.symm.trans (glo_ X G a)
  cases e
  refine ⟨fd, fun s v => ?_, fun base kin _ => def_fnv F (scB_of sc) (tk base kin)⟩
  obtain ⟨_, _, _, _, _, _, _, _, _, _, rfl, _, _, hD, _⟩ := F.ex
  rcases hD with ⟨_, rfl⟩ | ⟨e, _⟩
  · exact .of_eq (hb _ _ _ _ _ _ [v] [] rfl rfl)
  · exact absurd rfl e
end
end
end FH

set_option Elab.async false
set_option linter.all false
set_option maxRecDepth 100000
set_option maxHeartbeats 1000000
namespace FP
open PySem FL
def F_mixed : Fn := mkF false 6 1 (sCons (sAsgT 2 (aCons (eOp fAdd (eIx (eVar 0) (eCst (.str "turn"))) (eCst (.int 1))) (aCons (eCst (.int 0)) aNil)) (gCons (gName 1) (gCons (gName 2) gNil)))
  (sCons (sPut (eVar 0) (eCst (.str "turn")) (eVar 1))
  (sCons (sFor 6 (iItE (eLst (aCons (eCst (.int 2147483647)) (aCons (eCst (.int 2147483629)) (aCons (eCst (.int 2147483587)) (aCons (eCst (.int 2147483579)) aNil)))))) (gName 3) (sCons (sSet 4 (eOp fAdd (eOp fMul (eCst (.int 69621)) (eVar 1)) (eOp fDiv (eVar 3) (eCst (.int 23)))))
    (sCons (sFor 6 (iItE (eIx (eVar 0) (eCst (.str "cells")))) (gName 5) (sSet 4 (eOp fMod (eCb fIntB (aCons (eOp fAdd (eOp fAdd (eOp fMul (eVar 4) (eCst (.int 48271))) (eVar 5)) (eVar 1)) aNil)) (eVar 3))))
    (sSet 2 (eOp fAdd (eOp fMul (eVar 2) (eCst (.int 2147483647))) (eOp fMod (eCb fIntB (aCons (eOp fPow (eVar 4) (eCst (.int 5))) aNil)) (eVar 3)))))))
  (sRet (eVar 2)))))
def F_take : Fn := mkF false 3 2 (sCons (sIf (tVal (eOp fEq (eIx (eVar 0) (eCst (.str "rest"))) (eCst (.int 0)))) (sPut (eVar 0) (eCst (.str "rest")) (eIf (tVal (eOp fNe (eIx (eVar 0) (eCst (.str "wide"))) (eLst aNil))) (ePop (eIx (eVar 0) (eCst (.str "wide"))) (aCons (eCst (.int 0)) aNil)) (eCallG F_mixed [true] 1 0 [0] [] (aCons (eVar 0) aNil) aNil))) sNil)
  (sCons (sSet 2 (eOp fMod (eCb fIntB (aCons (eIx (eVar 0) (eCst (.str "rest"))) aNil)) (eVar 1)))
  (sCons (sPut (eVar 0) (eCst (.str "rest")) (eOp fDiv (eIx (eVar 0) (eCst (.str "rest"))) (eVar 1)))
  (sRet (eVar 2)))))

/-- a draw -/
def dr (ws : List Nat) (cs : List Int) (r : Nat) (t : Int) : OL := [.own (.k [(.str "wide", .h 1), (.str "cells", .d (.lst (cs.map D.int))), (.str "rest", .d (.int (.ofNat r))), (.str "turn", .d (.int t))]), .own (.p (.lst (ws.map fun w => D.int (.ofNat w))))]
/-! ### mixing -/
def mxB : Sv := (sSet 4 (eOp fMod (eCb fIntB (aCons (eOp fAdd (eOp fAdd (eOp fMul (eVar 4) (eCst (.int 48271))) (eVar 5)) (eVar 1)) aNil)) (eVar 3)))
def mxE (t f p b : Int) (x : Option DV) : VEnv := [some (.h 0), some (.d (.int t)), some (.d (.int f)), some (.d (.int p)), some (.d (.int b)), x, some (.h 0), some (.h 1)]
theorem fmul_r {b c : Int} (h : smB c = true) : fMul (.int b) (.int c) = some (.val (.int (b * c))) := by
  show br (smB b || smB c) _ none = _
  rw [h, Bool.or_true]; rfl
theorem eOp_val {fn : D → D → Option Res} {a b : Ev} {L L1 L2 : OL} {env : VEnv} {x y : DV} (ha : a L env = some (.val L1 x)) (hb : b L1 env = some (.val L2 y)) : eOp fn a b L env = fin L2 (app2 fn (see L2 x) (see L2 y)) := by
  unfold eOp; rw [ha]; show bnd (b L1 env) _ = _; rw [hb]; rfl
theorem aCons_val {a : Ev} {b : Ea} {L L1 L2 : OL} {env : VEnv} {x : DV} {xs : List DV} (ha : a L env = some (.val L1 x)) (hb : b L1 env = some (.val L2 xs)) : aCons a b L env = some (.val L2 (x :: xs)) := by
  unfold aCons; rw [ha]; show bnd (b L1 env) _ = _; rw [hb]; rfl
theorem eCb_val {fn : List D → Option Res} {a : Ea} {L L1 : OL} {env : VEnv} {xs : List DV} (ha : a L env = some (.val L1 xs)) : eCb fn a L env = fin L1 (obnd (sees L1 xs) fn) := by
  unfold eCb; rw [ha]; rfl
theorem sSet_val {i : Nat} {a : Ev} {L L1 : OL} {env : VEnv} {x : DV} (ha : a L env = some (.val L1 x)) : sSet i a L env = some (.nx L1 (env.set i (some x))) := by
  unfold sSet; rw [ha]; rfl
theorem mx_body {ws : List Nat} {cs0 : List Int} {r q : Nat} {t0 t f b c : Int} : mxB (dr ws cs0 r t0) (mxE t f (.ofNat (q + 1)) b (some (.d (.int c)))) = some (.nx (dr ws cs0 r t0) (mxE t f (.ofNat (q + 1)) (Int.fmod (b * 48271 + c + t) (.ofNat (q + 1))) (some (.d (.int c))))) := by
  have h1 : eOp fMul (eVar 4) (eCst (.int 48271)) (dr ws cs0 r t0) (mxE t f (.ofNat (q + 1)) b (some (.d (.int c)))) = some (.val (dr ws cs0 r t0) (.d (.int (b * 48271)))) := by
    refine (eOp_val (L1 := dr ws cs0 r t0) (L2 := dr ws cs0 r t0) (x := .d (.int b)) (y := .d (.int 48271)) (by kernel_rfl) (by kernel_rfl)).trans ?_
    show fin _ (fMul (.int b) (.int 48271)) = _
    rw [fmul_r (by decide)]; rfl
  have h2 := (eOp_val (fn := fAdd) (b := eVar 5) (L2 := dr ws cs0 r t0) (y := .d (.int c)) h1 (by kernel_rfl)).trans (show _ = some (.val (dr ws cs0 r t0) (.d (.int (b * 48271 + c)))) by kernel_rfl)
  have h3 := (eOp_val (fn := fAdd) (b := eVar 1) (L2 := dr ws cs0 r t0) (y := .d (.int t)) h2 (by kernel_rfl)).trans (show _ = some (.val (dr ws cs0 r t0) (.d (.int (b * 48271 + c + t)))) by kernel_rfl)
  have h4 := (eCb_val (fn := fIntB) (aCons_val (b := aNil) (L2 := dr ws cs0 r t0) (xs := []) h3 (by kernel_rfl))).trans (show _ = some (.val (dr ws cs0 r t0) (.d (.int (b * 48271 + c + t)))) by kernel_rfl)
  have h5 := (eOp_val (fn := fMod) (b := eVar 3) (L2 := dr ws cs0 r t0) (y := .d (.int (.ofNat (q + 1)))) h4 (by kernel_rfl)).trans (show _ = some (.val (dr ws cs0 r t0) (.d (.int (Int.fmod (b * 48271 + c + t) (.ofNat (q + 1)))))) by kernel_rfl)
  exact (sSet_val h5).trans (by kernel_rfl)
theorem forS_nx {n : Nat} {g : Gv} {body : Sv} {x : D} {xs : List D} {L L1 L2 : OL} {env e1 e2 e3 : VEnv} (hg : g L (.d x) env = some e1) (hb : body L e1 = some (.nx L1 e2)) (h1 : cmL n L1 e2 = L2) (h2 : cmE n L1 e2 = e3) : forS n g body (x :: xs) L env = forS n g body xs L2 e3 := by
  subst h1 h2
  show (match g L (.d x) env with
    | some e1 => _
    | none => _) = _
  rw [hg]
  show (match body L e1 with
    | some (.nx L e) => forS n g body xs (cmL n L e) (cmE n L e)
    | some (.ct L e) => forS n g body xs (cmL n L e) (cmE n L e)
    | some (.bk L e) => some (.nx L e)
    | o => o) = _
  rw [hb]
theorem mx_step {ws : List Nat} {cs0 : List Int} {r q : Nat} {t0 t f b c : Int} {x : Option D} {cs : List D} : forS 6 (gName 5) mxB (.int c :: cs) (dr ws cs0 r t0) (mxE t f (.ofNat (q + 1)) b (x.map DV.d)) = forS 6 (gName 5) mxB cs (dr ws cs0 r t0) (mxE t f (.ofNat (q + 1)) (Int.fmod (b * 48271 + c + t) (.ofNat (q + 1))) (some (.d (.int c)))) :=
  forS_nx (e1 := mxE t f (.ofNat (q + 1)) b (some (.d (.int c)))) (by kernel_rfl) mx_body (by kernel_rfl) (by kernel_rfl)
theorem mx_in {ws : List Nat} {cs0 : List Int} {r q : Nat} {t0 t f : Int} : ∀ (cs : List Int) (b : Int) (x : Option D), ∃ b' x', forS 6 (gName 5) mxB (cs.map D.int) (dr ws cs0 r t0) (mxE t f (.ofNat (q + 1)) b (x.map DV.d)) = some (.nx (dr ws cs0 r t0) (mxE t f (.ofNat (q + 1)) b' (Option.map DV.d x'))) ∧ (b' = b ∨ ∃ y, b' = Int.fmod y (.ofNat (q + 1)))
  | [], b, x => ⟨b, x, rfl, .inl rfl⟩
  | c :: cs, b, x => by
    obtain ⟨b', x', h1, h2⟩ := mx_in (ws := ws) (cs0 := cs0) (r := r) (q := q) (t0 := t0) (t := t) (f := f) cs (Int.fmod (b * 48271 + c + t) (.ofNat (q + 1))) (some (.int c))
    refine ⟨b', x', (mx_step (x := x)).trans h1, .inr ?_⟩
    rcases h2 with h2 | h2
    · exact ⟨_, h2⟩
    · exact h2
theorem sCons_nx {a b : Sv} {L L1 : OL} {env e1 : VEnv} (h : a L env = some (.nx L1 e1)) : sCons a b L env = b L1 e1 := by unfold sCons; rw [h]; rfl
def mxG (t f : Int) (p b x : Option D) : VEnv := [some (.h 0), some (.d (.int t)), some (.d (.int f)), p.map DV.d, b.map DV.d, x.map DV.d, some (.h 0), some (.h 1)]
def mxO : Sv := (sCons (sSet 4 (eOp fAdd (eOp fMul (eCst (.int 69621)) (eVar 1)) (eOp fDiv (eVar 3) (eCst (.int 23)))))
    (sCons (sFor 6 (iItE (eIx (eVar 0) (eCst (.str "cells")))) (gName 5) mxB)
    (sSet 2 (eOp fAdd (eOp fMul (eVar 2) (eCst (.int 2147483647))) (eOp fMod (eCb fIntB (aCons (eOp fPow (eVar 4) (eCst (.int 5))) aNil)) (eVar 3))))))
theorem fpow5 {b : Int} (h : b.natAbs < 18446744073709551616) : fPow (.int b) (.int 5) = some (.val (.int (b ^ 5))) := by
  show br (decide ((0 : Int) ≤ 5) && (decide ((5 : Int) ≤ 1000000) && Nat.blt b.natAbs 18446744073709551616)) _ none = _
  have : Nat.blt b.natAbs 18446744073709551616 = true := by simpa [Nat.blt_eq] using h
  rw [this]; rfl
theorem mx_last {ws : List Nat} {cs0 : List Int} {r q : Nat} {t0 t f b : Int} {x : Option D} (hb : b.natAbs < 18446744073709551616) : (sSet 2 (eOp fAdd (eOp fMul (eVar 2) (eCst (.int 2147483647))) (eOp fMod (eCb fIntB (aCons (eOp fPow (eVar 4) (eCst (.int 5))) aNil)) (eVar 3)))) (dr ws cs0 r t0) (mxE t f (.ofNat (q + 1)) b (x.map DV.d)) = some (.nx (dr ws cs0 r t0) (mxE t (f * 2147483647 + Int.fmod (b ^ 5) (.ofNat (q + 1))) (.ofNat (q + 1)) b (x.map DV.d))) := by
  have h1 : eOp fMul (eVar 2) (eCst (.int 2147483647)) (dr ws cs0 r t0) (mxE t f (.ofNat (q + 1)) b (x.map DV.d)) = some (.val (dr ws cs0 r t0) (.d (.int (f * 2147483647)))) := by
    refine (eOp_val (L1 := dr ws cs0 r t0) (L2 := dr ws cs0 r t0) (x := .d (.int f)) (y := .d (.int 2147483647)) (by kernel_rfl) (by kernel_rfl)).trans ?_
    show fin _ (fMul (.int f) (.int 2147483647)) = _
    rw [fmul_r (by decide)]; rfl
  have h2 : eOp fPow (eVar 4) (eCst (.int 5)) (dr ws cs0 r t0) (mxE t f (.ofNat (q + 1)) b (x.map DV.d)) = some (.val (dr ws cs0 r t0) (.d (.int (b ^ 5)))) := by
    refine (eOp_val (L1 := dr ws cs0 r t0) (L2 := dr ws cs0 r t0) (x := .d (.int b)) (y := .d (.int 5)) (by kernel_rfl) (by kernel_rfl)).trans ?_
    show fin _ (fPow (.int b) (.int 5)) = _
    rw [fpow5 hb]; rfl
  have h3 := (eCb_val (fn := fIntB) (aCons_val (b := aNil) (L2 := dr ws cs0 r t0) (xs := []) h2 (by kernel_rfl))).trans (show _ = some (.val (dr ws cs0 r t0) (.d (.int (b ^ 5)))) by kernel_rfl)
  have h4 := (eOp_val (fn := fMod) (b := eVar 3) (L2 := dr ws cs0 r t0) (y := .d (.int (.ofNat (q + 1)))) h3 (by kernel_rfl)).trans (show _ = some (.val (dr ws cs0 r t0) (.d (.int (Int.fmod (b ^ 5) (.ofNat (q + 1)))))) by kernel_rfl)
  have h5 := (eOp_val (fn := fAdd) h1 h4).trans (show _ = some (.val (dr ws cs0 r t0) (.d (.int (f * 2147483647 + Int.fmod (b ^ 5) (.ofNat (q + 1)))))) by kernel_rfl)
  exact (sSet_val h5).trans (by kernel_rfl)
theorem mx_out {ws : List Nat} {cs : List Int} {r q t f : Nat} {t0 : Int} {p b x : Option D} (ht : t ≤ 1099511627776) (hq : q < 4294967296) {ps : List D} :
    ∃ (f' : Nat) (b' x' : Option D), forS 6 (gName 3) mxO (.int (.ofNat (q + 1)) :: ps) (dr ws cs r t0) (mxG (.ofNat t) (.ofNat f) p b x) = forS 6 (gName 3) mxO ps (dr ws cs r t0) (mxG (.ofNat t) (.ofNat f') (some (.int (.ofNat (q + 1)))) b' x') := by
  have b0 : Int := 69621 * .ofNat t + Int.fdiv (.ofNat (q + 1)) 23
  obtain ⟨b', x', h1, h2⟩ := mx_in (ws := ws) (cs0 := cs) (r := r) (q := q) (t0 := t0) (t := .ofNat t) (f := .ofNat f) cs (69621 * .ofNat t + Int.fdiv (.ofNat (q + 1)) 23) x
  have hb : b'.natAbs < 18446744073709551616 := by
    rcases h2 with h2 | ⟨y, h2⟩
    · have e1 : Int.fdiv (.ofNat (q + 1)) 23 = ((q + 1) / 23 : Nat) := by
        rw [show (Int.ofNat (q + 1)) = ((q + 1 : Nat) : Int) from rfl]
        simp [Int.fdiv_eq_ediv_of_nonneg]
      rw [h2, e1]
      have : (69621 * Int.ofNat t + (((q + 1) / 23 : Nat) : Int)) = ((69621 * t + (q + 1) / 23 : Nat) : Int) := by
        rw [show Int.ofNat t = (t : Int) from rfl]; omega
      rw [this, Int.natAbs_natCast]
      omega
    · have l1 : 0 ≤ Int.fmod y (.ofNat (q + 1)) := Int.fmod_nonneg_of_pos y (by rw [show (Int.ofNat (q + 1)) = ((q + 1 : Nat) : Int) from rfl]; omega)
      have l2 : Int.fmod y (.ofNat (q + 1)) < .ofNat (q + 1) := Int.fmod_lt_of_pos y (by rw [show (Int.ofNat (q + 1)) = ((q + 1 : Nat) : Int) from rfl]; omega)
      rw [show (Int.ofNat (q + 1)) = ((q + 1 : Nat) : Int) from rfl] at l1 l2 h2
      rw [h2]
      omega
  have l1 : 0 ≤ Int.fmod (b' ^ 5) (.ofNat (q + 1)) := Int.fmod_nonneg_of_pos _ (by rw [show (Int.ofNat (q + 1)) = ((q + 1 : Nat) : Int) from rfl]; omega)
  obtain ⟨g, hg⟩ := Int.eq_ofNat_of_zero_le l1
  have e2 : (Int.ofNat f * 2147483647 + Int.fmod (b' ^ 5) (.ofNat (q + 1))) = Int.ofNat (f * 2147483647 + g) := by
    rw [hg]
    show (f : Int) * 2147483647 + (g : Int) = ((f * 2147483647 + g : Nat) : Int)
    omega
  refine ⟨f * 2147483647 + g, some (.int b'), x', forS_nx (L1 := dr ws cs r t0) (e1 := mxG (.ofNat t) (.ofNat f) (some (.int (.ofNat (q + 1)))) b x) (e2 := mxE (.ofNat t) (.ofNat (f * 2147483647 + g)) (.ofNat (q + 1)) b' (x'.map DV.d)) (by kernel_rfl) ?_ (by cases x' <;> kernel_rfl) (by cases x' <;> kernel_rfl)⟩
  unfold mxO
  refine (sCons_nx (L1 := dr ws cs r t0) (e1 := mxE (.ofNat t) (.ofNat f) (.ofNat (q + 1)) (69621 * .ofNat t + Int.fdiv (.ofNat (q + 1)) 23) (x.map DV.d)) (by kernel_rfl)).trans ?_
  refine (sCons_nx (L1 := dr ws cs r t0) (e1 := mxE (.ofNat t) (.ofNat f) (.ofNat (q + 1)) b' (x'.map DV.d)) ?_).trans ?_
  · refine Eq.trans ?_ h1
    cases x <;> kernel_rfl
  · rw [← e2]
    exact mx_last hb
/-- mixing -/
theorem mixed_ok {ws : List Nat} {cs : List Int} {r t : Nat} (ht : t < 1099511627776) : ∃ v : Nat, F_mixed (dr ws cs r (.ofNat t)) [.h 0] = some (.val (dr ws cs r (.ofNat (t + 1))) (.d (.int (.ofNat v)))) := by
  obtain ⟨f1, b1, x1, h1⟩ := mx_out (ws := ws) (cs := cs) (r := r) (t0 := .ofNat (t + 1)) (q := 2147483646) (t := t + 1) (f := 0) (p := none) (b := none) (x := none) (by omega) (by decide) (ps := [.int 2147483629, .int 2147483587, .int 2147483579])
  obtain ⟨f2, b2, x2, h2⟩ := mx_out (ws := ws) (cs := cs) (r := r) (t0 := .ofNat (t + 1)) (q := 2147483628) (t := t + 1) (f := f1) (p := some (.int (.ofNat (2147483646 + 1)))) (b := b1) (x := x1) (by omega) (by decide) (ps := [.int 2147483587, .int 2147483579])
  obtain ⟨f3, b3, x3, h3⟩ := mx_out (ws := ws) (cs := cs) (r := r) (t0 := .ofNat (t + 1)) (q := 2147483586) (t := t + 1) (f := f2) (p := some (.int (.ofNat (2147483628 + 1)))) (b := b2) (x := x2) (by omega) (by decide) (ps := [.int 2147483579])
  obtain ⟨f4, b4, x4, h4⟩ := mx_out (ws := ws) (cs := cs) (r := r) (t0 := .ofNat (t + 1)) (q := 2147483578) (t := t + 1) (f := f3) (p := some (.int (.ofNat (2147483586 + 1)))) (b := b3) (x := x3) (by omega) (by decide) (ps := [])
  refine ⟨f4, ?_⟩
  have e : forS 6 (gName 3) mxO [.int 2147483647, .int 2147483629, .int 2147483587, .int 2147483579] (dr ws cs r (.ofNat (t + 1))) (mxG (.ofNat (t + 1)) 0 none none none) = some (.nx (dr ws cs r (.ofNat (t + 1))) (mxG (.ofNat (t + 1)) (.ofNat f4) (some (.int (.ofNat (2147483578 + 1)))) b4 x4)) :=
    h1.trans (h2.trans (h3.trans (h4.trans (by kernel_rfl))))
  have e2 : F_mixed (dr ws cs r (.ofNat t)) [.h 0] = endF false 6 (sq (forS 6 (gName 3) mxO [.int 2147483647, .int 2147483629, .int 2147483587, .int 2147483579] (dr ws cs r (.ofNat (t + 1))) (mxG (.ofNat (t + 1)) 0 none none none)) (sRet (eVar 2))) := by kernel_rfl
  rw [e2, e]
  cases b4 <;> cases x4 <;> kernel_rfl
end FP

set_option Elab.async false
set_option linter.all false
set_option maxRecDepth 100000
set_option maxHeartbeats 200000
namespace FP
open PySem FL
abbrev nt (ws : List Nat) : List D := ws.map fun w => D.int (.ofNat w)
theorem pls_nt : ∀ ws : List Nat, pls (nt ws) = true
  | [] => rfl
  | w :: ws => by show (true && pls (nt ws)) = true; rw [pls_nt ws]; rfl
theorem dep_nt : ∀ ws : List Nat, PyData.depthAll (pys (nt ws)) = 0
  | [] => by simp [pys, PyData.depthAll]
  | w :: ws => by
    show PyData.depthAll (PyData.int (.ofNat w) :: pys (nt ws)) = 0
    rw [PyData.depthAll, dep_nt ws]
    simp [PyData.depth]
theorem fne_nt (w : Nat) (ws : List Nat) : fNe (.lst (nt (w :: ws))) (.lst []) = some (.val (.bl true)) := by
  have h1 : plB (.lst (nt (w :: ws))) (.lst []) = true := by
    unfold plB
    rw [show pl (.lst (nt (w :: ws))) = pls (nt (w :: ws)) by rw [pl], pls_nt]
    have : (py (.lst (nt (w :: ws)))).depth ≤ 50 := by
      rw [py, PyData.depth, dep_nt]; decide
    rw [Nat.ble_eq_true_of_le this]; rfl
  have h2 : eqD (.lst (nt (w :: ws))) (.lst []) = false := by
    unfold eqD
    rw [py, py]
    show PyData.eqv (.list (PyData.int (.ofNat w) :: pys (nt ws))) (.list []) = false
    simp [PyData.eqv, PyData.eqvAll]
  show (match (br (plB (.lst (nt (w :: ws))) (.lst [])) (some (eqD (.lst (nt (w :: ws))) (.lst []))) none : Option Bool) with
    | some r => some (Res.val (.bl (!r)))
    | none => none) = _
  rw [h1, h2]; rfl
theorem fdiv_r {i : Int} {n : Nat} (h : n + 1 < 1073741824) : fDiv (.int i) (.int (.ofNat (n + 1))) = some (.val (.int (Int.fdiv i (.ofNat (n + 1))))) := by
  show br (decide ((0 : Int) < .ofNat (n + 1)) && decide ((Int.ofNat (n + 1)) < 1073741824)) _ none = _
  have h1 : (0 : Int) < .ofNat (n + 1) := by rw [show (Int.ofNat (n + 1)) = ((n + 1 : Nat) : Int) from rfl]; omega
  have h2 : (Int.ofNat (n + 1)) < 1073741824 := by rw [show (Int.ofNat (n + 1)) = ((n + 1 : Nat) : Int) from rfl]; omega
  rw [decide_eq_true h1, decide_eq_true h2]; rfl
def tkE (n : Nat) (v : Option D) : VEnv := [some (.h 0), some (.d (.int (.ofNat (n + 1)))), v.map DV.d, some (.h 0), some (.h 1)]
def tkT : Sv := (sCons (sSet 2 (eOp fMod (eCb fIntB (aCons (eIx (eVar 0) (eCst (.str "rest"))) aNil)) (eVar 1)))
  (sCons (sPut (eVar 0) (eCst (.str "rest")) (eOp fDiv (eIx (eVar 0) (eCst (.str "rest"))) (eVar 1)))
  (sRet (eVar 2))))
def tkI : Sv := (sIf (tVal (eOp fEq (eIx (eVar 0) (eCst (.str "rest"))) (eCst (.int 0)))) (sPut (eVar 0) (eCst (.str "rest")) (eIf (tVal (eOp fNe (eIx (eVar 0) (eCst (.str "wide"))) (eLst aNil))) (ePop (eIx (eVar 0) (eCst (.str "wide"))) (aCons (eCst (.int 0)) aNil)) (eCallG F_mixed [true] 1 0 [0] [] (aCons (eVar 0) aNil) aNil))) sNil)
theorem sPut_val {a b c : Ev} {L L1 : OL} {env : VEnv} {z : DV} (hc : c L env = some (.val L1 z)) : sPut a b c L env = sb env (a L1 env) fun L2 x => sb env (b L2 env) fun L3 y => sb env (opt L3 (dputV L3 x (see L3 y) z)) fun _ L4 => some (.nx L4 env) := by
  unfold sPut; rw [hc]; rfl
theorem tk_tail {ws : List Nat} {cs : List Int} {r t n : Nat} {M : OL} (hn : n + 1 < 1073741824) : tkT (dr ws cs r (.ofNat t) ++ M) (tkE n none) = some (.rt (dr ws cs (r / (n + 1)) (.ofNat t) ++ M) (.d (.int (.ofNat (r % (n + 1))))) (tkE n (some (.int (.ofNat (r % (n + 1))))))) := by
  have em : Int.fmod (.ofNat r) (.ofNat (n + 1)) = .ofNat (r % (n + 1)) := by
    rw [show Int.ofNat r = (r : Int) from rfl, show (Int.ofNat (n + 1)) = ((n + 1 : Nat) : Int) from rfl, Int.fmod_eq_emod_of_nonneg _ (by omega)]
    rfl
  have ed : Int.fdiv (.ofNat r) (.ofNat (n + 1)) = .ofNat (r / (n + 1)) := by
    rw [show Int.ofNat r = (r : Int) from rfl, show (Int.ofNat (n + 1)) = ((n + 1 : Nat) : Int) from rfl, Int.fdiv_eq_ediv_of_nonneg _ (by omega)]
    rfl
  unfold tkT
  refine (sCons_nx (L1 := dr ws cs r (.ofNat t) ++ M) (e1 := tkE n (some (.int (Int.fmod (.ofNat r) (.ofNat (n + 1)))))) (by kernel_rfl)).trans ?_
  rw [em]
  have h1 : eOp fDiv (eIx (eVar 0) (eCst (.str "rest"))) (eVar 1) (dr ws cs r (.ofNat t) ++ M) (tkE n (some (.int (.ofNat (r % (n + 1)))))) = some (.val (dr ws cs r (.ofNat t) ++ M) (.d (.int (.ofNat (r / (n + 1)))))) := by
    refine (eOp_val (L1 := dr ws cs r (.ofNat t) ++ M) (L2 := dr ws cs r (.ofNat t) ++ M) (x := .d (.int (.ofNat r))) (y := .d (.int (.ofNat (n + 1)))) (by kernel_rfl) (by kernel_rfl)).trans ?_
    show fin _ (fDiv (.int (.ofNat r)) (.int (.ofNat (n + 1)))) = _
    rw [fdiv_r hn, ed]; rfl
  refine (sCons_nx (L1 := dr ws cs (r / (n + 1)) (.ofNat t) ++ M) (e1 := tkE n (some (.int (.ofNat (r % (n + 1)))))) ((sPut_val h1).trans (by kernel_rfl))).trans (by kernel_rfl)
theorem eIf_t {c : Et} {a b : Ev} {L L1 : OL} {env : VEnv} (h : c L env = some (.val L1 true)) : eIf c a b L env = a L1 env := by unfold eIf; rw [h]; rfl
theorem eIf_f {c : Et} {a b : Ev} {L L1 : OL} {env : VEnv} (h : c L env = some (.val L1 false)) : eIf c a b L env = b L1 env := by unfold eIf; rw [h]; rfl
theorem sIf_t {c : Et} {a b : Sv} {L L1 : OL} {env : VEnv} (h : c L env = some (.val L1 true)) : sIf c a b L env = a L1 env := by unfold sIf; rw [h]; rfl
theorem sIf_f {c : Et} {a b : Sv} {L L1 : OL} {env : VEnv} (h : c L env = some (.val L1 false)) : sIf c a b L env = b L1 env := by unfold sIf; rw [h]; rfl
theorem eCallG_val {m : Fn} {bs : List Bool} {n k : Nat} {sel : List Nat} {dds : List D} {as ka : Ea} {L L1 : OL} {env : VEnv} {a : List DV × List DV} {zs : List DV} {r : Mo DV} (h1 : aGo as ka L env = some (.val L1 a)) (h2 : ord n k sel dds [] a = some zs) (h3 : callM m bs L1 zs = r) : eCallG m bs n k sel dds as ka L env = r := by
  unfold eCallG; rw [h1]
  show bnd (opt L1 (ord n k sel dds [] a)) _ = _
  rw [h2]; exact h3
/-- a def that is lent the draw alone -/
theorem call_dr {m : Fn} {ws ws' : List Nat} {cs : List Int} {r r' : Nat} {t t' : Int} {M : OL} {d : D} (h : m (dr ws cs r t) [.h 0] = some (.val (dr ws' cs r' t') (.d d))) : callM m [true] (dr ws cs r t ++ M) [.h 0] = some (.val (dr ws' cs r' t' ++ M ++ []) (.d d)) := by
  have e : callM m [true] (dr ws cs r t ++ M) [.h 0] = (match m (dr ws cs r t) [.h 0] with
    | some (.val L' x) => br (Nat.ble 2 L'.length) (some (.val (mrg [0, 1] (dr ws cs r t ++ M) L') (muV [0, 1] (dr ws cs r t ++ M).length x))) none
    | some (.exc L' x) => br (Nat.ble 2 L'.length) (some (.exc (mrg [0, 1] (dr ws cs r t ++ M) L') x)) none
    | none => none : Mo DV) := by kernel_rfl
  rw [e, h]
  kernel_rfl
theorem pop_nt {w : Nat} {ws : List Nat} : popAt (nt (w :: ws)) 0 = some (.int (.ofNat w), nt ws) := by
  have h : L2.ixN (nt (w :: ws)).length 0 = some 0 := by
    have l : (nt (w :: ws)).length = ws.length + 1 := by simp [nt]
    unfold L2.ixN
    rw [l, if_pos (by decide), if_pos (by omega)]; rfl
  unfold popAt
  rw [h]; rfl
theorem tk_if {ws : List Nat} {cs : List Int} {r t n : Nat} (ht : t < 1099511627776) (hw : ws.length ≤ 1000) : ∃ (ws' : List Nat) (r' t' : Nat) (M : OL), tkI (dr ws cs r (.ofNat t)) (tkE n none) = some (.nx (dr ws' cs r' (.ofNat t') ++ M) (tkE n none)) ∧ t' ≤ t + 1 ∧ ws'.length ≤ ws.length := by
  cases r with
  | succ k => exact ⟨ws, k + 1, t, [], (by kernel_rfl), by omega, Nat.le_refl _⟩
  | zero =>
    cases ws with
    | nil =>
      obtain ⟨v, hv⟩ := mixed_ok (ws := []) (cs := cs) (r := 0) ht
      refine ⟨[], v, t + 1, [.own (.p (.lst []))], ?_, Nat.le_refl _, Nat.le_refl _⟩
      have hc : eIf (tVal (eOp fNe (eIx (eVar 0) (eCst (.str "wide"))) (eLst aNil))) (ePop (eIx (eVar 0) (eCst (.str "wide"))) (aCons (eCst (.int 0)) aNil)) (eCallG F_mixed [true] 1 0 [0] [] (aCons (eVar 0) aNil) aNil) (dr [] cs 0 (.ofNat t)) (tkE n none) = some (.val (dr [] cs 0 (.ofNat (t + 1)) ++ [.own (.p (.lst []))]) (.d (.int (.ofNat v)))) := by
        refine (eIf_f (L1 := dr [] cs 0 (.ofNat t) ++ [.own (.p (.lst []))]) (by kernel_rfl)).trans ?_
        have q := call_dr (M := [.own (.p (.lst []))]) hv
        rw [List.append_nil] at q
        have h1 : aGo (aCons (eVar 0) aNil) aNil (dr [] cs 0 (.ofNat t) ++ [.own (.p (.lst []))]) (tkE n none) = some (.val (dr [] cs 0 (.ofNat t) ++ [.own (.p (.lst []))]) ([.h 0], [])) := by kernel_rfl
        have h2 : ord 1 0 [0] [] [] ([.h 0], []) = some [.h 0] := by kernel_rfl
        have h3 := eCallG_val h1 h2 q
        exact h3
      unfold tkI
      refine (sIf_t (L1 := dr [] cs 0 (.ofNat t)) (by kernel_rfl)).trans ?_
      exact (sPut_val hc).trans (by kernel_rfl)
    | cons w ws =>
      refine ⟨ws, w, t, [.own (.p (.lst []))], ?_, by omega, by simp⟩
      have ht : tVal (eOp fNe (eIx (eVar 0) (eCst (.str "wide"))) (eLst aNil)) (dr (w :: ws) cs 0 (.ofNat t)) (tkE n none) = some (.val (dr (w :: ws) cs 0 (.ofNat t) ++ [.own (.p (.lst []))]) true) := by
        have h1 := eOp_val (fn := fNe) (a := eIx (eVar 0) (eCst (.str "wide"))) (b := eLst aNil) (L := dr (w :: ws) cs 0 (.ofNat t)) (env := tkE n none) (L1 := dr (w :: ws) cs 0 (.ofNat t)) (L2 := dr (w :: ws) cs 0 (.ofNat t) ++ [.own (.p (.lst []))]) (x := .h 1) (y := .h 2) (by kernel_rfl) (by kernel_rfl)
        have h2 : fin (dr (w :: ws) cs 0 (.ofNat t) ++ [.own (.p (.lst []))]) (app2 fNe (see (dr (w :: ws) cs 0 (.ofNat t) ++ [.own (.p (.lst []))]) (.h 1)) (see (dr (w :: ws) cs 0 (.ofNat t) ++ [.own (.p (.lst []))]) (.h 2))) = some (.val (dr (w :: ws) cs 0 (.ofNat t) ++ [.own (.p (.lst []))]) (.d (.bl true))) := by
          show fin _ (fNe (.lst (nt (w :: ws))) (.lst [])) = _
          rw [fne_nt]; rfl
        unfold tVal
        rw [h1, h2]; rfl
      have hp : ePop (eIx (eVar 0) (eCst (.str "wide"))) (aCons (eCst (.int 0)) aNil) (dr (w :: ws) cs 0 (.ofNat t) ++ [.own (.p (.lst []))]) (tkE n none) = some (.val (dr ws cs 0 (.ofNat t) ++ [.own (.p (.lst []))]) (.d (.int (.ofNat w)))) := by
        have e : ePop (eIx (eVar 0) (eCst (.str "wide"))) (aCons (eCst (.int 0)) aNil) (dr (w :: ws) cs 0 (.ofNat t) ++ [.own (.p (.lst []))]) (tkE n none) = bnd (opt (dr (w :: ws) cs 0 (.ofNat t) ++ [.own (.p (.lst []))]) (popAt (nt (w :: ws)) 0)) fun L2 z => br (szB (nt (w :: ws)).length) (some (.val (L2.set 1 (.own (.p (.lst z.2)))) (.d z.1))) none := by kernel_rfl
        rw [e, pop_nt]
        show br (szB (nt (w :: ws)).length) _ none = _
        have : szB (nt (w :: ws)).length = true := by
          rw [List.length_map]
          exact Nat.ble_eq_true_of_le (by omega)
        rw [this]; rfl
      have hc := (eIf_t (b := eCallG F_mixed [true] 1 0 [0] [] (aCons (eVar 0) aNil) aNil) ht).trans hp
      unfold tkI
      refine (sIf_t (L1 := dr (w :: ws) cs 0 (.ofNat t)) (by kernel_rfl)).trans ?_
      exact (sPut_val hc).trans (by kernel_rfl)
/-- a number taken of the draw -/
theorem take_ok {ws : List Nat} {cs : List Int} {r t n : Nat} (hn : n + 1 < 1073741824) (ht : t < 1099511627776) (hw : ws.length ≤ 1000) : ∃ (ws' : List Nat) (r' t' v : Nat), F_take (dr ws cs r (.ofNat t)) [.h 0, .d (.int (.ofNat (n + 1)))] = some (.val (dr ws' cs r' (.ofNat t')) (.d (.int (.ofNat v)))) ∧ v < n + 1 ∧ t' ≤ t + 1 ∧ ws'.length ≤ ws.length := by
  obtain ⟨ws', r', t', M, h, h1, h2⟩ := tk_if (cs := cs) (r := r) (n := n) ht hw
  refine ⟨ws', r' / (n + 1), t', r' % (n + 1), ?_, Nat.mod_lt _ (Nat.succ_pos n), h1, h2⟩
  have e : F_take (dr ws cs r (.ofNat t)) [.h 0, .d (.int (.ofNat (n + 1)))] = endF false 3 (sq (tkI (dr ws cs r (.ofNat t)) (tkE n none)) tkT) := by kernel_rfl
  rw [e, h]
  show endF false 3 (tkT (dr ws' cs r' (.ofNat t') ++ M) (tkE n none)) = _
  rw [tk_tail hn]
  kernel_rfl
end FP

set_option Elab.async false
set_option linter.all false
set_option maxRecDepth 100000
set_option maxHeartbeats 400000
namespace FP
open PySem FL
/-- a def that is lent the draw, and gets a plain value -/
theorem call_dr2 {m : Fn} {ws ws' : List Nat} {cs : List Int} {r r' : Nat} {t t' : Int} {M : OL} {a d : D} (h : m (dr ws cs r t) [.h 0, .d a] = some (.val (dr ws' cs r' t') (.d d))) : callM m [true, false] (dr ws cs r t ++ M) [.h 0, .d a] = some (.val (dr ws' cs r' t' ++ M) (.d d)) := by
  have e : callM m [true, false] (dr ws cs r t ++ M) [.h 0, .d a] = (match m (dr ws cs r t) [.h 0, .d a] with
    | some (.val L' x) => br (Nat.ble 2 L'.length) (some (.val (mrg [0, 1] (dr ws cs r t ++ M) L') (muV [0, 1] (dr ws cs r t ++ M).length x))) none
    | some (.exc L' x) => br (Nat.ble 2 L'.length) (some (.exc (mrg [0, 1] (dr ws cs r t ++ M) L') x)) none
    | none => none : Mo DV) := by kernel_rfl
  rw [e, h]
  have q : (some (.val (dr ws' cs r' t' ++ M ++ []) (.d d)) : Mo DV) = some (.val (dr ws' cs r' t' ++ M) (.d d)) := by rw [List.append_nil]
  exact Eq.trans (by kernel_rfl) q
theorem take_call {ws : List Nat} {cs : List Int} {r t n : Nat} {M : OL} (hn : n + 1 < 1073741824) (ht : t < 1099511627776) (hw : ws.length ≤ 1000) : ∃ (ws' : List Nat) (r' t' v : Nat), callM F_take [true, false] (dr ws cs r (.ofNat t) ++ M) [.h 0, .d (.int (.ofNat (n + 1)))] = some (.val (dr ws' cs r' (.ofNat t') ++ M) (.d (.int (.ofNat v)))) ∧ v < n + 1 ∧ t' ≤ t + 1 ∧ ws'.length ≤ ws.length := by
  obtain ⟨ws', r', t', v, h, h1, h2, h3⟩ := take_ok (cs := cs) (r := r) hn ht hw
  exact ⟨ws', r', t', v, call_dr2 h, h1, h2, h3⟩
/-! ### picking -/
def F_pick : Fn := mkF false 2 2 (sRet (eIx (eVar 1) (eCallG F_take [true, false] 2 0 [0, 1] [] (aCons (eVar 0) (aCons (eCb fLen (aCons (eVar 1) aNil)) aNil)) aNil)))
theorem sRet_val {a : Ev} {L L1 : OL} {env : VEnv} {x : DV} (h : a L env = some (.val L1 x)) : sRet a L env = some (.rt L1 x env) := by unfold sRet; rw [h]; rfl
theorem eIx_val {a b : Ev} {L L1 L2 : OL} {env : VEnv} {x y : DV} (ha : a L env = some (.val L1 x)) (hb : b L1 env = some (.val L2 y)) : eIx a b L env = opt L2 (ixV L2 x (see L2 y)) := by
  unfold eIx; rw [ha]; show bnd (b L1 env) _ = _; rw [hb]; rfl
/-- picking of a list as data -/
theorem pick_ok {ws : List Nat} {cs : List Int} {r t : Nat} {d0 : D} {ds : List D} (hl : ds.length < 1000) (ht : t < 1099511627776) (hw : ws.length ≤ 1000) : ∃ (ws' : List Nat) (r' t' : Nat) (d : D), F_pick (dr ws cs r (.ofNat t)) [.h 0, .d (.lst (d0 :: ds))] = some (.val (dr ws' cs r' (.ofNat t')) (.d d)) ∧ d ∈ d0 :: ds ∧ t' ≤ t + 1 ∧ ws'.length ≤ ws.length := by
  obtain ⟨ws', r', t', v, h, h1, h2, h3⟩ := take_call (cs := cs) (r := r) (n := ds.length) (M := []) (by omega) ht hw
  have hv : v < (d0 :: ds).length := h1
  refine ⟨ws', r', t', (d0 :: ds)[v], ?_, List.getElem_mem hv, h2, h3⟩
  let env : VEnv := [some (.h 0), some (.d (.lst (d0 :: ds))), some (.h 0), some (.h 1)]
  have c1 : aGo (aCons (eVar 0) (aCons (eCb fLen (aCons (eVar 1) aNil)) aNil)) aNil (dr ws cs r (.ofNat t)) env = some (.val (dr ws cs r (.ofNat t)) ([.h 0, .d (.int (.ofNat (ds.length + 1)))], [])) := by kernel_rfl
  have c2 : ord 2 0 [0, 1] [] [] ([.h 0, .d (.int (.ofNat (ds.length + 1)))], []) = some [.h 0, .d (.int (.ofNat (ds.length + 1)))] := by kernel_rfl
  rw [List.append_nil, List.append_nil] at h
  have c3 := eCallG_val c1 c2 h
  have c4 := eIx_val (a := eVar 1) (L := dr ws cs r (.ofNat t)) (L1 := dr ws cs r (.ofNat t)) (x := .d (.lst (d0 :: ds))) (by kernel_rfl) c3
  have c5 : opt (dr ws' cs r' (.ofNat t')) (ixV (dr ws' cs r' (.ofNat t')) (.d (.lst (d0 :: ds))) (see (dr ws' cs r' (.ofNat t')) (.d (.int (.ofNat v))))) = some (.val (dr ws' cs r' (.ofNat t')) (.d (d0 :: ds)[v])) := by
    have ha : L2.atI (d0 :: ds) (.ofNat v) = some (d0 :: ds)[v] := by
      unfold L2.atI
      have h : L2.ixN (d0 :: ds).length (.ofNat v) = some v := by
        unfold L2.ixN
        rw [if_pos (show (0 : Int) ≤ Int.ofNat v from Int.natCast_nonneg v), if_pos (show (Int.ofNat v) < _ from by exact Int.ofNat_lt.mpr hv)]; rfl
      rw [h]
      simp
    show opt _ (match L2.atI (d0 :: ds) (.ofNat v) with
      | some d => some (DV.d d)
      | none => none) = _
    rw [ha]; rfl
  have e : F_pick (dr ws cs r (.ofNat t)) [.h 0, .d (.lst (d0 :: ds))] = endF false 2 (sRet (eIx (eVar 1) (eCallG F_take [true, false] 2 0 [0, 1] [] (aCons (eVar 0) (aCons (eCb fLen (aCons (eVar 1) aNil)) aNil)) aNil)) (dr ws cs r (.ofNat t)) env) := by kernel_rfl
  rw [e, sRet_val (c4.trans c5)]
  kernel_rfl
end FP

set_option Elab.async false
set_option linter.all false
set_option maxRecDepth 100000
set_option maxHeartbeats 400000
namespace FP
open PySem FL
def F_notes : Fn := mkF false 0 0 (sRet (eLst (aCons (eCst (.str "begin")) (aCons (eCst (.str "yes")) (aCons (eCst (.str "no")) (aCons (eCst (.str "ready")) (aCons (eCst (.str "agreed")) (aCons (eCst (.str "refused")) aNil))))))))
def knR : Sv := (sCons (sSet 2 (eOp fAdd (eIx (eLst (aCons (eLst (aCons (eCst (.str "agreed")) aNil)) (aCons (eLst (aCons (eCst (.str "begin")) (aCons (eCst (.str "refused")) aNil))) (aCons (eLst (aCons (eCst (.str "agreed")) (aCons (eCst (.str "begin")) (aCons (eCst (.str "no")) (aCons (eCst (.str "refused")) aNil))))) aNil)))) (eVar 1)) (eLst (aCons (eCst (.str "yes")) (aCons (eCst (.str "ready")) aNil)))))
  (sCons (sSet 3 (eCb (alt2 fDictP fDictD) (aCons (eLc [4] (iItE (eCallG F_notes [] 0 0 [] [] aNil aNil)) (gName 4) tYesE (eTup (aCons (eVar 4) (aCons (eIf (tVal (eOp fIn2 (eVar 4) (eVar 2))) (eCst (.str "forced")) (eCst (.str "none"))) aNil)))) aNil)))
  (sCons (sSet 5 (eIx (eLst (aCons (eTup (aCons (eCst (.str "yes")) aNil)) (aCons (eTup (aCons (eCst (.str "no")) aNil)) (aCons (eTup (aCons (eCst (.str "no")) (aCons (eCst (.str "yes")) aNil))) aNil)))) (eVar 1)))
  (sRet (eDict (pCons (eCst (.str "words")) (eVar 3) (pCons (eCst (.str "answers")) (eVar 5) (pCons (eCst (.str "presume")) (eIx (eLst (aCons (eCst (.str "no")) (aCons (eCst (.str "yes")) (aCons (eCst (.str "wait")) aNil)))) (eVar 1)) (pCons (eCst (.str "reads")) (eTup aNil) (pCons (eCst (.str "strange")) (eCst (.str "skip")) pNil))))))))))
def F_known_sheet : Fn := mkF true 6 1 (sCons (sSet 1 (eCallG F_take [true, false] 2 0 [0, 1] [] (aCons (eVar 0) (aCons (eCst (.int 3)) aNil)) aNil)) knR)
def wordsD (w0 w1 w2 w3 w4 w5 : D) : D := .dct [(.str "begin", w0), (.str "yes", w1), (.str "no", w2), (.str "ready", w3), (.str "agreed", w4), (.str "refused", w5)]
/-- a sheet that is held -/
def shO (w a p rd st : D) : OL := [.own (.k [(.str "words", .h 3), (.str "answers", .d a), (.str "presume", .d p), (.str "reads", .d rd), (.str "strange", .d st)]), .own (.p w)]
def isW (d : D) : Prop := d = .str "none" ∨ d = .str "lazy" ∨ d = .str "forced"
def isA (d : D) : Prop := d = .tup [] ∨ d = .tup [.str "no"] ∨ d = .tup [.str "yes"] ∨ d = .tup [.str "no", .str "yes"]
def isP (d : D) : Prop := d = .str "no" ∨ d = .str "wait" ∨ d = .str "yes"
theorem known_ok {ws : List Nat} {cs : List Int} {r t : Nat} (ht : t < 1099511627776) (hw : ws.length ≤ 1000) : ∃ (ws' : List Nat) (r' t' : Nat) (w0 w1 w2 w3 w4 w5 a p : D), F_known_sheet (dr ws cs r (.ofNat t)) [.h 0] = some (.val (dr ws' cs r' (.ofNat t') ++ shO (wordsD w0 w1 w2 w3 w4 w5) a p (.tup []) (.str "skip")) (.h 2)) ∧ (isW w0 ∧ isW w1 ∧ isW w2 ∧ isW w3 ∧ isW w4 ∧ isW w5) ∧ isA a ∧ isP p ∧ t' ≤ t + 1 ∧ ws'.length ≤ ws.length := by
  obtain ⟨ws', r', t', v, h, h1, h2, h3⟩ := take_call (cs := cs) (r := r) (n := 2) (M := []) (by decide) ht hw
  rw [List.append_nil, List.append_nil] at h
  let env : VEnv := [some (.h 0), none, none, none, none, none, some (.h 0), some (.h 1)]
  have c1 : aGo (aCons (eVar 0) (aCons (eCst (.int 3)) aNil)) aNil (dr ws cs r (.ofNat t)) env = some (.val (dr ws cs r (.ofNat t)) ([.h 0, .d (.int (.ofNat (2 + 1)))], [])) := by kernel_rfl
  have c2 : ord 2 0 [0, 1] [] [] ([.h 0, .d (.int (.ofNat (2 + 1)))], []) = some [.h 0, .d (.int (.ofNat (2 + 1)))] := by kernel_rfl
  have c3 := eCallG_val c1 c2 h
  have e : F_known_sheet (dr ws cs r (.ofNat t)) [.h 0] = endF true 6 (sq ((sSet 1 (eCallG F_take [true, false] 2 0 [0, 1] [] (aCons (eVar 0) (aCons (eCst (.int 3)) aNil)) aNil)) (dr ws cs r (.ofNat t)) env) knR) := by kernel_rfl
  rw [e, sSet_val c3]
  match v, h1 with
  | 0, _ => exact ⟨ws', r', t', .str "none", .str "forced", .str "none", .str "forced", .str "forced", .str "none", .tup [.str "yes"], .str "no", (by kernel_rfl), ⟨.inl rfl, .inr (.inr rfl), .inl rfl, .inr (.inr rfl), .inr (.inr rfl), .inl rfl⟩, .inr (.inr (.inl rfl)), .inl rfl, h2, h3⟩
  | 1, _ => exact ⟨ws', r', t', .str "forced", .str "forced", .str "none", .str "forced", .str "none", .str "forced", .tup [.str "no"], .str "yes", (by kernel_rfl), ⟨.inr (.inr rfl), .inr (.inr rfl), .inl rfl, .inr (.inr rfl), .inl rfl, .inr (.inr rfl)⟩, .inr (.inl rfl), .inr (.inr rfl), h2, h3⟩
  | 2, _ => exact ⟨ws', r', t', .str "forced", .str "forced", .str "forced", .str "forced", .str "forced", .str "forced", .tup [.str "no", .str "yes"], .str "wait", (by kernel_rfl), ⟨.inr (.inr rfl), .inr (.inr rfl), .inr (.inr rfl), .inr (.inr rfl), .inr (.inr rfl), .inr (.inr rfl)⟩, .inr (.inr (.inr rfl)), .inr (.inl rfl), h2, h3⟩
end FP

set_option Elab.async false
set_option linter.all false
set_option maxRecDepth 100000
set_option maxHeartbeats 400000
namespace FP
open PySem FL
def F_any_of : Fn := mkF false 4 3 (sRet (eLc [3] (iItE (eVar 1)) (gName 3) (tVal (eOp fGt (eCallG F_take [true, false] 2 0 [0, 1] [] (aCons (eVar 0) (aCons (eVar 2) aNil)) aNil) (eCst (.int 0)))) (eVar 3)))
def aoT : Et := (tVal (eOp fGt (eCallG F_take [true, false] 2 0 [0, 1] [] (aCons (eVar 0) (aCons (eVar 2) aNil)) aNil) (eCst (.int 0))))
def aoE (ds : List D) (n : Nat) (x : Option D) : VEnv := [some (.h 0), some (.d (.lst ds)), some (.d (.int (.ofNat (n + 1)))), x.map DV.d, some (.h 0), some (.h 1)]
theorem ao_test {ws : List Nat} {cs : List Int} {r t n : Nat} {ds acc : List D} {d : D} (hn : n + 1 < 1073741824) (ht : t < 1099511627776) (hw : ws.length ≤ 1000) : ∃ (ws' : List Nat) (r' t' : Nat) (b : Bool), aoT (dr ws cs r (.ofNat t) ++ [.own (.p (.lst acc))]) (aoE ds n (some d)) = some (.val (dr ws' cs r' (.ofNat t') ++ [.own (.p (.lst acc))]) b) ∧ t' ≤ t + 1 ∧ ws'.length ≤ ws.length := by
  obtain ⟨ws', r', t', v, h, h1, h2, h3⟩ := take_call (cs := cs) (r := r) (n := n) (M := [.own (.p (.lst acc))]) hn ht hw
  have c1 : aGo (aCons (eVar 0) (aCons (eVar 2) aNil)) aNil (dr ws cs r (.ofNat t) ++ [.own (.p (.lst acc))]) (aoE ds n (some d)) = some (.val (dr ws cs r (.ofNat t) ++ [.own (.p (.lst acc))]) ([.h 0, .d (.int (.ofNat (n + 1)))], [])) := by kernel_rfl
  have c2 : ord 2 0 [0, 1] [] [] ([.h 0, .d (.int (.ofNat (n + 1)))], []) = some [.h 0, .d (.int (.ofNat (n + 1)))] := by kernel_rfl
  have c3 := eCallG_val c1 c2 h
  have c4 := eOp_val (fn := fGt) (b := eCst (.int 0)) (L2 := dr ws' cs r' (.ofNat t') ++ [.own (.p (.lst acc))]) (y := .d (.int 0)) c3 (by kernel_rfl)
  refine ⟨ws', r', t', decide ((0 : Int) < .ofNat v), ?_, h2, h3⟩
  unfold aoT tVal
  rw [c4]
  kernel_rfl
theorem lcF_f {n : Nat} {g : Gv} {tt : Et} {te : Ev} {env e1 : VEnv} {x : D} {xs : List D} {L L1 : OL} (hg : g L (.d x) env = some e1) (ht : tt L e1 = some (.val L1 false)) : lcF n g tt te env (x :: xs) L = lcF n g tt te env xs (cutL (n + 1) L1) := by
  rw [lcF, hg]; dsimp only; rw [ht]; rfl
theorem lcF_t {n : Nat} {g : Gv} {tt : Et} {te : Ev} {env e1 : VEnv} {x d : D} {xs acc : List D} {L L1 L2 L3 : OL} {y : DV} (hg : g L (.d x) env = some e1) (ht : tt L e1 = some (.val L1 true)) (he : te L1 e1 = some (.val L2 y)) (hf : Fz L2 y = some (.val L3 d)) (ha : accOf n L3 = some acc) (hs : szB acc.length = true) : lcF n g tt te env (x :: xs) L = lcF n g tt te env xs (cutL (n + 1) (L3.set n (.own (.p (.lst (acc ++ [d])))))) := by
  rw [lcF, hg]; dsimp only; rw [ht]; dsimp only [bn, br]; rw [he]; dsimp only; rw [hf]; dsimp only; rw [ha]; dsimp only; rw [hs]
theorem ao_loop {cs : List Int} {n : Nat} {ds : List D} (hn : n + 1 < 1073741824) : ∀ (xs acc : List D) (ws : List Nat) (r t : Nat), acc.length + xs.length ≤ 1000 → t + xs.length < 1099511627776 → ws.length ≤ 1000 →
    ∃ (ws' : List Nat) (r' t' : Nat) (out : List D), lcF 2 (gName 3) aoT (eVar 3) (aoE ds n none) xs (dr ws cs r (.ofNat t) ++ [.own (.p (.lst acc))]) = some (.val (dr ws' cs r' (.ofNat t') ++ [.own (.p (.lst (acc ++ out)))]) ()) ∧ out.Sublist xs ∧ t' ≤ t + xs.length ∧ ws'.length ≤ ws.length
  | [], acc, ws, r, t, _, _, _ => ⟨ws, r, t, [], by rw [List.append_nil]; rfl, .slnil, Nat.le_refl _, Nat.le_refl _⟩
  | x :: xs, acc, ws, r, t, h1, h2, h3 => by
    simp only [List.length_cons] at h1 h2
    obtain ⟨ws1, r1, t1, b, ht, q1, q2⟩ := ao_test (cs := cs) (r := r) (ds := ds) (acc := acc) (d := x) hn (by omega : t < 1099511627776) h3
    cases b with
    | false =>
      obtain ⟨ws', r', t', out, e, s1, s2, s3⟩ := ao_loop (cs := cs) (ds := ds) hn xs acc ws1 r1 t1 (by omega) (by omega) (by omega)
      exact ⟨ws', r', t', out, ((lcF_f (e1 := aoE ds n (some x)) (by kernel_rfl) ht).trans (by kernel_rfl)).trans e, s1.cons _, by simp only [List.length_cons]; omega, by omega⟩
    | true =>
      obtain ⟨ws', r', t', out, e, s1, s2, s3⟩ := ao_loop (cs := cs) (ds := ds) hn xs (acc ++ [x]) ws1 r1 t1 (by simp; omega) (by omega) (by omega)
      refine ⟨ws', r', t', x :: out, ?_, s1.cons₂ _, by simp only [List.length_cons]; omega, by omega⟩
      rw [List.append_assoc] at e
      exact ((lcF_t (e1 := aoE ds n (some x)) (L2 := dr ws1 cs r1 (.ofNat t1) ++ [.own (.p (.lst acc))]) (L3 := dr ws1 cs r1 (.ofNat t1) ++ [.own (.p (.lst acc))]) (y := .d x) (d := x) (acc := acc) (by kernel_rfl) ht (by kernel_rfl) (by kernel_rfl) (by kernel_rfl) (Nat.ble_eq_true_of_le (by omega))).trans (by kernel_rfl)).trans e
/-- some of a list -/
theorem any_of_ok {ws : List Nat} {cs : List Int} {r t n : Nat} {ds : List D} (hn : n + 1 < 1073741824) (hl : ds.length ≤ 1000) (ht : t + ds.length < 1099511627776) (hw : ws.length ≤ 1000) : ∃ (ws' : List Nat) (r' t' : Nat) (out : List D), F_any_of (dr ws cs r (.ofNat t)) [.h 0, .d (.lst ds), .d (.int (.ofNat (n + 1)))] = some (.val (dr ws' cs r' (.ofNat t')) (.d (.lst out))) ∧ out.Sublist ds ∧ t' ≤ t + ds.length ∧ ws'.length ≤ ws.length := by
  obtain ⟨ws', r', t', out, e, s1, s2, s3⟩ := ao_loop (cs := cs) (ds := ds) hn ds [] ws r t (by simpa using hl) ht hw
  refine ⟨ws', r', t', out, ?_, s1, s2, s3⟩
  have e1 : F_any_of (dr ws cs r (.ofNat t)) [.h 0, .d (.lst ds), .d (.int (.ofNat (n + 1)))] = endF false 4 (sRet (fun _ _ => bnd (lcF 2 (gName 3) aoT (eVar 3) (aoE ds n none) ds (dr ws cs r (.ofNat t) ++ [.own (.p (.lst []))])) fun L2 _ => some (.val L2 (.h 2))) (dr ws cs r (.ofNat t)) (aoE ds n none)) := by kernel_rfl
  rw [e1, e, List.nil_append]
  kernel_rfl
end FP

set_option Elab.async false
set_option linter.all false
set_option maxRecDepth 100000
set_option maxHeartbeats 400000
namespace FP
open PySem FL
abbrev st (ss : List Str) : List D := ss.map D.str
theorem pls_st : ∀ ss : List Str, pls (st ss) = true
  | [] => rfl
  | w :: ws => by show (true && pls (st ws)) = true; rw [pls_st ws]; rfl
theorem dep_st : ∀ ws : List Str, PyData.depthAll (pys (st ws)) = 0
  | [] => by simp [pys, PyData.depthAll]
  | w :: ws => by
    show PyData.depthAll (PyData.str w :: pys (st ws)) = 0
    rw [PyData.depthAll, dep_st ws]
    simp [PyData.depth]
theorem fne_st (w : Str) (ws : List Str) : fNe (.lst (st (w :: ws))) (.lst []) = some (.val (.bl true)) := by
  have h1 : plB (.lst (st (w :: ws))) (.lst []) = true := by
    unfold plB
    rw [show pl (.lst (st (w :: ws))) = pls (st (w :: ws)) by rw [pl], pls_st]
    have : (py (.lst (st (w :: ws)))).depth ≤ 50 := by
      rw [py, PyData.depth, dep_st]; decide
    rw [Nat.ble_eq_true_of_le this]; rfl
  have h2 : eqD (.lst (st (w :: ws))) (.lst []) = false := by
    unfold eqD
    rw [py, py]
    show PyData.eqv (.list (PyData.str w :: pys (st ws))) (.list []) = false
    simp [PyData.eqv, PyData.eqvAll]
  show (match (br (plB (.lst (st (w :: ws))) (.lst [])) (some (eqD (.lst (st (w :: ws))) (.lst []))) none : Option Bool) with
    | some r => some (Res.val (.bl (!r)))
    | none => none) = _
  rw [h1, h2]; rfl
theorem erase_st : ∀ (ss : List Str) (v : Nat), (st ss).eraseIdx v = st (ss.eraseIdx v)
  | [], _ => rfl
  | s :: ss, 0 => rfl
  | s :: ss, v + 1 => by show D.str s :: (st ss).eraseIdx v = D.str s :: st (ss.eraseIdx v); rw [erase_st ss v]
theorem popAt_st {ss : List Str} {v : Nat} (hv : v < ss.length) : popAt (st ss) (.ofNat v) = some (.str ss[v], st (ss.eraseIdx v)) := by
  have hv' : v < (st ss).length := by rw [List.length_map]; exact hv
  have h : L2.ixN (st ss).length (.ofNat v) = some v := by
    unfold L2.ixN
    rw [if_pos (show (0 : Int) ≤ Int.ofNat v from Int.natCast_nonneg v), if_pos (show (Int.ofNat v) < _ from by exact Int.ofNat_lt.mpr hv')]; rfl
  unfold popAt
  rw [h]
  have e : (st ss)[v]? = some (.str ss[v]) := by simp [st, hv]
  dsimp only
  rw [e, erase_st]
theorem ePop_val {a : Ev} {b : Ea} {L L1 L2 : OL} {env : VEnv} {x : DV} {k0 k : Nat} {ds0 ds ds' : List D} {i : Int} {d : D} (ha : a L env = some (.val L1 x)) (h1 : ownLst L1 x = some (k0, ds0)) (hb : b L1 env = some (.val L2 [.d (.int i)])) (h2 : ownLst L2 x = some (k, ds)) (hp : popAt ds i = some (d, ds')) (hs : szB ds.length = true) : ePop a b L env = some (.val (L2.set k (.own (.p (.lst ds')))) (.d d)) := by
  unfold ePop; rw [ha]; dsimp only [bnd]; rw [h1]; dsimp only [opt]; rw [hb]; dsimp only
  rw [show int1 [.d (.int i)] = some i from rfl]; dsimp only [opt]; rw [h2]; dsimp only; rw [hp]; dsimp only; rw [hs]; rfl
theorem eApp_val {a : Ev} {b : Ea} {L L1 L2 L3 : OL} {env : VEnv} {x y : DV} {k0 k : Nat} {ds0 ds : List D} {d : D} (ha : a L env = some (.val L1 x)) (h1 : ownLst L1 x = some (k0, ds0)) (hb : b L1 env = some (.val L2 [y])) (hf : Fz L2 y = some (.val L3 d)) (h2 : ownLst L3 x = some (k, ds)) (hs : szB ds.length = true) : eApp a b L env = some (.val (L3.set k (.own (.p (.lst (ds ++ [d]))))) (.d .non)) := by
  unfold eApp; rw [ha]; dsimp only [bnd]; rw [h1]; dsimp only [opt]; rw [hb]; dsimp only
  rw [show one1 [y] = some y from rfl]; dsimp only [opt]; rw [hf]; dsimp only; rw [h2]; dsimp only; rw [hs]; rfl
theorem whF_t {n m : Nat} {c : Et} {body : Sv} {L L1 L2 L3 : OL} {env e1 e2 : VEnv} (hc : c L env = some (.val L1 true)) (hb : body L1 env = some (.nx L2 e1)) (h1 : cmL n L2 e1 = L3) (h2 : cmE n L2 e1 = e2) : whF n c body (m + 1) L env = whF n c body m L3 e2 := by
  subst h1 h2
  rw [whF, hc]; dsimp only; rw [hb]
theorem whF_f {n m : Nat} {c : Et} {body : Sv} {L L1 : OL} {env : VEnv} (hc : c L env = some (.val L1 false)) : whF n c body (m + 1) L env = some (.nx L1 env) := by
  rw [whF, hc]
theorem perm_erase : ∀ {ss : List Str} {v : Nat} (hv : v < ss.length), (ss[v] :: ss.eraseIdx v).Perm ss
  | s :: ss, 0, _ => .refl _
  | s :: ss, v + 1, h => by
    have h' : v < ss.length := by simpa using h
    show (ss[v] :: s :: ss.eraseIdx v).Perm (s :: ss)
    exact (List.Perm.swap _ _ _).trans ((perm_erase h').cons s)
def shW : Sv := (sExpr (eApp (eVar 3) (aCons (ePop (eVar 2) (aCons (eCallG F_take [true, false] 2 0 [0, 1] [] (aCons (eVar 0) (aCons (eCb fLen (aCons (eVar 2) aNil)) aNil)) aNil) aNil)) aNil)))
def shT : Et := (tVal (eOp fNe (eVar 2) (eLst aNil)))
def F_shuffled : Fn := mkF false 4 2 (sCons (sAsgT 2 (aCons (eCb (alt2 fList fListD) (aCons (eVar 1) aNil)) (aCons (eLst aNil) aNil)) (gCons (gName 2) (gCons (gName 3) gNil)))
  (sCons (sWhile 4 1000000000000 shT shW) (sRet (eVar 3))))
def shE (ds : List D) : VEnv := [some (.h 0), some (.d (.lst ds)), some (.h 2), some (.h 3), some (.h 0), some (.h 1)]
abbrev ol (ss : List Str) : OE := .own (.p (.lst (st ss)))
theorem sh_test {ws : List Nat} {cs : List Int} {r t : Nat} {ds : List D} {s : Str} {left out : List Str} : shT (dr ws cs r (.ofNat t) ++ [ol (s :: left), ol out]) (shE ds) = some (.val (dr ws cs r (.ofNat t) ++ [ol (s :: left), ol out, ol []]) true) := by
  unfold shT tVal
  have e := eOp_val (fn := fNe) (a := eVar 2) (b := eLst aNil) (L := dr ws cs r (.ofNat t) ++ [ol (s :: left), ol out]) (env := shE ds) (L1 := dr ws cs r (.ofNat t) ++ [ol (s :: left), ol out]) (L2 := dr ws cs r (.ofNat t) ++ [ol (s :: left), ol out, ol []]) (x := .h 2) (y := .h 4) (by kernel_rfl) (by kernel_rfl)
  rw [e]
  have e2 : app2 fNe (see (dr ws cs r (.ofNat t) ++ [ol (s :: left), ol out, ol []]) (.h 2)) (see (dr ws cs r (.ofNat t) ++ [ol (s :: left), ol out, ol []]) (.h 4)) = fNe (.lst (st (s :: left))) (.lst []) := by kernel_rfl
  rw [e2, fne_st]
  kernel_rfl
theorem sh_body {ws : List Nat} {cs : List Int} {r t : Nat} {ds : List D} {s : Str} {left out : List Str} (hl : left.length + 1 < 1000) (ho : out.length < 1000) (ht : t < 1099511627776) (hw : ws.length ≤ 1000) : ∃ (ws' : List Nat) (r' t' v : Nat) (hv : v < (s :: left).length), shW (dr ws cs r (.ofNat t) ++ [ol (s :: left), ol out, ol []]) (shE ds) = some (.nx (dr ws' cs r' (.ofNat t') ++ [ol ((s :: left).eraseIdx v), ol (out ++ [(s :: left)[v]]), ol []]) (shE ds)) ∧ t' ≤ t + 1 ∧ ws'.length ≤ ws.length := by
  obtain ⟨ws', r', t', v, h, h1, h2, h3⟩ := take_call (cs := cs) (r := r) (n := (st left).length) (M := [ol (s :: left), ol out, ol []]) (by rw [List.length_map]; omega) ht hw
  have hv : v < (s :: left).length := by rw [List.length_map] at h1; exact h1
  refine ⟨ws', r', t', v, hv, ?_, h2, h3⟩
  have c1 : aGo (aCons (eVar 0) (aCons (eCb fLen (aCons (eVar 2) aNil)) aNil)) aNil (dr ws cs r (.ofNat t) ++ [ol (s :: left), ol out, ol []]) (shE ds) = some (.val (dr ws cs r (.ofNat t) ++ [ol (s :: left), ol out, ol []]) ([.h 0, .d (.int (.ofNat ((st left).length + 1)))], [])) := by kernel_rfl
  have c2 : ord 2 0 [0, 1] [] [] ([.h 0, .d (.int (.ofNat ((st left).length + 1)))], []) = some [.h 0, .d (.int (.ofNat ((st left).length + 1)))] := by kernel_rfl
  have c3 := eCallG_val c1 c2 h
  have c4 := aCons_val (b := aNil) (L2 := dr ws' cs r' (.ofNat t') ++ [ol (s :: left), ol out, ol []]) (xs := []) c3 (by kernel_rfl)
  have c5 := ePop_val (a := eVar 2) (L := dr ws cs r (.ofNat t) ++ [ol (s :: left), ol out, ol []]) (x := .h 2) (k0 := 2) (k := 2) (ds0 := st (s :: left)) (ds := st (s :: left)) (by kernel_rfl) (by kernel_rfl) c4 (by kernel_rfl) (popAt_st hv) (by rw [List.length_map]; exact Nat.ble_eq_true_of_le (by simp only [List.length_cons]; omega))
  have c6 := aCons_val (b := aNil) (L2 := (dr ws' cs r' (.ofNat t') ++ [ol (s :: left), ol out, ol []]).set 2 (ol ((s :: left).eraseIdx v))) (xs := []) c5 (by kernel_rfl)
  have c7 := eApp_val (a := eVar 3) (L := dr ws cs r (.ofNat t) ++ [ol (s :: left), ol out, ol []]) (x := .h 3) (k0 := 3) (k := 3) (ds0 := st out) (ds := st out) (L3 := (dr ws' cs r' (.ofNat t') ++ [ol (s :: left), ol out, ol []]).set 2 (ol ((s :: left).eraseIdx v))) (d := .str (s :: left)[v]) (by kernel_rfl) (by kernel_rfl) c6 (by kernel_rfl) (by kernel_rfl) (by rw [List.length_map]; exact Nat.ble_eq_true_of_le (by omega))
  unfold shW sExpr
  rw [c7]
  have e : st (out ++ [(s :: left)[v]]) = st out ++ [.str (s :: left)[v]] := by simp [st]
  show some (So.nx _ _) = _
  rw [show ol (out ++ [(s :: left)[v]]) = .own (.p (.lst (st out ++ [.str (s :: left)[v]]))) by rw [← e]]
  kernel_rfl
theorem sh_loop {cs : List Int} {ds : List D} : ∀ (m : Nat) (left out : List Str) (ws : List Nat) (r t : Nat), left.length < m → left.length + out.length < 1000 → t + left.length < 1099511627776 → ws.length ≤ 1000 →
    ∃ (ws' : List Nat) (r' t' : Nat) (out' : List Str), whF 4 shT shW m (dr ws cs r (.ofNat t) ++ [ol left, ol out]) (shE ds) = some (.nx (dr ws' cs r' (.ofNat t') ++ [ol [], ol (out ++ out'), ol []]) (shE ds)) ∧ out'.Perm left ∧ t' ≤ t + left.length ∧ ws'.length ≤ ws.length
  | 0, _, _, _, _, _, h, _, _, _ => by omega
  | m + 1, [], out, ws, r, t, h, h1, h2, h3 => ⟨ws, r, t, [], by rw [List.append_nil]; exact (whF_f (by kernel_rfl)).trans rfl, .nil, Nat.le_refl _, Nat.le_refl _⟩
  | m + 1, s :: left, out, ws, r, t, h, h1, h2, h3 => by
    simp only [List.length_cons] at h h1 h2
    obtain ⟨ws1, r1, t1, v, hv, hb, q1, q2⟩ := sh_body (cs := cs) (r := r) (ds := ds) (s := s) (left := left) (out := out) (by omega) (by omega) (by omega : t < 1099511627776) h3
    have hlen : ((s :: left).eraseIdx v).length = left.length := by rw [List.length_eraseIdx_of_lt hv]; rfl
    obtain ⟨ws', r', t', out', e, s1, s2, s3⟩ := sh_loop (cs := cs) (ds := ds) m ((s :: left).eraseIdx v) (out ++ [(s :: left)[v]]) ws1 r1 t1 (by rw [hlen]; omega) (by rw [hlen, List.length_append, List.length_singleton]; omega) (by rw [hlen]; omega) (by omega)
    rw [hlen] at s2
    refine ⟨ws', r', t', (s :: left)[v] :: out', ?_, (s1.cons _).trans (perm_erase hv), by simp only [List.length_cons]; omega, by omega⟩
    rw [List.append_assoc] at e
    exact (whF_t (L1 := dr ws cs r (.ofNat t) ++ [ol (s :: left), ol out, ol []]) (L2 := dr ws1 cs r1 (.ofNat t1) ++ [ol ((s :: left).eraseIdx v), ol (out ++ [(s :: left)[v]]), ol []]) (e1 := shE ds) sh_test hb (by kernel_rfl) (by kernel_rfl)).trans e
/-- shuffling texts -/
theorem shuffled_ok {ws : List Nat} {cs : List Int} {r t : Nat} {ss : List Str} (hl : ss.length < 1000) (ht : t + ss.length < 1099511627776) (hw : ws.length ≤ 1000) : ∃ (ws' : List Nat) (r' t' : Nat) (out : List Str), F_shuffled (dr ws cs r (.ofNat t)) [.h 0, .d (.lst (st ss))] = some (.val (dr ws' cs r' (.ofNat t')) (.d (.lst (st out)))) ∧ out.Perm ss ∧ t' ≤ t + ss.length ∧ ws'.length ≤ ws.length := by
  obtain ⟨ws', r', t', out, e, s1, s2, s3⟩ := sh_loop (cs := cs) (ds := st ss) 1000000000000 ss [] ws r t (by omega) (by simpa using hl) ht hw
  refine ⟨ws', r', t', out, ?_, s1, s2, s3⟩
  rw [List.nil_append] at e
  have e1 : F_shuffled (dr ws cs r (.ofNat t)) [.h 0, .d (.lst (st ss))] = endF false 4 (sq (whF 4 shT shW 1000000000000 (dr ws cs r (.ofNat t) ++ [ol ss, ol []]) (shE (st ss))) (sRet (eVar 3))) := by kernel_rfl
  rw [e1, e]
  kernel_rfl
end FP

set_option Elab.async false
set_option linter.all false
set_option maxRecDepth 100000
set_option maxHeartbeats 400000
namespace FP
open PySem FL
/-! ### calls of the drawing defs with a list that is given up -/
theorem callM_fz {m : Fn} {bs : List Bool} {L L2 : OL} {xs ys : List DV} (h1 : Fzm bs L xs = some (.val L2 ys)) (h2 : Fzm bs L2 ys = some (.val L2 ys)) : callM m bs L xs = callM m bs L2 ys := by
  unfold callM; rw [h1, h2]
theorem eCall2_dr {m : Fn} {as : Ea} {L L1 : OL} {env : VEnv} {y : DV} {ws ws' : List Nat} {cs : List Int} {r r' : Nat} {t t' : Int} {M : OL} {a d : D} (c1 : aGo as aNil L env = some (.val L1 ([.h 0, y], []))) (hf : Fzm [true, false] L1 [.h 0, y] = some (.val (dr ws cs r t ++ M) [.h 0, .d a])) (h : m (dr ws cs r t) [.h 0, .d a] = some (.val (dr ws' cs r' t') (.d d))) : eCallG m [true, false] 2 0 [0, 1] [] as aNil L env = some (.val (dr ws' cs r' t' ++ M) (.d d)) := by
  refine eCallG_val c1 (zs := [.h 0, y]) (by kernel_rfl) ?_
  rw [callM_fz hf (by kernel_rfl)]
  exact call_dr2 h
theorem eTake {as : Ea} {L : OL} {env : VEnv} {ws : List Nat} {cs : List Int} {r t n : Nat} {M : OL} (c1 : aGo as aNil L env = some (.val (dr ws cs r (.ofNat t) ++ M) ([.h 0, .d (.int (.ofNat (n + 1)))], []))) (hn : n + 1 < 1073741824) (ht : t < 1099511627776) (hw : ws.length ≤ 1000) : ∃ (ws' : List Nat) (r' t' v : Nat), eCallG F_take [true, false] 2 0 [0, 1] [] as aNil L env = some (.val (dr ws' cs r' (.ofNat t') ++ M) (.d (.int (.ofNat v)))) ∧ v < n + 1 ∧ t' ≤ t + 1 ∧ ws'.length ≤ ws.length := by
  obtain ⟨ws', r', t', v, h, h1, h2, h3⟩ := take_ok (cs := cs) (r := r) hn ht hw
  exact ⟨ws', r', t', v, eCall2_dr c1 (by kernel_rfl) h, h1, h2, h3⟩
theorem ePick {as : Ea} {L L1 : OL} {env : VEnv} {y : DV} {ws : List Nat} {cs : List Int} {r t : Nat} {M : OL} {d0 : D} {ds : List D} (c1 : aGo as aNil L env = some (.val L1 ([.h 0, y], []))) (hf : Fzm [true, false] L1 [.h 0, y] = some (.val (dr ws cs r (.ofNat t) ++ M) [.h 0, .d (.lst (d0 :: ds))])) (hl : ds.length < 1000) (ht : t < 1099511627776) (hw : ws.length ≤ 1000) : ∃ (ws' : List Nat) (r' t' : Nat) (d : D), eCallG F_pick [true, false] 2 0 [0, 1] [] as aNil L env = some (.val (dr ws' cs r' (.ofNat t') ++ M) (.d d)) ∧ d ∈ d0 :: ds ∧ t' ≤ t + 1 ∧ ws'.length ≤ ws.length := by
  obtain ⟨ws', r', t', d, h, h1, h2, h3⟩ := pick_ok (cs := cs) (r := r) hl ht hw
  exact ⟨ws', r', t', d, eCall2_dr c1 hf h, h1, h2, h3⟩
theorem eShuf {as : Ea} {L : OL} {env : VEnv} {ws : List Nat} {cs : List Int} {r t : Nat} {M : OL} {ss : List Str} (c1 : aGo as aNil L env = some (.val (dr ws cs r (.ofNat t) ++ M) ([.h 0, .d (.lst (st ss))], []))) (hl : ss.length < 1000) (ht : t + ss.length < 1099511627776) (hw : ws.length ≤ 1000) : ∃ (ws' : List Nat) (r' t' : Nat) (out : List Str), eCallG F_shuffled [true, false] 2 0 [0, 1] [] as aNil L env = some (.val (dr ws' cs r' (.ofNat t') ++ M) (.d (.lst (st out)))) ∧ out.Perm ss ∧ t' ≤ t + ss.length ∧ ws'.length ≤ ws.length := by
  obtain ⟨ws', r', t', out, h, h1, h2, h3⟩ := shuffled_ok (cs := cs) (r := r) hl ht hw
  exact ⟨ws', r', t', out, eCall2_dr c1 (by kernel_rfl) h, h1, h2, h3⟩
theorem call_dr3 {m : Fn} {ws ws' : List Nat} {cs : List Int} {r r' : Nat} {t t' : Int} {M : OL} {a b d : D} (h : m (dr ws cs r t) [.h 0, .d a, .d b] = some (.val (dr ws' cs r' t') (.d d))) : callM m [true, false, false] (dr ws cs r t ++ M) [.h 0, .d a, .d b] = some (.val (dr ws' cs r' t' ++ M) (.d d)) := by
  have e : callM m [true, false, false] (dr ws cs r t ++ M) [.h 0, .d a, .d b] = (match m (dr ws cs r t) [.h 0, .d a, .d b] with
    | some (.val L' x) => br (Nat.ble 2 L'.length) (some (.val (mrg [0, 1] (dr ws cs r t ++ M) L') (muV [0, 1] (dr ws cs r t ++ M).length x))) none
    | some (.exc L' x) => br (Nat.ble 2 L'.length) (some (.exc (mrg [0, 1] (dr ws cs r t ++ M) L') x)) none
    | none => none : Mo DV) := by kernel_rfl
  rw [e, h]
  have q : (some (.val (dr ws' cs r' t' ++ M ++ []) (.d d)) : Mo DV) = some (.val (dr ws' cs r' t' ++ M) (.d d)) := by rw [List.append_nil]
  exact Eq.trans (by kernel_rfl) q
theorem eAnyOf {as : Ea} {L : OL} {env : VEnv} {ws : List Nat} {cs : List Int} {r t n : Nat} {M : OL} {ds : List D} (c1 : aGo as aNil L env = some (.val (dr ws cs r (.ofNat t) ++ M) ([.h 0, .d (.lst ds), .d (.int (.ofNat (n + 1)))], []))) (hn : n + 1 < 1073741824) (hl : ds.length ≤ 1000) (ht : t + ds.length < 1099511627776) (hw : ws.length ≤ 1000) : ∃ (ws' : List Nat) (r' t' : Nat) (out : List D), eCallG F_any_of [true, false, false] 3 0 [0, 1, 2] [] as aNil L env = some (.val (dr ws' cs r' (.ofNat t') ++ M) (.d (.lst out))) ∧ out.Sublist ds ∧ t' ≤ t + ds.length ∧ ws'.length ≤ ws.length := by
  obtain ⟨ws', r', t', out, h, h1, h2, h3⟩ := any_of_ok (cs := cs) (r := r) hn hl ht hw
  exact ⟨ws', r', t', out, eCallG_val c1 (zs := [.h 0, .d (.lst ds), .d (.int (.ofNat (n + 1)))]) (by kernel_rfl) (call_dr3 h), h1, h2, h3⟩
end FP

set_option Elab.async false
set_option linter.all false
set_option maxRecDepth 100000
set_option maxHeartbeats 400000
namespace FP
open PySem FL
abbrev pkA : Ea := (aCons (eVar 0) (aCons (eLst (aCons (eCst (.str "none")) (aCons (eCst (.str "forced")) aNil))) aNil))
abbrev pkE : Ev := eCallG F_pick [true, false] 2 0 [0, 1] [] pkA aNil
def shB1 : Sv := sPut (eIx (eVar 2) (eCst (.str "words"))) (eVar 3) pkE
def shB2 : Sv := sPut (eIx (eVar 2) (eCst (.str "words"))) (eCallG F_pick [true, false] 2 0 [0, 1] [] (aCons (eVar 0) (aCons (eCallG F_notes [] 0 0 [] [] aNil aNil) aNil)) aNil) pkE
def shB3 : Sv := sPut (eIx (eVar 2) (eCst (.str "words"))) (eVar 3) (eCst (.str "lazy"))
def shC1 : Sv := sSet 2 (eCallG F_known_sheet [true] 1 0 [0] [] (aCons (eVar 0) aNil) aNil)
def shC2t : Et := tVal (eOp fEq (eCallG F_take [true, false] 2 0 [0, 1] [] (aCons (eVar 0) (aCons (eCst (.int 2)) aNil)) aNil) (eCst (.int 0)))
def shC2a : Sv := sFor 5 (iItE (eCallG F_notes [] 0 0 [] [] aNil aNil)) (gName 3) shB1
def shC2b : Sv := sPut (eVar 2) (eCst (.str "answers")) (eCallG F_pick [true, false] 2 0 [0, 1] [] (aCons (eVar 0) (aCons (eLst (aCons (eTup aNil) (aCons (eTup (aCons (eCst (.str "no")) aNil)) (aCons (eTup (aCons (eCst (.str "yes")) aNil)) (aCons (eTup (aCons (eCst (.str "no")) (aCons (eCst (.str "yes")) aNil))) aNil))))) aNil)) aNil)
def shC2c : Sv := sPut (eVar 2) (eCst (.str "presume")) (eCallG F_pick [true, false] 2 0 [0, 1] [] (aCons (eVar 0) (aCons (eLst (aCons (eCst (.str "no")) (aCons (eCst (.str "wait")) (aCons (eCst (.str "yes")) aNil)))) aNil)) aNil)
def shC3 : Sv := sFor 5 (iRange1 (aCons (eCallG F_take [true, false] 2 0 [0, 1] [] (aCons (eVar 0) (aCons (eCst (.int 3)) aNil)) aNil) aNil)) (gName 4) shB2
def shC4i : Ei := iItE (eSlice (eCallG F_shuffled [true, false] 2 0 [0, 1] [] (aCons (eVar 0) (aCons (eCallG F_notes [] 0 0 [] [] aNil aNil) aNil)) aNil) oNone (oSome (eCallG F_take [true, false] 2 0 [0, 1] [] (aCons (eVar 0) (aCons (eOp fAdd (eVar 1) (eCst (.int 1))) aNil)) aNil)))
def shC4 : Sv := sFor 5 shC4i (gName 3) shB3
def shC5e : Ev := eCb fTuple (aCons (eCb (alt2 fSorted (alt2 fSortedC fSortedD)) (aCons (eCallG F_any_of [true, false, false] 3 0 [0, 1, 2] [] (aCons (eVar 0) (aCons (eCallG F_notes [] 0 0 [] [] aNil aNil) (aCons (eCallG F_pick [true, false] 2 0 [0, 1] [] (aCons (eVar 0) (aCons (eLst (aCons (eCst (.int 2)) (aCons (eCst (.int 2)) (aCons (eCst (.int 9)) aNil)))) aNil)) aNil) aNil))) aNil) aNil)) aNil)
def shC5 : Sv := sPut (eVar 2) (eCst (.str "reads")) shC5e
def shC6 : Sv := sPut (eVar 2) (eCst (.str "strange")) (eCallG F_pick [true, false] 2 0 [0, 1] [] (aCons (eVar 0) (aCons (eLst (aCons (eCst (.str "skip")) (aCons (eCst (.str "cut")) aNil))) aNil)) aNil)
def F_sheet : Fn := mkF false 5 2 (sCons shC1 (sCons (sIf shC2t (sCons shC2a (sCons shC2b shC2c)) sNil) (sCons shC3 (sCons shC4 (sCons shC5 (sCons shC6 (sRet (eVar 2))))))))
def isN (k : D) : Prop := k = .str "begin" ∨ k = .str "yes" ∨ k = .str "no" ∨ k = .str "ready" ∨ k = .str "agreed" ∨ k = .str "refused"
def notesD : List D := [.str "begin", .str "yes", .str "no", .str "ready", .str "agreed", .str "refused"]
theorem isN_of {k : D} (h : k ∈ notesD) : isN k := by
  unfold isN
  simpa [notesD] using h
def shV (z : Nat) (x3 x4 : Option D) : VEnv := [some (.h 0), some (.d (.int (.ofNat z))), some (.h 2), x3.map DV.d, x4.map DV.d, some (.h 0), some (.h 1)]
abbrev shS (ws : List Nat) (cs : List Int) (r t : Nat) (w0 w1 w2 w3 w4 w5 a p : D) : OL := dr ws cs r (.ofNat t) ++ shO (wordsD w0 w1 w2 w3 w4 w5) a p (.tup []) (.str "skip")
def W6 (w0 w1 w2 w3 w4 w5 : D) : Prop := isW w0 ∧ isW w1 ∧ isW w2 ∧ isW w3 ∧ isW w4 ∧ isW w5
/-- a word is put -/
theorem put_word {ws : List Nat} {cs : List Int} {r t : Nat} {w0 w1 w2 w3 w4 w5 a p k d : D} {G : OL} (hk : isN k) (hd : isW d) (hW : W6 w0 w1 w2 w3 w4 w5) : ∃ v0 v1 v2 v3 v4 v5, W6 v0 v1 v2 v3 v4 v5 ∧ dputV (shS ws cs r t w0 w1 w2 w3 w4 w5 a p ++ G) (.h 3) (some k) (.d d) = some (shS ws cs r t v0 v1 v2 v3 v4 v5 a p ++ G) := by
  obtain ⟨a0, a1, a2, a3, a4, a5⟩ := hW
  rcases hk with rfl | rfl | rfl | rfl | rfl | rfl
  · exact ⟨d, w1, w2, w3, w4, w5, ⟨hd, a1, a2, a3, a4, a5⟩, by kernel_rfl⟩
  · exact ⟨w0, d, w2, w3, w4, w5, ⟨a0, hd, a2, a3, a4, a5⟩, by kernel_rfl⟩
  · exact ⟨w0, w1, d, w3, w4, w5, ⟨a0, a1, hd, a3, a4, a5⟩, by kernel_rfl⟩
  · exact ⟨w0, w1, w2, d, w4, w5, ⟨a0, a1, a2, hd, a4, a5⟩, by kernel_rfl⟩
  · exact ⟨w0, w1, w2, w3, d, w5, ⟨a0, a1, a2, a3, hd, a5⟩, by kernel_rfl⟩
  · exact ⟨w0, w1, w2, w3, w4, d, ⟨a0, a1, a2, a3, a4, hd⟩, by kernel_rfl⟩
theorem sPut_val2 {a b c : Ev} {L L1 L2 L3 L4 : OL} {env : VEnv} {x y z : DV} (hc : c L env = some (.val L1 z)) (ha : a L1 env = some (.val L2 x)) (hb : b L2 env = some (.val L3 y)) (h : dputV L3 x (see L3 y) z = some L4) : sPut a b c L env = some (.nx L4 env) := by
  unfold sPut; rw [hc]; dsimp only [sb]; rw [ha]; dsimp only; rw [hb]; dsimp only; rw [h]; rfl
abbrev g2 : OE := .fz (.lst [.str "none", .str "forced"])
theorem isW_pk {d : D} (h : d ∈ [D.str "none", D.str "forced"]) : isW d := by
  simp at h
  rcases h with rfl | rfl
  · exact .inl rfl
  · exact .inr (.inr rfl)
theorem shN_step {ws : List Nat} {cs : List Int} {r t z : Nat} {w0 w1 w2 w3 w4 w5 a p k : D} {x3 x4 : Option D} (hk : isN k) (hW : W6 w0 w1 w2 w3 w4 w5) (ht : t < 1099511627776) (hw : ws.length ≤ 1000) : ∃ (ws' : List Nat) (r' t' : Nat) (v0 v1 v2 v3 v4 v5 : D), W6 v0 v1 v2 v3 v4 v5 ∧ t' ≤ t + 1 ∧ ws'.length ≤ ws.length ∧ ∀ xs, forS 5 (gName 3) shB1 (k :: xs) (shS ws cs r t w0 w1 w2 w3 w4 w5 a p) (shV z x3 x4) = forS 5 (gName 3) shB1 xs (shS ws' cs r' t' v0 v1 v2 v3 v4 v5 a p) (shV z (some k) x4) := by
  obtain ⟨ws', r', t', d, h, hd, q1, q2⟩ := ePick (as := pkA) (L := shS ws cs r t w0 w1 w2 w3 w4 w5 a p) (env := shV z (some k) x4) (L1 := shS ws cs r t w0 w1 w2 w3 w4 w5 a p ++ [.own (.p (.lst [.str "none", .str "forced"]))]) (cs := cs) (r := r) (M := shO (wordsD w0 w1 w2 w3 w4 w5) a p (.tup []) (.str "skip") ++ [g2]) (y := .h 4) (d0 := .str "none") (ds := [.str "forced"]) (by kernel_rfl) (by kernel_rfl) (by decide) ht hw
  obtain ⟨v0, v1, v2, v3, v4, v5, hV, hp⟩ := put_word (ws := ws') (cs := cs) (r := r') (t := t') (a := a) (p := p) (G := [g2]) hk (isW_pk hd) hW
  refine ⟨ws', r', t', v0, v1, v2, v3, v4, v5, hV, q1, q2, fun xs => ?_⟩
  refine forS_nx (e1 := shV z (some k) x4) (L1 := shS ws' cs r' t' v0 v1 v2 v3 v4 v5 a p ++ [g2]) (e2 := shV z (some k) x4) (by cases x3 <;> kernel_rfl) ?_ (by cases x4 <;> kernel_rfl) (by cases x4 <;> kernel_rfl)
  exact sPut_val2 h (L2 := shS ws' cs r' t' w0 w1 w2 w3 w4 w5 a p ++ [g2]) (x := .h 3) (by kernel_rfl) (L3 := shS ws' cs r' t' w0 w1 w2 w3 w4 w5 a p ++ [g2]) (y := .d k) (by kernel_rfl) hp
theorem shN_loop {cs : List Int} {z : Nat} {a p : D} {x4 : Option D} : ∀ (xs : List D) (x3 : Option D) (ws : List Nat) (r t : Nat) (w0 w1 w2 w3 w4 w5 : D), (∀ x ∈ xs, isN x) → W6 w0 w1 w2 w3 w4 w5 → t + xs.length ≤ 1099511627776 → ws.length ≤ 1000 → ∃ (ws' : List Nat) (r' t' : Nat) (v0 v1 v2 v3 v4 v5 : D) (x3' : Option D), W6 v0 v1 v2 v3 v4 v5 ∧ t' ≤ t + xs.length ∧ ws'.length ≤ ws.length ∧ forS 5 (gName 3) shB1 xs (shS ws cs r t w0 w1 w2 w3 w4 w5 a p) (shV z x3 x4) = some (.nx (shS ws' cs r' t' v0 v1 v2 v3 v4 v5 a p) (shV z x3' x4))
  | [], x3, ws, r, t, w0, w1, w2, w3, w4, w5, _, hW, _, _ => ⟨ws, r, t, w0, w1, w2, w3, w4, w5, x3, hW, Nat.le_refl _, Nat.le_refl _, rfl⟩
  | x :: xs, x3, ws, r, t, w0, w1, w2, w3, w4, w5, hx, hW, ht, hw => by
    simp only [List.length_cons] at ht
    obtain ⟨ws1, r1, t1, u0, u1, u2, u3, u4, u5, hU, q1, q2, e⟩ := shN_step (cs := cs) (r := r) (z := z) (a := a) (p := p) (x3 := x3) (x4 := x4) (hx x (.head _)) hW (by omega : t < 1099511627776) hw
    obtain ⟨ws', r', t', v0, v1, v2, v3, v4, v5, x3', hV, s1, s2, e'⟩ := shN_loop (cs := cs) (z := z) (a := a) (p := p) (x4 := x4) xs (some x) ws1 r1 t1 u0 u1 u2 u3 u4 u5 (fun y hy => hx y (.tail _ hy)) hU (by omega) (by omega)
    exact ⟨ws', r', t', v0, v1, v2, v3, v4, v5, x3', hV, by simp only [List.length_cons]; omega, by omega, (e xs).trans e'⟩
end FP

set_option Elab.async false
set_option linter.all false
set_option maxRecDepth 100000
set_option maxHeartbeats 400000
namespace FP
open PySem FL
theorem shM_step {ws : List Nat} {cs : List Int} {r t z : Nat} {w0 w1 w2 w3 w4 w5 a p k : D} {x3 x4 : Option D} (hW : W6 w0 w1 w2 w3 w4 w5) (ht : t + 1 < 1099511627776) (hw : ws.length ≤ 1000) : ∃ (ws' : List Nat) (r' t' : Nat) (v0 v1 v2 v3 v4 v5 : D), W6 v0 v1 v2 v3 v4 v5 ∧ t' ≤ t + 2 ∧ ws'.length ≤ ws.length ∧ ∀ xs, forS 5 (gName 4) shB2 (k :: xs) (shS ws cs r t w0 w1 w2 w3 w4 w5 a p) (shV z x3 x4) = forS 5 (gName 4) shB2 xs (shS ws' cs r' t' v0 v1 v2 v3 v4 v5 a p) (shV z x3 (some k)) := by
  obtain ⟨ws1, r1, t1, d, h, hd, q1, q2⟩ := ePick (as := pkA) (L := shS ws cs r t w0 w1 w2 w3 w4 w5 a p) (env := shV z x3 (some k)) (L1 := shS ws cs r t w0 w1 w2 w3 w4 w5 a p ++ [.own (.p (.lst [.str "none", .str "forced"]))]) (ws := ws) (t := t) (cs := cs) (r := r) (M := shO (wordsD w0 w1 w2 w3 w4 w5) a p (.tup []) (.str "skip") ++ [g2]) (y := .h 4) (d0 := .str "none") (ds := [.str "forced"]) (by kernel_rfl) (by kernel_rfl) (by decide) (by omega) hw
  obtain ⟨ws', r', t', k', h', hk', q1', q2'⟩ := ePick (as := (aCons (eVar 0) (aCons (eCallG F_notes [] 0 0 [] [] aNil aNil) aNil))) (L := shS ws1 cs r1 t1 w0 w1 w2 w3 w4 w5 a p ++ [g2]) (env := shV z x3 (some k)) (L1 := shS ws1 cs r1 t1 w0 w1 w2 w3 w4 w5 a p ++ [g2]) (ws := ws1) (t := t1) (cs := cs) (r := r1) (M := shO (wordsD w0 w1 w2 w3 w4 w5) a p (.tup []) (.str "skip") ++ [g2]) (y := .d (.lst notesD)) (d0 := .str "begin") (ds := [.str "yes", .str "no", .str "ready", .str "agreed", .str "refused"]) (by kernel_rfl) (by kernel_rfl) (by decide) (by omega) (by omega)
  obtain ⟨v0, v1, v2, v3, v4, v5, hV, hp⟩ := put_word (ws := ws') (cs := cs) (r := r') (t := t') (a := a) (p := p) (G := [g2]) (isN_of hk') (isW_pk hd) hW
  refine ⟨ws', r', t', v0, v1, v2, v3, v4, v5, hV, by omega, by omega, fun xs => ?_⟩
  refine forS_nx (e1 := shV z x3 (some k)) (L1 := shS ws' cs r' t' v0 v1 v2 v3 v4 v5 a p ++ [g2]) (e2 := shV z x3 (some k)) (by cases x4 <;> kernel_rfl) ?_ (by cases x3 <;> kernel_rfl) (by cases x3 <;> kernel_rfl)
  exact sPut_val2 h (L2 := shS ws1 cs r1 t1 w0 w1 w2 w3 w4 w5 a p ++ [g2]) (x := .h 3) (by kernel_rfl) (L3 := shS ws' cs r' t' w0 w1 w2 w3 w4 w5 a p ++ [g2]) (y := .d k') h' hp
theorem shM_loop {cs : List Int} {z : Nat} {a p : D} {x3 : Option D} : ∀ (xs : List D) (x4 : Option D) (ws : List Nat) (r t : Nat) (w0 w1 w2 w3 w4 w5 : D), W6 w0 w1 w2 w3 w4 w5 → t + 2 * xs.length < 1099511627776 → ws.length ≤ 1000 → ∃ (ws' : List Nat) (r' t' : Nat) (v0 v1 v2 v3 v4 v5 : D) (x4' : Option D), W6 v0 v1 v2 v3 v4 v5 ∧ t' ≤ t + 2 * xs.length ∧ ws'.length ≤ ws.length ∧ forS 5 (gName 4) shB2 xs (shS ws cs r t w0 w1 w2 w3 w4 w5 a p) (shV z x3 x4) = some (.nx (shS ws' cs r' t' v0 v1 v2 v3 v4 v5 a p) (shV z x3 x4'))
  | [], x4, ws, r, t, w0, w1, w2, w3, w4, w5, hW, _, _ => ⟨ws, r, t, w0, w1, w2, w3, w4, w5, x4, hW, Nat.le_refl _, Nat.le_refl _, rfl⟩
  | x :: xs, x4, ws, r, t, w0, w1, w2, w3, w4, w5, hW, ht, hw => by
    simp only [List.length_cons] at ht
    obtain ⟨ws1, r1, t1, u0, u1, u2, u3, u4, u5, hU, q1, q2, e⟩ := shM_step (cs := cs) (r := r) (z := z) (a := a) (p := p) (k := x) (x3 := x3) (x4 := x4) hW (by omega : t + 1 < 1099511627776) hw
    obtain ⟨ws', r', t', v0, v1, v2, v3, v4, v5, x4', hV, s1, s2, e'⟩ := shM_loop (cs := cs) (z := z) (a := a) (p := p) (x3 := x3) xs (some x) ws1 r1 t1 u0 u1 u2 u3 u4 u5 hU (by omega) (by omega)
    exact ⟨ws', r', t', v0, v1, v2, v3, v4, v5, x4', hV, by simp only [List.length_cons]; omega, by omega, (e xs).trans e'⟩
theorem shL_loop {cs : List Int} {z : Nat} {a p : D} {x4 : Option D} {ws : List Nat} {r t : Nat} : ∀ (xs : List D) (x3 : Option D) (w0 w1 w2 w3 w4 w5 : D), (∀ x ∈ xs, isN x) → W6 w0 w1 w2 w3 w4 w5 → ∃ (v0 v1 v2 v3 v4 v5 : D) (x3' : Option D), W6 v0 v1 v2 v3 v4 v5 ∧ forS 5 (gName 3) shB3 xs (shS ws cs r t w0 w1 w2 w3 w4 w5 a p) (shV z x3 x4) = some (.nx (shS ws cs r t v0 v1 v2 v3 v4 v5 a p) (shV z x3' x4))
  | [], x3, w0, w1, w2, w3, w4, w5, _, hW => ⟨w0, w1, w2, w3, w4, w5, x3, hW, rfl⟩
  | x :: xs, x3, w0, w1, w2, w3, w4, w5, hx, hW => by
    obtain ⟨u0, u1, u2, u3, u4, u5, hU, hp⟩ := put_word (ws := ws) (cs := cs) (r := r) (t := t) (a := a) (p := p) (d := .str "lazy") (G := []) (hx x (.head _)) (.inr (.inl rfl)) hW
    obtain ⟨v0, v1, v2, v3, v4, v5, x3', hV, e'⟩ := shL_loop (cs := cs) (z := z) (a := a) (p := p) (x4 := x4) (ws := ws) (r := r) (t := t) xs (some x) u0 u1 u2 u3 u4 u5 (fun y hy => hx y (.tail _ hy)) hU
    refine ⟨v0, v1, v2, v3, v4, v5, x3', hV, Eq.trans ?_ e'⟩
    rw [List.append_nil, List.append_nil] at hp
    refine forS_nx (e1 := shV z (some x) x4) (L1 := shS ws cs r t u0 u1 u2 u3 u4 u5 a p) (e2 := shV z (some x) x4) (by cases x3 <;> kernel_rfl) ?_ (by cases x4 <;> kernel_rfl) (by cases x4 <;> kernel_rfl)
    exact sPut_val2 (L1 := shS ws cs r t w0 w1 w2 w3 w4 w5 a p) (z := .d (.str "lazy")) (by kernel_rfl) (L2 := shS ws cs r t w0 w1 w2 w3 w4 w5 a p) (x := .h 3) (by kernel_rfl) (L3 := shS ws cs r t w0 w1 w2 w3 w4 w5 a p) (y := .d x) (by kernel_rfl) hp
/-! ### sublists of the records -/
def selN (b0 b1 b2 b3 b4 b5 : Bool) : List D := cond b0 [.str "begin"] [] ++ (cond b1 [.str "yes"] [] ++ (cond b2 [.str "no"] [] ++ (cond b3 [.str "ready"] [] ++ (cond b4 [.str "agreed"] [] ++ (cond b5 [.str "refused"] [] ++ [])))))
def selS (b0 b1 b2 b3 b4 b5 : Bool) : List D := cond b4 [.str "agreed"] [] ++ (cond b0 [.str "begin"] [] ++ (cond b2 [.str "no"] [] ++ (cond b3 [.str "ready"] [] ++ (cond b5 [.str "refused"] [] ++ (cond b1 [.str "yes"] [] ++ [])))))
theorem sub_cons {x : D} {xs l : List D} (h : l.Sublist (x :: xs)) : ∃ b l', l = cond b [x] [] ++ l' ∧ l'.Sublist xs := by
  cases h with
  | cons _ h => exact ⟨false, l, rfl, h⟩
  | cons_cons _ h => exact ⟨true, _, rfl, h⟩
theorem sub_notes {l : List D} (h : l.Sublist notesD) : ∃ b0 b1 b2 b3 b4 b5, l = selN b0 b1 b2 b3 b4 b5 := by
  obtain ⟨b0, l0, e0, h0⟩ := sub_cons h
  obtain ⟨b1, l1, e1, h1⟩ := sub_cons h0
  obtain ⟨b2, l2, e2, h2⟩ := sub_cons h1
  obtain ⟨b3, l3, e3, h3⟩ := sub_cons h2
  obtain ⟨b4, l4, e4, h4⟩ := sub_cons h3
  obtain ⟨b5, l5, e5, h5⟩ := sub_cons h4
  cases h5
  exact ⟨b0, b1, b2, b3, b4, b5, by rw [e0, e1, e2, e3, e4, e5]; rfl⟩
def isR (d : D) : Prop := ∃ b0 b1 b2 b3 b4 b5, d = .tup (selS b0 b1 b2 b3 b4 b5)
def isS (d : D) : Prop := d = .str "skip" ∨ d = .str "cut"
theorem srt_notes : ∀ b0 b1 b2 b3 b4 b5 : Bool, alt2 fSorted (alt2 fSortedC fSortedD) [.lst (selN b0 b1 b2 b3 b4 b5)] = some (.lst (selS b0 b1 b2 b3 b4 b5)) := by
  intro b0 b1 b2 b3 b4 b5
  cases b0 <;> cases b1 <;> cases b2 <;> cases b3 <;> cases b4 <;> cases b5 <;> kernel_rfl
end FP

set_option Elab.async false
set_option linter.all false
set_option maxRecDepth 100000
set_option maxHeartbeats 400000
namespace FP
open PySem FL
abbrev sheetD (w a p rd s : D) : D := .dct [(.str "words", w), (.str "answers", a), (.str "presume", p), (.str "reads", rd), (.str "strange", s)]
theorem call_dr1o {m : Fn} {ws ws' : List Nat} {cs : List Int} {r r' : Nat} {t t' : Int} {e0 e1 : OE} (h : m (dr ws cs r t) [.h 0] = some (.val (dr ws' cs r' t' ++ [e0, e1]) (.h 2))) : callM m [true] (dr ws cs r t) [.h 0] = some (.val (mrg [0, 1] (dr ws cs r t) (dr ws' cs r' t' ++ [e0, e1])) (muV [0, 1] (dr ws cs r t).length (.h 2))) := by
  have e : callM m [true] (dr ws cs r t) [.h 0] = (match m (dr ws cs r t) [.h 0] with
    | some (.val L' x) => br (Nat.ble 2 L'.length) (some (.val (mrg [0, 1] (dr ws cs r t) L') (muV [0, 1] (dr ws cs r t).length x))) none
    | some (.exc L' x) => br (Nat.ble 2 L'.length) (some (.exc (mrg [0, 1] (dr ws cs r t) L') x)) none
    | none => none : Mo DV) := by kernel_rfl
  rw [e, h]
  kernel_rfl
theorem tVal_of {a : Ev} {L L1 : OL} {env : VEnv} {b : Bool} (h : a L env = some (.val L1 (.d (.bl b)))) : tVal a L env = some (.val L1 b) := by
  unfold tVal; rw [h]; cases b <;> rfl
theorem sFor_val {n : Nat} {i : Ei} {g : Gv} {b : Sv} {L L1 : OL} {env : VEnv} {xs : List D} (h : i L env = some (.val L1 xs)) : sFor n i g b L env = forS n g b xs (cmL n L1 env) (cmE n L1 env) := by unfold sFor; rw [h]; rfl
abbrev gA : OE := .fz (.lst [.tup [], .tup [.str "no"], .tup [.str "yes"], .tup [.str "no", .str "yes"]])
abbrev gP : OE := .fz (.lst [.str "no", .str "wait", .str "yes"])
abbrev gI : OE := .fz (.lst [.int 2, .int 2, .int 9])
abbrev gS : OE := .fz (.lst [.str "skip", .str "cut"])
/-- the first two statements -/
theorem sheet1 {ws : List Nat} {cs : List Int} {r t z : Nat} (ht : t + 10 < 1099511627776) (hw : ws.length ≤ 1000) : ∃ (ws' : List Nat) (r' t' : Nat) (w0 w1 w2 w3 w4 w5 a p : D) (x3 : Option D) (G : OL), W6 w0 w1 w2 w3 w4 w5 ∧ isA a ∧ isP p ∧ t' ≤ t + 10 ∧ ws'.length ≤ ws.length ∧ (G = [] ∨ G = [gA, gP]) ∧ ∀ k, sCons shC1 (sCons (sIf shC2t (sCons shC2a (sCons shC2b shC2c)) sNil) k) (dr ws cs r (.ofNat t)) [some (.h 0), some (.d (.int (.ofNat z))), none, none, none, some (.h 0), some (.h 1)] = k (shS ws' cs r' t' w0 w1 w2 w3 w4 w5 a p ++ G) (shV z x3 none) := by
  obtain ⟨ws1, r1, t1, w0, w1, w2, w3, w4, w5, a, p, h1, hW, hA, hP, q1, q2⟩ := known_ok (cs := cs) (r := r) (by omega : t < 1099511627776) hw
  have e1 : shC1 (dr ws cs r (.ofNat t)) [some (.h 0), some (.d (.int (.ofNat z))), none, none, none, some (.h 0), some (.h 1)] = some (.nx (shS ws1 cs r1 t1 w0 w1 w2 w3 w4 w5 a p) (shV z none none)) := by
    unfold shC1
    refine (sSet_val (eCallG_val (a := ([.h 0], [])) (zs := [.h 0]) (by kernel_rfl) (by kernel_rfl) (call_dr1o h1))).trans (by kernel_rfl)
  obtain ⟨ws2, r2, t2, v, h2, hv, q3, q4⟩ := eTake (as := (aCons (eVar 0) (aCons (eCst (.int 2)) aNil))) (L := shS ws1 cs r1 t1 w0 w1 w2 w3 w4 w5 a p) (env := shV z none none) (M := shO (wordsD w0 w1 w2 w3 w4 w5) a p (.tup []) (.str "skip")) (ws := ws1) (cs := cs) (r := r1) (t := t1) (n := 1) (by kernel_rfl) (by decide) (by omega) (by omega)
  match v, hv with
  | 1, _ =>
    refine ⟨ws2, r2, t2, w0, w1, w2, w3, w4, w5, a, p, none, [], hW, hA, hP, by omega, by omega, .inl rfl, fun k => ?_⟩
    rw [sCons_nx e1]
    refine (sCons_nx (L1 := shS ws2 cs r2 t2 w0 w1 w2 w3 w4 w5 a p) (e1 := shV z none none) ?_).trans (by rw [List.append_nil])
    refine (sIf_f (L1 := shS ws2 cs r2 t2 w0 w1 w2 w3 w4 w5 a p) (tVal_of ?_)).trans rfl
    exact (eOp_val h2 (L2 := shS ws2 cs r2 t2 w0 w1 w2 w3 w4 w5 a p) (y := .d (.int 0)) (by kernel_rfl)).trans (by kernel_rfl)
  | 0, _ =>
    obtain ⟨ws3, r3, t3, v0, v1, v2, v3, v4, v5, x3, hV, q5, q6, e3⟩ := shN_loop (cs := cs) (z := z) (a := a) (p := p) (x4 := none) notesD none ws2 r2 t2 w0 w1 w2 w3 w4 w5 (fun x hx => isN_of hx) hW (by show t2 + 6 ≤ _; omega) (by omega)
    have q5' : t3 ≤ t2 + 6 := q5
    obtain ⟨ws4, r4, t4, a', h4, ha', q7, q8⟩ := ePick (as := (aCons (eVar 0) (aCons (eLst (aCons (eTup aNil) (aCons (eTup (aCons (eCst (.str "no")) aNil)) (aCons (eTup (aCons (eCst (.str "yes")) aNil)) (aCons (eTup (aCons (eCst (.str "no")) (aCons (eCst (.str "yes")) aNil))) aNil))))) aNil))) (L := shS ws3 cs r3 t3 v0 v1 v2 v3 v4 v5 a p) (env := shV z x3 none) (L1 := shS ws3 cs r3 t3 v0 v1 v2 v3 v4 v5 a p ++ [.own (.p (.lst [.tup [], .tup [.str "no"], .tup [.str "yes"], .tup [.str "no", .str "yes"]]))]) (ws := ws3) (cs := cs) (r := r3) (t := t3) (M := shO (wordsD v0 v1 v2 v3 v4 v5) a p (.tup []) (.str "skip") ++ [gA]) (y := .h 4) (d0 := .tup []) (ds := [.tup [.str "no"], .tup [.str "yes"], .tup [.str "no", .str "yes"]]) (by kernel_rfl) (by kernel_rfl) (by decide) (by omega) (by omega)
    obtain ⟨ws5, r5, t5, p', h5, hp', q9, q10⟩ := ePick (as := (aCons (eVar 0) (aCons (eLst (aCons (eCst (.str "no")) (aCons (eCst (.str "wait")) (aCons (eCst (.str "yes")) aNil)))) aNil))) (L := shS ws4 cs r4 t4 v0 v1 v2 v3 v4 v5 a' p ++ [gA]) (env := shV z x3 none) (L1 := shS ws4 cs r4 t4 v0 v1 v2 v3 v4 v5 a' p ++ [gA, .own (.p (.lst [.str "no", .str "wait", .str "yes"]))]) (ws := ws4) (cs := cs) (r := r4) (t := t4) (M := shO (wordsD v0 v1 v2 v3 v4 v5) a' p (.tup []) (.str "skip") ++ [gA, gP]) (y := .h 5) (d0 := .str "no") (ds := [.str "wait", .str "yes"]) (by kernel_rfl) (by kernel_rfl) (by decide) (by omega) (by omega)
    have hA' : isA a' := by
      simp at ha'
      rcases ha' with rfl | rfl | rfl | rfl
      · exact .inl rfl
      · exact .inr (.inl rfl)
      · exact .inr (.inr (.inl rfl))
      · exact .inr (.inr (.inr rfl))
    have hP' : isP p' := by
      simp at hp'
      exact hp'
    refine ⟨ws5, r5, t5, v0, v1, v2, v3, v4, v5, a', p', x3, [gA, gP], hV, hA', hP', by omega, by omega, .inr rfl, fun k => ?_⟩
    rw [sCons_nx e1]
    refine (sCons_nx (L1 := shS ws5 cs r5 t5 v0 v1 v2 v3 v4 v5 a' p' ++ [gA, gP]) (e1 := shV z x3 none) ?_)
    refine (sIf_t (L1 := shS ws2 cs r2 t2 w0 w1 w2 w3 w4 w5 a p) (tVal_of ?_)).trans ?_
    · exact (eOp_val h2 (L2 := shS ws2 cs r2 t2 w0 w1 w2 w3 w4 w5 a p) (y := .d (.int 0)) (by kernel_rfl)).trans (by kernel_rfl)
    refine (sCons_nx (L1 := shS ws3 cs r3 t3 v0 v1 v2 v3 v4 v5 a p) (e1 := shV z x3 none) ?_).trans ?_
    · unfold shC2a
      refine (sFor_val (L1 := shS ws2 cs r2 t2 w0 w1 w2 w3 w4 w5 a p) (xs := notesD) (by kernel_rfl)).trans (Eq.trans ?_ e3)
      kernel_rfl
    refine (sCons_nx (L1 := shS ws4 cs r4 t4 v0 v1 v2 v3 v4 v5 a' p ++ [gA]) (e1 := shV z x3 none) ?_).trans ?_
    · exact sPut_val2 h4 (L2 := shS ws4 cs r4 t4 v0 v1 v2 v3 v4 v5 a p ++ [gA]) (x := .h 2) (by kernel_rfl) (L3 := shS ws4 cs r4 t4 v0 v1 v2 v3 v4 v5 a p ++ [gA]) (y := .d (.str "answers")) (by kernel_rfl) (by kernel_rfl)
    · exact sPut_val2 h5 (L2 := shS ws5 cs r5 t5 v0 v1 v2 v3 v4 v5 a' p ++ [gA, gP]) (x := .h 2) (by kernel_rfl) (L3 := shS ws5 cs r5 t5 v0 v1 v2 v3 v4 v5 a' p ++ [gA, gP]) (y := .d (.str "presume")) (by kernel_rfl) (by kernel_rfl)
end FP

set_option Elab.async false
set_option linter.all false
set_option maxRecDepth 100000
set_option maxHeartbeats 400000
namespace FP
open PySem FL
theorem eSlice_val {a : Ev} {l u : Eo} {L L1 L2 L3 : OL} {env : VEnv} {x : DV} {i j : Option Int} (ha : a L env = some (.val L1 x)) (hl : l L1 env = some (.val L2 i)) (hu : u L2 env = some (.val L3 j)) : eSlice a l u L env = fin L3 (obnd (see L3 x) (fSl i j)) := by
  unfold eSlice; rw [ha]; dsimp only [bnd]; rw [hl]; dsimp only; rw [hu]
theorem oSome_val {a : Ev} {L L1 : OL} {env : VEnv} {i : Int} (ha : a L env = some (.val L1 (.d (.int i)))) : oSome a L env = some (.val L1 (some i)) := by unfold oSome; rw [ha]; rfl
theorem iItE_val {a : Ev} {L L1 L2 : OL} {env : VEnv} {x : DV} {d : D} {xs : List D} (ha : a L env = some (.val L1 x)) (hf : Fz L1 x = some (.val L2 d)) (hi : itOf d = some xs) : iItE a L env = some (.val L2 xs) := by
  unfold iItE; rw [ha]; dsimp only [bnd]; rw [hf]; dsimp only; rw [hi]; rfl
theorem cutD_mem {xs : List D} {lo hi : Option Int} {x : D} (h : x ∈ cutD xs lo hi) : x ∈ xs := by
  unfold cutD at h
  exact List.mem_of_mem_drop (List.mem_of_mem_take h)
theorem cutD_len {xs : List D} {lo hi : Option Int} : (cutD xs lo hi).length ≤ xs.length := by
  unfold cutD
  rw [List.length_take, List.length_drop]; omega
/-- the loops -/
theorem sheet2 {ws : List Nat} {cs : List Int} {r t z : Nat} {w0 w1 w2 w3 w4 w5 a p : D} {x3 : Option D} {G : OL} (hz : z < 1000) (hG : G = [] ∨ G = [gA, gP]) (hW : W6 w0 w1 w2 w3 w4 w5) (ht : t + 10 < 1099511627776) (hw : ws.length ≤ 1000) : ∃ (ws' : List Nat) (r' t' : Nat) (v0 v1 v2 v3 v4 v5 : D) (x3' x4 : Option D), W6 v0 v1 v2 v3 v4 v5 ∧ t' ≤ t + 10 ∧ ws'.length ≤ ws.length ∧ ∀ k, sCons shC3 k (shS ws cs r t w0 w1 w2 w3 w4 w5 a p ++ G) (shV z x3 none) = k (shS ws' cs r' t' v0 v1 v2 v3 v4 v5 a p) (shV z x3' x4) := by
  obtain ⟨ws2, r2, t2, v, h2, hv, q3, q4⟩ := eTake (as := (aCons (eVar 0) (aCons (eCst (.int 3)) aNil))) (L := shS ws cs r t w0 w1 w2 w3 w4 w5 a p ++ G) (env := shV z x3 none) (M := shO (wordsD w0 w1 w2 w3 w4 w5) a p (.tup []) (.str "skip") ++ G) (ws := ws) (cs := cs) (r := r) (t := t) (n := 2) (by kernel_rfl) (by decide) (by omega) (by omega)
  have hr : (rangeD 0 v).length ≤ 2 := by
    match v, hv with
    | 0, _ => decide
    | 1, _ => decide
    | 2, _ => decide
  obtain ⟨ws3, r3, t3, v0, v1, v2, v3, v4, v5, x4, hV, q5, q6, e3⟩ := shM_loop (cs := cs) (z := z) (a := a) (p := p) (x3 := x3) (rangeD 0 v) none ws2 r2 t2 w0 w1 w2 w3 w4 w5 hW (by omega) (by omega)
  refine ⟨ws3, r3, t3, v0, v1, v2, v3, v4, v5, x3, x4, hV, by omega, by omega, fun k => ?_⟩
  refine sCons_nx ?_
  unfold shC3
  refine (sFor_val (L1 := shS ws2 cs r2 t2 w0 w1 w2 w3 w4 w5 a p ++ G) (xs := rangeD 0 v) ?_).trans (Eq.trans ?_ e3)
  · have h4 := aCons_val (b := aNil) (L2 := dr ws2 cs r2 (.ofNat t2) ++ (shO (wordsD w0 w1 w2 w3 w4 w5) a p (.tup []) (.str "skip") ++ G)) (xs := []) h2 (by kernel_rfl)
    unfold iRange1
    rw [h4]
    match v, hv with
    | 0, _ => kernel_rfl
    | 1, _ => kernel_rfl
    | 2, _ => kernel_rfl
  · rcases hG with rfl | rfl <;> cases x3 <;> kernel_rfl
theorem sheet3 {ws : List Nat} {cs : List Int} {r t z : Nat} {w0 w1 w2 w3 w4 w5 a p : D} {x3 x4 : Option D} (hz : z < 1000) (hW : W6 w0 w1 w2 w3 w4 w5) (ht : t + 10 < 1099511627776) (hw : ws.length ≤ 1000) : ∃ (ws' : List Nat) (r' t' : Nat) (v0 v1 v2 v3 v4 v5 : D) (x3' x4' : Option D), W6 v0 v1 v2 v3 v4 v5 ∧ t' ≤ t + 10 ∧ ws'.length ≤ ws.length ∧ ∀ k, sCons shC4 k (shS ws cs r t w0 w1 w2 w3 w4 w5 a p) (shV z x3 x4) = k (shS ws' cs r' t' v0 v1 v2 v3 v4 v5 a p) (shV z x3' x4') := by
  obtain ⟨ws2, r2, t2, out, h2, hp, q1, q2⟩ := eShuf (as := (aCons (eVar 0) (aCons (eCallG F_notes [] 0 0 [] [] aNil aNil) aNil))) (L := shS ws cs r t w0 w1 w2 w3 w4 w5 a p) (env := shV z x3 x4) (ws := ws) (cs := cs) (r := r) (t := t) (M := shO (wordsD w0 w1 w2 w3 w4 w5) a p (.tup []) (.str "skip")) (ss := ["begin", "yes", "no", "ready", "agreed", "refused"]) (by kernel_rfl) (by decide) (by show t + 6 < _; omega) hw
  have q1' : t2 ≤ t + 6 := q1
  obtain ⟨ws3, r3, t3, v, h3, hv, q3, q4⟩ := eTake (as := (aCons (eVar 0) (aCons (eOp fAdd (eVar 1) (eCst (.int 1))) aNil))) (L := shS ws2 cs r2 t2 w0 w1 w2 w3 w4 w5 a p) (env := shV z x3 x4) (M := shO (wordsD w0 w1 w2 w3 w4 w5) a p (.tup []) (.str "skip")) (ws := ws2) (cs := cs) (r := r2) (t := t2) (n := z) (by kernel_rfl) (by omega) (by omega) (by omega)
  have hN : ∀ x ∈ cutD (st out) none (some (.ofNat v)), isN x := fun x hx => by
    have h := cutD_mem hx
    obtain ⟨s, hs, rfl⟩ := List.mem_map.mp h
    have := hp.mem_iff.mp hs
    exact isN_of (List.mem_map_of_mem (f := D.str) this)
  obtain ⟨v0, v1, v2, v3, v4, v5, x3', hV, e⟩ := shL_loop (cs := cs) (z := z) (a := a) (p := p) (x4 := x4) (ws := ws3) (r := r3) (t := t3) (cutD (st out) none (some (.ofNat v))) x3 w0 w1 w2 w3 w4 w5 hN hW
  refine ⟨ws3, r3, t3, v0, v1, v2, v3, v4, v5, x3', x4, hV, by omega, by omega, fun k => ?_⟩
  refine sCons_nx ?_
  unfold shC4 shC4i
  refine (sFor_val (L1 := shS ws3 cs r3 t3 w0 w1 w2 w3 w4 w5 a p ++ [.fz (.lst (cutD (st out) none (some (.ofNat v))))]) (xs := cutD (st out) none (some (.ofNat v))) ?_).trans (Eq.trans ?_ e)
  · refine iItE_val (L1 := shS ws3 cs r3 t3 w0 w1 w2 w3 w4 w5 a p ++ [.own (.p (.lst (cutD (st out) none (some (.ofNat v)))))]) (x := .h 4) (d := .lst (cutD (st out) none (some (.ofNat v)))) ?_ (by kernel_rfl) (by kernel_rfl)
    exact (eSlice_val (i := none) h2 (by kernel_rfl) (oSome_val h3)).trans (by kernel_rfl)
  · cases x3 <;> cases x4 <;> kernel_rfl
/-- what is read -/
theorem sheet4 {ws : List Nat} {cs : List Int} {r t z : Nat} {w0 w1 w2 w3 w4 w5 a p : D} {x3 x4 : Option D} (ht : t + 10 < 1099511627776) (hw : ws.length ≤ 1000) : ∃ (ws' : List Nat) (r' t' : Nat) (rd s : D) (g : OE), isR rd ∧ isS s ∧ t' ≤ t + 10 ∧ ws'.length ≤ ws.length ∧ sCons shC5 (sCons shC6 (sRet (eVar 2))) (shS ws cs r t w0 w1 w2 w3 w4 w5 a p) (shV z x3 x4) = some (.rt (dr ws' cs r' (.ofNat t') ++ shO (wordsD w0 w1 w2 w3 w4 w5) a p rd s ++ [gI, g, gS]) (.h 2) (shV z x3 x4)) := by
  obtain ⟨ws1, r1, t1, k, h1, hk, q1, q2⟩ := ePick (as := (aCons (eVar 0) (aCons (eLst (aCons (eCst (.int 2)) (aCons (eCst (.int 2)) (aCons (eCst (.int 9)) aNil)))) aNil))) (L := shS ws cs r t w0 w1 w2 w3 w4 w5 a p) (env := shV z x3 x4) (L1 := shS ws cs r t w0 w1 w2 w3 w4 w5 a p ++ [.own (.p (.lst [.int 2, .int 2, .int 9]))]) (ws := ws) (cs := cs) (r := r) (t := t) (M := shO (wordsD w0 w1 w2 w3 w4 w5) a p (.tup []) (.str "skip") ++ [gI]) (y := .h 4) (d0 := .int 2) (ds := [.int 2, .int 9]) (by kernel_rfl) (by kernel_rfl) (by decide) (by omega) (by omega)
  have hk' : ∃ n, k = .int (.ofNat (n + 1)) ∧ n + 1 < 1073741824 := by
    simp at hk
    rcases hk with rfl | rfl
    · exact ⟨1, rfl, by decide⟩
    · exact ⟨8, rfl, by decide⟩
  obtain ⟨n, rfl, hn⟩ := hk'
  have c1 : aGo (aCons (eVar 0) (aCons (eCallG F_notes [] 0 0 [] [] aNil aNil) (aCons (eCallG F_pick [true, false] 2 0 [0, 1] [] (aCons (eVar 0) (aCons (eLst (aCons (eCst (.int 2)) (aCons (eCst (.int 2)) (aCons (eCst (.int 9)) aNil)))) aNil)) aNil) aNil))) aNil (shS ws cs r t w0 w1 w2 w3 w4 w5 a p) (shV z x3 x4) = some (.val (dr ws1 cs r1 (.ofNat t1) ++ (shO (wordsD w0 w1 w2 w3 w4 w5) a p (.tup []) (.str "skip") ++ [gI])) ([.h 0, .d (.lst notesD), .d (.int (.ofNat (n + 1)))], [])) := by
    have e := aCons_val (a := eVar 0) (b := (aCons (eCallG F_notes [] 0 0 [] [] aNil aNil) (aCons (eCallG F_pick [true, false] 2 0 [0, 1] [] (aCons (eVar 0) (aCons (eLst (aCons (eCst (.int 2)) (aCons (eCst (.int 2)) (aCons (eCst (.int 9)) aNil)))) aNil)) aNil) aNil))) (L := shS ws cs r t w0 w1 w2 w3 w4 w5 a p) (L1 := shS ws cs r t w0 w1 w2 w3 w4 w5 a p) (env := shV z x3 x4) (x := .h 0) (by kernel_rfl) (aCons_val (L1 := shS ws cs r t w0 w1 w2 w3 w4 w5 a p) (x := .d (.lst notesD)) (by kernel_rfl) (aCons_val (b := aNil) h1 (L2 := dr ws1 cs r1 (.ofNat t1) ++ (shO (wordsD w0 w1 w2 w3 w4 w5) a p (.tup []) (.str "skip") ++ [gI])) (xs := []) (by kernel_rfl)))
    unfold aGo; rw [e]; kernel_rfl
  obtain ⟨ws2, r2, t2, out, h2, ho, q3, q4⟩ := eAnyOf c1 hn (by decide) (by show t1 + 6 < _; omega) (by omega)
  have q3' : t2 ≤ t1 + 6 := q3
  obtain ⟨b0, b1, b2, b3, b4, b5, rfl⟩ := sub_notes ho
  have h3 := (eCb_val (fn := alt2 fSorted (alt2 fSortedC fSortedD)) (aCons_val (b := aNil) (L2 := dr ws2 cs r2 (.ofNat t2) ++ (shO (wordsD w0 w1 w2 w3 w4 w5) a p (.tup []) (.str "skip") ++ [gI])) (xs := []) h2 (by kernel_rfl)))
  rw [show obnd (sees (dr ws2 cs r2 (.ofNat t2) ++ (shO (wordsD w0 w1 w2 w3 w4 w5) a p (.tup []) (.str "skip") ++ [gI])) [.d (.lst (selN b0 b1 b2 b3 b4 b5))]) (alt2 fSorted (alt2 fSortedC fSortedD)) = some (.lst (selS b0 b1 b2 b3 b4 b5)) from srt_notes b0 b1 b2 b3 b4 b5] at h3
  have h3' := h3.trans (show _ = some (.val (dr ws2 cs r2 (.ofNat t2) ++ (shO (wordsD w0 w1 w2 w3 w4 w5) a p (.tup []) (.str "skip") ++ [gI, .own (.p (.lst (selS b0 b1 b2 b3 b4 b5)))])) (.h 5)) by kernel_rfl)
  have h4 := (eCb_val (fn := fTuple) (aCons_val (b := aNil) (L2 := dr ws2 cs r2 (.ofNat t2) ++ (shO (wordsD w0 w1 w2 w3 w4 w5) a p (.tup []) (.str "skip") ++ [gI, .own (.p (.lst (selS b0 b1 b2 b3 b4 b5)))])) (x := .h 5) (xs := []) h3' (by kernel_rfl)))
  have h5 : shC5e (shS ws cs r t w0 w1 w2 w3 w4 w5 a p) (shV z x3 x4) = some (.val (dr ws2 cs r2 (.ofNat t2) ++ (shO (wordsD w0 w1 w2 w3 w4 w5) a p (.tup []) (.str "skip") ++ [gI, .own (.p (.lst (selS b0 b1 b2 b3 b4 b5)))])) (.d (.tup (selS b0 b1 b2 b3 b4 b5)))) := by
    refine h4.trans ?_
    cases b0 <;> cases b1 <;> cases b2 <;> cases b3 <;> cases b4 <;> cases b5 <;> kernel_rfl
  obtain ⟨ws3, r3, t3, s, h6, hs, q5, q6⟩ := ePick (as := (aCons (eVar 0) (aCons (eLst (aCons (eCst (.str "skip")) (aCons (eCst (.str "cut")) aNil))) aNil))) (L := dr ws2 cs r2 (.ofNat t2) ++ shO (wordsD w0 w1 w2 w3 w4 w5) a p (.tup (selS b0 b1 b2 b3 b4 b5)) (.str "skip") ++ [gI, .own (.p (.lst (selS b0 b1 b2 b3 b4 b5)))]) (env := shV z x3 x4) (L1 := dr ws2 cs r2 (.ofNat t2) ++ shO (wordsD w0 w1 w2 w3 w4 w5) a p (.tup (selS b0 b1 b2 b3 b4 b5)) (.str "skip") ++ [gI, .own (.p (.lst (selS b0 b1 b2 b3 b4 b5))), .own (.p (.lst [.str "skip", .str "cut"]))]) (ws := ws2) (cs := cs) (r := r2) (t := t2) (M := shO (wordsD w0 w1 w2 w3 w4 w5) a p (.tup (selS b0 b1 b2 b3 b4 b5)) (.str "skip") ++ [gI, .own (.p (.lst (selS b0 b1 b2 b3 b4 b5))), gS]) (y := .h 6) (d0 := .str "skip") (ds := [.str "cut"]) (by kernel_rfl) (by kernel_rfl) (by decide) (by omega) (by omega)
  have hS : isS s := by simp at hs; exact hs
  refine ⟨ws3, r3, t3, .tup (selS b0 b1 b2 b3 b4 b5), s, .own (.p (.lst (selS b0 b1 b2 b3 b4 b5))), ⟨b0, b1, b2, b3, b4, b5, rfl⟩, hS, by omega, by omega, ?_⟩
  refine (sCons_nx (L1 := dr ws2 cs r2 (.ofNat t2) ++ shO (wordsD w0 w1 w2 w3 w4 w5) a p (.tup (selS b0 b1 b2 b3 b4 b5)) (.str "skip") ++ [gI, .own (.p (.lst (selS b0 b1 b2 b3 b4 b5)))]) (e1 := shV z x3 x4) ?_).trans ?_
  · exact sPut_val2 h5 (L2 := shS ws2 cs r2 t2 w0 w1 w2 w3 w4 w5 a p ++ [gI, .own (.p (.lst (selS b0 b1 b2 b3 b4 b5)))]) (x := .h 2) (by kernel_rfl) (L3 := shS ws2 cs r2 t2 w0 w1 w2 w3 w4 w5 a p ++ [gI, .own (.p (.lst (selS b0 b1 b2 b3 b4 b5)))]) (y := .d (.str "reads")) (by kernel_rfl) (by kernel_rfl)
  refine (sCons_nx (L1 := dr ws3 cs r3 (.ofNat t3) ++ shO (wordsD w0 w1 w2 w3 w4 w5) a p (.tup (selS b0 b1 b2 b3 b4 b5)) s ++ [gI, .own (.p (.lst (selS b0 b1 b2 b3 b4 b5))), gS]) (e1 := shV z x3 x4) ?_).trans (by kernel_rfl)
  exact sPut_val2 h6 (L2 := dr ws3 cs r3 (.ofNat t3) ++ shO (wordsD w0 w1 w2 w3 w4 w5) a p (.tup (selS b0 b1 b2 b3 b4 b5)) (.str "skip") ++ [gI, .own (.p (.lst (selS b0 b1 b2 b3 b4 b5))), gS]) (x := .h 2) (by kernel_rfl) (L3 := dr ws3 cs r3 (.ofNat t3) ++ shO (wordsD w0 w1 w2 w3 w4 w5) a p (.tup (selS b0 b1 b2 b3 b4 b5)) (.str "skip") ++ [gI, .own (.p (.lst (selS b0 b1 b2 b3 b4 b5))), gS]) (y := .d (.str "strange")) (by kernel_rfl) (by kernel_rfl)
/-- a sheet -/
theorem sheet_ok {ws : List Nat} {cs : List Int} {r t z : Nat} (hz : z < 1000) (ht : t + 40 < 1099511627776) (hw : ws.length ≤ 1000) : ∃ (ws' : List Nat) (r' t' : Nat) (w0 w1 w2 w3 w4 w5 a p rd s : D), F_sheet (dr ws cs r (.ofNat t)) [.h 0, .d (.int (.ofNat z))] = some (.val (dr ws' cs r' (.ofNat t')) (.d (sheetD (wordsD w0 w1 w2 w3 w4 w5) a p rd s))) ∧ W6 w0 w1 w2 w3 w4 w5 ∧ isA a ∧ isP p ∧ isR rd ∧ isS s ∧ t' ≤ t + 40 ∧ ws'.length ≤ ws.length := by
  obtain ⟨ws1, r1, t1, u0, u1, u2, u3, u4, u5, a, p, x3, G, hU, hA, hP, q1, q2, hG, e1⟩ := sheet1 (cs := cs) (r := r) (z := z) (by omega : t + 10 < _) hw
  obtain ⟨ws2, r2, t2, v0, v1, v2, v3, v4, v5, x3', x4, hV, q3, q4, e2⟩ := sheet2 (cs := cs) (r := r1) (a := a) (p := p) (x3 := x3) hz hG hU (by omega : t1 + 10 < _) (by omega : ws1.length ≤ 1000)
  obtain ⟨ws3, r3, t3, w0, w1, w2, w3, w4, w5, x3'', x4', hW, q5, q6, e3⟩ := sheet3 (cs := cs) (r := r2) (a := a) (p := p) (x3 := x3') (x4 := x4) hz hV (by omega : t2 + 10 < _) (by omega : ws2.length ≤ 1000)
  obtain ⟨ws4, r4, t4, rd, s, g, hR, hS, q7, q8, e4⟩ := sheet4 (cs := cs) (r := r3) (z := z) (w0 := w0) (w1 := w1) (w2 := w2) (w3 := w3) (w4 := w4) (w5 := w5) (a := a) (p := p) (x3 := x3'') (x4 := x4') (by omega : t3 + 10 < _) (by omega : ws3.length ≤ 1000)
  refine ⟨ws4, r4, t4, w0, w1, w2, w3, w4, w5, a, p, rd, s, ?_, hW, hA, hP, hR, hS, by omega, by omega⟩
  have e : F_sheet (dr ws cs r (.ofNat t)) [.h 0, .d (.int (.ofNat z))] = endF false 5 (sCons shC1 (sCons (sIf shC2t (sCons shC2a (sCons shC2b shC2c)) sNil) (sCons shC3 (sCons shC4 (sCons shC5 (sCons shC6 (sRet (eVar 2))))))) (dr ws cs r (.ofNat t)) [some (.h 0), some (.d (.int (.ofNat z))), none, none, none, some (.h 0), some (.h 1)]) := by kernel_rfl
  rw [e, e1, e2, e3, e4]
  cases x3'' <;> cases x4' <;> kernel_rfl
end FP

set_option Elab.async false
set_option linter.all false
set_option maxRecDepth 100000
set_option maxHeartbeats 400000
namespace FP
open PySem FL
def bgT : Et := tVal (eOp fGe (eCb fAbs (aCons (eVar 2) aNil)) (eOp fPow (eCst (.int 10)) (eCst (.int 18))))
def bgE : Ev := eOp fSub (eCb fAbs (aCons (eVar 2) aNil)) (eOp fPow (eCst (.int 10)) (eCst (.int 18)))
def bgC : Ev := eOp fMod (eCb fIntB (aCons (eCb fAbs (aCons (eVar 2) aNil)) aNil)) (eCst (.int 2147483629))
def F_begun : Fn := mkF true 3 1 (sCons (sSet 1 (eLc [2] (iItE (eVar 0)) (gName 2) bgT bgE))
  (sRet (eDict (pCons (eCst (.str "wide")) (eVar 1) (pCons (eCst (.str "cells")) (eFzE (eLc [2] (iItE (eVar 0)) (gName 2) tYesE bgC)) (pCons (eCst (.str "rest")) (eCst (.int 0)) (pCons (eCst (.str "turn")) (eCst (.int 0)) pNil)))))))
def bgV (ds : List D) (x1 x2 : Option DV) : VEnv := [some (.d (.lst ds)), x1, x2]
theorem abs_nat (i : Int) : (if i < 0 then -i else i) = .ofNat i.natAbs := by
  show _ = ((i.natAbs : Nat) : Int)
  split <;> omega
theorem bg_test {ds : List D} {L : OL} {i : Int} {x1 : Option DV} : bgT L (bgV ds x1 (some (.d (.int i)))) = some (.val L (decide ((10 : Int) ^ 18 ≤ .ofNat i.natAbs))) := by
  rw [← abs_nat]; kernel_rfl
theorem bg_elem {ds : List D} {L : OL} {i : Int} {x1 : Option DV} (h : (10 : Int) ^ 18 ≤ .ofNat i.natAbs) : bgE L (bgV ds x1 (some (.d (.int i)))) = some (.val L (.d (.int (.ofNat (i.natAbs - 10 ^ 18))))) := by
  have e : (Int.ofNat (i.natAbs - 10 ^ 18)) = (if i < 0 then -i else i) - (10 : Int) ^ 18 := by
    rw [abs_nat]
    show (((i.natAbs - 10 ^ 18 : Nat)) : Int) = ((i.natAbs : Nat) : Int) - _
    have : (10 : Int) ^ 18 ≤ ((i.natAbs : Nat) : Int) := h
    omega
  rw [e]; kernel_rfl
theorem bg_loop1 {ds : List D} : ∀ (xs : List Int) (acc : List Nat), acc.length + xs.length ≤ 1000 → ∃ out : List Nat, lcF 0 (gName 2) bgT bgE (bgV ds none none) (xs.map D.int) [.own (.p (.lst (nt acc)))] = some (.val [.own (.p (.lst (nt (acc ++ out))))] ()) ∧ out.length ≤ xs.length
  | [], acc, _ => ⟨[], by rw [List.append_nil]; rfl, Nat.le_refl _⟩
  | i :: xs, acc, h => by
    simp only [List.length_cons] at h
    by_cases hi : (10 : Int) ^ 18 ≤ .ofNat i.natAbs
    · obtain ⟨out, e, q⟩ := bg_loop1 (ds := ds) xs (acc ++ [i.natAbs - 10 ^ 18]) (by simp; omega)
      refine ⟨(i.natAbs - 10 ^ 18) :: out, ?_, by simp only [List.length_cons]; omega⟩
      rw [List.append_assoc] at e
      refine ((lcF_t (e1 := bgV ds none (some (.d (.int i)))) (L1 := [.own (.p (.lst (nt acc)))]) (L2 := [.own (.p (.lst (nt acc)))]) (L3 := [.own (.p (.lst (nt acc)))]) (y := .d (.int (.ofNat (i.natAbs - 10 ^ 18)))) (d := .int (.ofNat (i.natAbs - 10 ^ 18))) (acc := nt acc) (by kernel_rfl) (by rw [bg_test, decide_eq_true hi]) (bg_elem hi) (by kernel_rfl) (by kernel_rfl) (by rw [List.length_map]; exact Nat.ble_eq_true_of_le (by omega))).trans ?_).trans e
      rw [show nt (acc ++ [i.natAbs - 10 ^ 18]) = nt acc ++ [.int (.ofNat (i.natAbs - 10 ^ 18))] by simp [nt]]
      kernel_rfl
    · obtain ⟨out, e, q⟩ := bg_loop1 (ds := ds) xs acc (by omega)
      refine ⟨out, ?_, by simp only [List.length_cons]; omega⟩
      exact ((lcF_f (e1 := bgV ds none (some (.d (.int i)))) (L1 := [.own (.p (.lst (nt acc)))]) (by kernel_rfl) (by rw [bg_test, decide_eq_false hi])).trans (by kernel_rfl)).trans e
abbrev celD (is : List Int) : List D := is.map D.int
theorem bg_loop2 {ds : List D} {ws : List Nat} : ∀ (xs acc : List Int), acc.length + xs.length ≤ 1000 → ∃ out : List Int, lcF 2 (gName 2) tYesE bgC (bgV ds (some (.h 0)) none) (xs.map D.int) [.own (.p (.lst (nt ws))), .own (.p (.dct [])), .own (.p (.lst (celD acc)))] = some (.val [.own (.p (.lst (nt ws))), .own (.p (.dct [])), .own (.p (.lst (celD (acc ++ out))))] ())
  | [], acc, _ => ⟨[], by rw [List.append_nil]; rfl⟩
  | i :: xs, acc, h => by
    simp only [List.length_cons] at h
    obtain ⟨out, e⟩ := bg_loop2 (ds := ds) (ws := ws) xs (acc ++ [Int.fmod (if i < 0 then -i else i) 2147483629]) (by simp; omega)
    refine ⟨(Int.fmod (if i < 0 then -i else i) 2147483629) :: out, ?_⟩
    rw [List.append_assoc] at e
    refine ((lcF_t (e1 := bgV ds (some (.h 0)) (some (.d (.int i)))) (L1 := [.own (.p (.lst (nt ws))), .own (.p (.dct [])), .own (.p (.lst (celD acc)))]) (L2 := [.own (.p (.lst (nt ws))), .own (.p (.dct [])), .own (.p (.lst (celD acc)))]) (L3 := [.own (.p (.lst (nt ws))), .own (.p (.dct [])), .own (.p (.lst (celD acc)))]) (y := .d (.int (Int.fmod (if i < 0 then -i else i) 2147483629))) (d := .int (Int.fmod (if i < 0 then -i else i) 2147483629)) (acc := celD acc) (by kernel_rfl) (by kernel_rfl) (by kernel_rfl) (by kernel_rfl) (by kernel_rfl) (by rw [List.length_map]; exact Nat.ble_eq_true_of_le (by omega))).trans ?_).trans e
    rw [show celD (acc ++ [Int.fmod (if i < 0 then -i else i) 2147483629]) = celD acc ++ [.int (Int.fmod (if i < 0 then -i else i) 2147483629)] by simp [celD]]
    kernel_rfl
/-- the draw at the beginning -/
theorem begun_ok {ns : List Int} (hl : ns.length ≤ 1000) : ∃ (ws : List Nat) (cs : List Int), F_begun [] [.d (.lst (ns.map D.int))] = some (.val (dr ws cs 0 (.ofNat 0)) (.h 0)) ∧ ws.length ≤ ns.length := by
  obtain ⟨ws, e1, q⟩ := bg_loop1 (ds := ns.map D.int) ns [] (by simpa using hl)
  obtain ⟨cs, e2⟩ := bg_loop2 (ds := ns.map D.int) (ws := ws) ns [] (by simpa using hl)
  refine ⟨ws, cs, ?_, q⟩
  rw [List.nil_append] at e1 e2
  have s1 : sSet 1 (eLc [2] (iItE (eVar 0)) (gName 2) bgT bgE) [] (bgV (ns.map D.int) none none) = some (.nx [.own (.p (.lst (nt ws)))] (bgV (ns.map D.int) (some (.h 0)) none)) := by
    refine (sSet_val (L1 := [.own (.p (.lst (nt ws)))]) (x := .h 0) ?_).trans (by kernel_rfl)
    show bnd (lcF 0 (gName 2) bgT bgE (bgV (ns.map D.int) none none) (ns.map D.int) [.own (.p (.lst (nt [])))]) _ = _
    rw [e1]; rfl
  have s2 : eLc [2] (iItE (eVar 0)) (gName 2) tYesE bgC [.own (.p (.lst (nt ws))), .own (.p (.dct []))] (bgV (ns.map D.int) (some (.h 0)) none) = some (.val [.own (.p (.lst (nt ws))), .own (.p (.dct [])), .own (.p (.lst (celD cs)))] (.h 2)) := by
    show bnd (lcF 2 (gName 2) tYesE bgC (bgV (ns.map D.int) (some (.h 0)) none) (ns.map D.int) [.own (.p (.lst (nt ws))), .own (.p (.dct [])), .own (.p (.lst (celD [])))]) _ = _
    rw [e2]; rfl
  have s3 : eFzE (eLc [2] (iItE (eVar 0)) (gName 2) tYesE bgC) [.own (.p (.lst (nt ws))), .own (.p (.dct []))] (bgV (ns.map D.int) (some (.h 0)) none) = some (.val [.own (.p (.lst (nt ws))), .own (.p (.dct [])), .fz (.lst (celD cs))] (.d (.lst (celD cs)))) := by
    unfold eFzE; rw [s2]; kernel_rfl
  have pc : ∀ {a b : Ev} {r : Ep} {L L1 L2 L3 : OL} {env : VEnv} {x y : DV} {xs : List (DV × DV)}, a L env = some (.val L1 x) → b L1 env = some (.val L2 y) → r L2 env = some (.val L3 xs) → pCons a b r L env = some (.val L3 ((x, y) :: xs)) := fun {a b r L L1 L2 L3 env x y xs} ha hb hr => by
    unfold pCons; rw [ha]; dsimp only [bnd]; rw [hb]; dsimp only; rw [hr]
  have s4 := pc (a := eCst (.str "wide")) (b := eVar 1) (L := [.own (.p (.lst (nt ws))), .own (.p (.dct []))]) (env := bgV (ns.map D.int) (some (.h 0)) none) (L1 := [.own (.p (.lst (nt ws))), .own (.p (.dct []))]) (L2 := [.own (.p (.lst (nt ws))), .own (.p (.dct []))]) (x := .d (.str "wide")) (y := .h 0) (by kernel_rfl) (by kernel_rfl) (pc (a := eCst (.str "cells")) (L1 := [.own (.p (.lst (nt ws))), .own (.p (.dct []))]) (x := .d (.str "cells")) (by kernel_rfl) s3 (r := pCons (eCst (.str "rest")) (eCst (.int 0)) (pCons (eCst (.str "turn")) (eCst (.int 0)) pNil)) (L3 := [.own (.p (.lst (nt ws))), .own (.p (.dct [])), .fz (.lst (celD cs))]) (xs := [(.d (.str "rest"), .d (.int 0)), (.d (.str "turn"), .d (.int 0))]) (by kernel_rfl))
  have s5 : F_begun [] [.d (.lst (ns.map D.int))] = endF true 3 (sCons (sSet 1 (eLc [2] (iItE (eVar 0)) (gName 2) bgT bgE)) (sRet (eDict (pCons (eCst (.str "wide")) (eVar 1) (pCons (eCst (.str "cells")) (eFzE (eLc [2] (iItE (eVar 0)) (gName 2) tYesE bgC)) (pCons (eCst (.str "rest")) (eCst (.int 0)) (pCons (eCst (.str "turn")) (eCst (.int 0)) pNil)))))) [] (bgV (ns.map D.int) none none)) := by kernel_rfl
  rw [s5, sCons_nx s1]
  have s6 := sRet_val (a := eDict (pCons (eCst (.str "wide")) (eVar 1) (pCons (eCst (.str "cells")) (eFzE (eLc [2] (iItE (eVar 0)) (gName 2) tYesE bgC)) (pCons (eCst (.str "rest")) (eCst (.int 0)) (pCons (eCst (.str "turn")) (eCst (.int 0)) pNil))))) (L := [.own (.p (.lst (nt ws)))]) (env := bgV (ns.map D.int) (some (.h 0)) none) (L1 := [.own (.p (.lst (nt ws))), .own (.k [(.str "wide", .h 0), (.str "cells", .d (.lst (celD cs))), (.str "rest", .d (.int 0)), (.str "turn", .d (.int 0))]), .fz (.lst (celD cs))]) (x := .h 1) (by
    show bnd (pCons _ _ _ ([.own (.p (.lst (nt ws)))] ++ [.own (.p (.dct []))]) _) _ = _
    rw [show ([.own (.p (.lst (nt ws)))] ++ [.own (.p (.dct []))] : OL) = [.own (.p (.lst (nt ws))), .own (.p (.dct []))] from rfl, s4]
    kernel_rfl)
  rw [s6]
  kernel_rfl
end FP

set_option Elab.async false
set_option linter.all false
set_option maxRecDepth 100000
set_option maxHeartbeats 400000
namespace FP
open PySem FL
section
variable (iC iD : List Str)
def F_is_list : Fn := mkF false 1 1 (sRet (eCb (fIsi2 iC iD) (aCons (eVar 0) (aCons (eTup (aCons (eCst (.ty "list")) (aCons (eCst (.ty "tuple")) aNil))) aNil))))
def F_one_of : Fn := mkF false 2 2 (sRet (eAnd (eCb (fIsi2 iC iD) (aCons (eVar 0) (aCons (eCst (.ty "str")) aNil))) (eOp fIn2 (eVar 0) (eVar 1))))
def F_different : Fn := mkF false 3 2 (sCons (sIf (tOr (tNot (tVal (eCallG (F_is_list iC iD) [false] 1 0 [0] [] (aCons (eVar 0) aNil) aNil))) (tNot (tVal (eCb fAll (aCons (eLc [2] (iItE (eVar 0)) (gName 2) tYesE (eCallG (F_one_of iC iD) [false, false] 2 0 [0, 1] [] (aCons (eVar 2) (aCons (eVar 1) aNil)) aNil)) aNil))))) (sRet (eCst (.bl false))) sNil)
  (sRet (eOp fEq (eLenSet (eVar 0)) (eCb fLen (aCons (eVar 0) aNil)))))
abbrev cRec : D := .tup [.str "begin", .str "yes", .str "no", .str "ready", .str "agreed", .str "refused"]
def edT1 : Et := tNot (tVal (eCallG (F_one_of iC iD) [false, false] 2 0 [0, 1] [] (aCons (eVar 13) (aCons (eCst (.tup [(.str "none"), (.str "lazy"), (.str "forced")])) aNil)) aNil))
def edT2 : Et := tNot (tVal (eCallG (F_different iC iD) [false, false] 2 0 [0, 1] [] (aCons (eVar 7) (aCons (eCst (.tup [(.str "no"), (.str "yes")])) aNil)) aNil))
def edT3 : Et := tNot (tVal (eCallG (F_one_of iC iD) [false, false] 2 0 [0, 1] [] (aCons (eVar 8) (aCons (eCst (.tup [(.str "no"), (.str "wait"), (.str "yes")])) aNil)) aNil))
def edT4 : Et := tNot (tVal (eCallG (F_different iC iD) [false, false] 2 0 [0, 1] [] (aCons (eVar 9) (aCons (eCst cRec) aNil)) aNil))
def edT5 : Et := tNot (tVal (eCallG (F_one_of iC iD) [false, false] 2 0 [0, 1] [] (aCons (eVar 10) (aCons (eCst (.tup [(.str "cut"), (.str "skip")])) aNil)) aNil))
abbrev eSorted : Ea → Ev := eCb (alt2 fSorted (alt2 fSortedC fSortedD))
def edF1 : Sv := sFld "Edition" "own_words" (eVar 0) (eVar 11)
def edF2 : Sv := sFld "Edition" "own_rest" (eVar 0) (eTup (aCons (eCb fTuple (aCons (eSorted (aCons (eVar 7) aNil)) aNil)) (aCons (eVar 8) (aCons (eCb fTuple (aCons (eSorted (aCons (eVar 9) aNil)) aNil)) (aCons (eVar 10) aNil)))))
def edKt : Et := tOr (tVal (eOp fNe (eVar 13) (eCst (.str "none")))) (tVal (eOp fIn2 (eVar 12) (eVar 9)))
def edF3 : Sv := sFld "Edition" "own_known" (eVar 0) (eLc [12, 13] (iZip (aCons (eCst cRec) (aCons (eVar 11) aNil))) (gTup 2 (gCons (gName 12) (gCons (gName 13) gNil))) edKt (eVar 12))
def edW : Sv := sFor 14 (iZip (aCons (eCst cRec) (aCons (eVar 11) aNil))) (gTup 2 (gCons (gName 12) (gCons (gName 13) gNil))) (sIf (edT1 iC iD) sNever sNil)
def F_edI : Fn := mkF false 14 11 (sCons (sSet 11 (eTup (aCons (eVar 1) (aCons (eVar 2) (aCons (eVar 3) (aCons (eVar 4) (aCons (eVar 5) (aCons (eVar 6) aNil))))))))
  (sCons (edW iC iD) (sCons (sIf (edT2 iC iD) sNever sNil) (sCons (sIf (edT3 iC iD) sNever sNil) (sCons (sIf (edT4 iC iD) sNever sNil) (sCons (sIf (edT5 iC iD) sNever sNil) (sCons edF1 (sCons edF2 edF3))))))))
end
abbrev dtup6 (w0 w1 w2 w3 w4 w5 : D) : D := .tup [w0, w1, w2, w3, w4, w5]
abbrev edS : OL := [.own (.p (.obj "Edition" []))]
end FP

set_option Elab.async false
set_option linter.all false
set_option maxRecDepth 100000
set_option maxHeartbeats 400000
namespace FP
open PySem FL
/-! ### editions as data of few values -/
inductive Wd | n | l | f
inductive An | o | no | yes | both
inductive Pr | no | wait | yes
inductive Sg | skip | cut
def Wd.d : Wd → D | .n => .str "none" | .l => .str "lazy" | .f => .str "forced"
def An.ds : An → List D | .o => [] | .no => [.str "no"] | .yes => [.str "yes"] | .both => [.str "no", .str "yes"]
def An.d (a : An) : D := .tup a.ds
def Pr.d : Pr → D | .no => .str "no" | .wait => .str "wait" | .yes => .str "yes"
def Sg.d : Sg → D | .skip => .str "skip" | .cut => .str "cut"
structure Ed where
  w0 : Wd
  w1 : Wd
  w2 : Wd
  w3 : Wd
  w4 : Wd
  w5 : Wd
  a : An
  p : Pr
  b0 : Bool
  b1 : Bool
  b2 : Bool
  b3 : Bool
  b4 : Bool
  b5 : Bool
  s : Sg
theorem Wd.of {d : D} (h : isW d) : ∃ w : Wd, d = w.d := by
  rcases h with rfl | rfl | rfl
  · exact ⟨.n, rfl⟩
  · exact ⟨.l, rfl⟩
  · exact ⟨.f, rfl⟩
theorem An.of {d : D} (h : isA d) : ∃ w : An, d = w.d := by
  rcases h with rfl | rfl | rfl | rfl
  · exact ⟨.o, rfl⟩
  · exact ⟨.no, rfl⟩
  · exact ⟨.yes, rfl⟩
  · exact ⟨.both, rfl⟩
theorem Pr.of {d : D} (h : isP d) : ∃ w : Pr, d = w.d := by
  rcases h with rfl | rfl | rfl
  · exact ⟨.no, rfl⟩
  · exact ⟨.wait, rfl⟩
  · exact ⟨.yes, rfl⟩
theorem Sg.of {d : D} (h : isS d) : ∃ w : Sg, d = w.d := by
  rcases h with rfl | rfl
  · exact ⟨.skip, rfl⟩
  · exact ⟨.cut, rfl⟩
def Ed.rds (e : Ed) : List D := selS e.b0 e.b1 e.b2 e.b3 e.b4 e.b5
def Ed.sheet (e : Ed) : D := sheetD (wordsD e.w0.d e.w1.d e.w2.d e.w3.d e.w4.d e.w5.d) e.a.d e.p.d (.tup e.rds) e.s.d
def kB : Wd → Bool → Bool | .n, b => b | _, _ => true
def Ed.known (e : Ed) : List D := selN (kB e.w0 e.b0) (kB e.w1 e.b1) (kB e.w2 e.b2) (kB e.w3 e.b3) (kB e.w4 e.b4) (kB e.w5 e.b5)
def Ed.words (e : Ed) : D := dtup6 e.w0.d e.w1.d e.w2.d e.w3.d e.w4.d e.w5.d
def Ed.rest (e : Ed) : D := .tup [e.a.d, e.p.d, .tup e.rds, e.s.d]
def Ed.d (e : Ed) : D := .obj "Edition" [("own_words", e.words), ("own_rest", e.rest), ("own_known", .lst e.known)]
section
variable {iC iD : List Str} {x12 x13 : Option D}
def Ed.V (e : Ed) (x12 x13 : Option D) : VEnv := [some (.h 0), some (.d e.w0.d), some (.d e.w1.d), some (.d e.w2.d), some (.d e.w3.d), some (.d e.w4.d), some (.d e.w5.d), some (.d e.a.d), some (.d e.p.d), some (.d (.tup e.rds)), some (.d e.s.d), some (.d e.words), x12.map DV.d, x13.map DV.d, some (.h 0)]
abbrev wLoop (iC iD : List Str) : List D → Sv := fun xs => forS 14 (gTup 2 (gCons (gName 12) (gCons (gName 13) gNil))) (sIf (edT1 iC iD) sNever sNil) xs
theorem edW_step {e : Ed} {k : D} {w : Wd} {xs : List D} : wLoop iC iD (.tup [k, w.d] :: xs) edS (e.V x12 x13) = wLoop iC iD xs edS (e.V (some k) (some w.d)) := by
  refine forS_nx (e1 := e.V (some k) (some w.d)) (L1 := edS) (e2 := e.V (some k) (some w.d)) (by cases x12 <;> cases x13 <;> kernel_rfl) ?_ (by kernel_rfl) (by kernel_rfl)
  refine (sIf_f (L1 := edS) ?_).trans (by kernel_rfl)
  cases w <;> kernel_rfl
theorem edW_ok {e : Ed} : edW iC iD edS (e.V none none) = some (.nx edS (e.V (some (.str "refused")) (some e.w5.d))) := by
  unfold edW
  refine (sFor_val (L1 := edS) (xs := [.tup [.str "begin", e.w0.d], .tup [.str "yes", e.w1.d], .tup [.str "no", e.w2.d], .tup [.str "ready", e.w3.d], .tup [.str "agreed", e.w4.d], .tup [.str "refused", e.w5.d]]) (by kernel_rfl)).trans ?_
  refine Eq.trans (show _ = wLoop iC iD [.tup [.str "begin", e.w0.d], .tup [.str "yes", e.w1.d], .tup [.str "no", e.w2.d], .tup [.str "ready", e.w3.d], .tup [.str "agreed", e.w4.d], .tup [.str "refused", e.w5.d]] edS (e.V none none) by kernel_rfl) ?_
  rw [edW_step, edW_step, edW_step, edW_step, edW_step, edW_step]
  kernel_rfl
theorem ed_t2 {e : Ed} : edT2 iC iD edS (e.V x12 x13) = some (.val edS false) := by
  obtain ⟨w0, w1, w2, w3, w4, w5, a, p, b0, b1, b2, b3, b4, b5, s⟩ := e
  cases a <;> kernel_rfl
theorem ed_t3 {e : Ed} : edT3 iC iD edS (e.V x12 x13) = some (.val edS false) := by
  obtain ⟨w0, w1, w2, w3, w4, w5, a, p, b0, b1, b2, b3, b4, b5, s⟩ := e
  cases p <;> kernel_rfl
theorem ed_t4 {e : Ed} : edT4 iC iD edS (e.V x12 x13) = some (.val edS false) := by
  obtain ⟨w0, w1, w2, w3, w4, w5, a, p, b0, b1, b2, b3, b4, b5, s⟩ := e
  cases b0 <;> cases b1 <;> cases b2 <;> cases b3 <;> cases b4 <;> cases b5 <;> kernel_rfl
theorem ed_t5 {e : Ed} : edT5 iC iD edS (e.V x12 x13) = some (.val edS false) := by
  obtain ⟨w0, w1, w2, w3, w4, w5, a, p, b0, b1, b2, b3, b4, b5, s⟩ := e
  cases s <;> kernel_rfl
abbrev edS1 (e : Ed) : OE := .own (.p (.obj "Edition" [("own_words", e.words)]))
abbrev edS2 (e : Ed) : OE := .own (.p (.obj "Edition" [("own_words", e.words), ("own_rest", e.rest)]))
theorem ed_f1 {e : Ed} : edF1 edS (e.V x12 x13) = some (.nx [edS1 e] (e.V x12 x13)) := by kernel_rfl
theorem ed_f2 {e : Ed} : edF2 [edS1 e] (e.V x12 x13) = some (.nx [edS2 e, .own (.p (.lst e.a.ds)), .own (.p (.lst e.rds))] (e.V x12 x13)) := by
  have h1 : eCb fTuple (aCons (eSorted (aCons (eVar 7) aNil)) aNil) [edS1 e] (e.V x12 x13) = some (.val [edS1 e, .own (.p (.lst e.a.ds))] (.d e.a.d)) := by
    obtain ⟨w0, w1, w2, w3, w4, w5, a, p, b0, b1, b2, b3, b4, b5, s⟩ := e
    cases a <;> kernel_rfl
  have h2 : eCb fTuple (aCons (eSorted (aCons (eVar 9) aNil)) aNil) [edS1 e, .own (.p (.lst e.a.ds))] (e.V x12 x13) = some (.val [edS1 e, .own (.p (.lst e.a.ds)), .own (.p (.lst e.rds))] (.d (.tup e.rds))) := by
    obtain ⟨w0, w1, w2, w3, w4, w5, a, p, b0, b1, b2, b3, b4, b5, s⟩ := e
    cases b0 <;> cases b1 <;> cases b2 <;> cases b3 <;> cases b4 <;> cases b5 <;> kernel_rfl
  have h3 := aCons_val h1 (aCons_val (a := eVar 8) (L1 := [edS1 e, .own (.p (.lst e.a.ds))]) (x := .d e.p.d) (by kernel_rfl) (aCons_val h2 (aCons_val (a := eVar 10) (b := aNil) (L1 := [edS1 e, .own (.p (.lst e.a.ds)), .own (.p (.lst e.rds))]) (L2 := [edS1 e, .own (.p (.lst e.a.ds)), .own (.p (.lst e.rds))]) (x := .d e.s.d) (xs := []) (by kernel_rfl) (by kernel_rfl))))
  have h4 : eTup (aCons (eCb fTuple (aCons (eSorted (aCons (eVar 7) aNil)) aNil)) (aCons (eVar 8) (aCons (eCb fTuple (aCons (eSorted (aCons (eVar 9) aNil)) aNil)) (aCons (eVar 10) aNil)))) [edS1 e] (e.V x12 x13) = some (.val [edS1 e, .own (.p (.lst e.a.ds)), .own (.p (.lst e.rds))] (.d e.rest)) := by
    unfold eTup; rw [h3]; kernel_rfl
  unfold edF2 sFld
  rw [h4]
  kernel_rfl
abbrev kLoop (e : Ed) (xs : List D) : OL → Mo Unit := lcF 3 (gTup 2 (gCons (gName 12) (gCons (gName 13) gNil))) edKt (eVar 12) (e.V none none) xs
abbrev edS3 (e : Ed) (acc : List D) : OL := [edS2 e, .own (.p (.lst e.a.ds)), .own (.p (.lst e.rds)), .own (.p (.lst acc))]
theorem kt0 {e : Ed} {L : OL} : edKt L (e.V (some (.str "begin")) (some e.w0.d)) = some (.val L (kB e.w0 e.b0)) := by
  obtain ⟨w0, w1, w2, w3, w4, w5, a, p, b0, b1, b2, b3, b4, b5, s⟩ := e
  cases w0 with
  | n => cases b0 <;> cases b1 <;> cases b2 <;> cases b3 <;> cases b4 <;> cases b5 <;> kernel_rfl
  | l => kernel_rfl
  | f => kernel_rfl
theorem kt1 {e : Ed} {L : OL} : edKt L (e.V (some (.str "yes")) (some e.w1.d)) = some (.val L (kB e.w1 e.b1)) := by
  obtain ⟨w0, w1, w2, w3, w4, w5, a, p, b0, b1, b2, b3, b4, b5, s⟩ := e
  cases w1 with
  | n => cases b0 <;> cases b1 <;> cases b2 <;> cases b3 <;> cases b4 <;> cases b5 <;> kernel_rfl
  | l => kernel_rfl
  | f => kernel_rfl
theorem kt2 {e : Ed} {L : OL} : edKt L (e.V (some (.str "no")) (some e.w2.d)) = some (.val L (kB e.w2 e.b2)) := by
  obtain ⟨w0, w1, w2, w3, w4, w5, a, p, b0, b1, b2, b3, b4, b5, s⟩ := e
  cases w2 with
  | n => cases b0 <;> cases b1 <;> cases b2 <;> cases b3 <;> cases b4 <;> cases b5 <;> kernel_rfl
  | l => kernel_rfl
  | f => kernel_rfl
theorem kt3 {e : Ed} {L : OL} : edKt L (e.V (some (.str "ready")) (some e.w3.d)) = some (.val L (kB e.w3 e.b3)) := by
  obtain ⟨w0, w1, w2, w3, w4, w5, a, p, b0, b1, b2, b3, b4, b5, s⟩ := e
  cases w3 with
  | n => cases b0 <;> cases b1 <;> cases b2 <;> cases b3 <;> cases b4 <;> cases b5 <;> kernel_rfl
  | l => kernel_rfl
  | f => kernel_rfl
theorem kt4 {e : Ed} {L : OL} : edKt L (e.V (some (.str "agreed")) (some e.w4.d)) = some (.val L (kB e.w4 e.b4)) := by
  obtain ⟨w0, w1, w2, w3, w4, w5, a, p, b0, b1, b2, b3, b4, b5, s⟩ := e
  cases w4 with
  | n => cases b0 <;> cases b1 <;> cases b2 <;> cases b3 <;> cases b4 <;> cases b5 <;> kernel_rfl
  | l => kernel_rfl
  | f => kernel_rfl
theorem kt5 {e : Ed} {L : OL} : edKt L (e.V (some (.str "refused")) (some e.w5.d)) = some (.val L (kB e.w5 e.b5)) := by
  obtain ⟨w0, w1, w2, w3, w4, w5, a, p, b0, b1, b2, b3, b4, b5, s⟩ := e
  cases w5 with
  | n => cases b0 <;> cases b1 <;> cases b2 <;> cases b3 <;> cases b4 <;> cases b5 <;> kernel_rfl
  | l => kernel_rfl
  | f => kernel_rfl
theorem k_step {e : Ed} {k : D} {w : Wd} {c : Bool} {xs acc : List D} (hl : acc.length ≤ 1000) (ht : ∀ L, edKt L (e.V (some k) (some w.d)) = some (.val L c)) : kLoop e (.tup [k, w.d] :: xs) (edS3 e acc) = kLoop e xs (edS3 e (acc ++ cond c [k] [])) := by
  cases c with
  | false =>
    refine (lcF_f (e1 := e.V (some k) (some w.d)) (L1 := edS3 e acc) (by kernel_rfl) (ht _)).trans ?_
    rw [show acc ++ cond false [k] [] = acc by simp]
    kernel_rfl
  | true =>
    exact (lcF_t (e1 := e.V (some k) (some w.d)) (L1 := edS3 e acc) (L2 := edS3 e acc) (L3 := edS3 e acc) (y := .d k) (d := k) (acc := acc) (by kernel_rfl) (ht _) (by kernel_rfl) (by kernel_rfl) (by kernel_rfl) (Nat.ble_eq_true_of_le (by omega))).trans (by kernel_rfl)
theorem len_cond {acc : List D} {c : Bool} {k : D} : (acc ++ cond c [k] []).length ≤ acc.length + 1 := by cases c <;> simp
theorem ed_f3 {e : Ed} : edF3 [edS2 e, .own (.p (.lst e.a.ds)), .own (.p (.lst e.rds))] (e.V x12 x13) = some (.nx [.own (.o "Edition" [("own_words", .d e.words), ("own_rest", .d e.rest), ("own_known", .h 3)]), .own (.p (.lst e.a.ds)), .own (.p (.lst e.rds)), .own (.p (.lst e.known))] (e.V x12 x13)) := by
  have h : kLoop e [.tup [.str "begin", e.w0.d], .tup [.str "yes", e.w1.d], .tup [.str "no", e.w2.d], .tup [.str "ready", e.w3.d], .tup [.str "agreed", e.w4.d], .tup [.str "refused", e.w5.d]] (edS3 e []) = some (.val (edS3 e e.known) ()) := by
    have l0 : ([] : List D).length ≤ 0 := Nat.le_refl _
    have l1 := len_cond (acc := []) (c := kB e.w0 e.b0) (k := .str "begin")
    have l2 := len_cond (acc := [] ++ cond (kB e.w0 e.b0) [.str "begin"] []) (c := kB e.w1 e.b1) (k := .str "yes")
    have l3 := len_cond (acc := [] ++ cond (kB e.w0 e.b0) [.str "begin"] [] ++ cond (kB e.w1 e.b1) [.str "yes"] []) (c := kB e.w2 e.b2) (k := .str "no")
    have l4 := len_cond (acc := [] ++ cond (kB e.w0 e.b0) [.str "begin"] [] ++ cond (kB e.w1 e.b1) [.str "yes"] [] ++ cond (kB e.w2 e.b2) [.str "no"] []) (c := kB e.w3 e.b3) (k := .str "ready")
    have l5 := len_cond (acc := [] ++ cond (kB e.w0 e.b0) [.str "begin"] [] ++ cond (kB e.w1 e.b1) [.str "yes"] [] ++ cond (kB e.w2 e.b2) [.str "no"] [] ++ cond (kB e.w3 e.b3) [.str "ready"] []) (c := kB e.w4 e.b4) (k := .str "agreed")
    rw [k_step (c := kB e.w0 e.b0) (by omega) (fun _ => kt0), k_step (c := kB e.w1 e.b1) (by omega) (fun _ => kt1), k_step (c := kB e.w2 e.b2) (by omega) (fun _ => kt2), k_step (c := kB e.w3 e.b3) (by omega) (fun _ => kt3), k_step (c := kB e.w4 e.b4) (by omega) (fun _ => kt4), k_step (c := kB e.w5 e.b5) (by omega) (fun _ => kt5)]
    show some (Out.val (edS3 e _) ()) = _
    rw [show [] ++ cond (kB e.w0 e.b0) [.str "begin"] [] ++ cond (kB e.w1 e.b1) [.str "yes"] [] ++ cond (kB e.w2 e.b2) [.str "no"] [] ++ cond (kB e.w3 e.b3) [.str "ready"] [] ++ cond (kB e.w4 e.b4) [.str "agreed"] [] ++ cond (kB e.w5 e.b5) [.str "refused"] [] = e.known by unfold Ed.known selN; simp only [List.nil_append, List.append_assoc, List.append_nil]]
  have h2 : eLc [12, 13] (iZip (aCons (eCst cRec) (aCons (eVar 11) aNil))) (gTup 2 (gCons (gName 12) (gCons (gName 13) gNil))) edKt (eVar 12) [edS2 e, .own (.p (.lst e.a.ds)), .own (.p (.lst e.rds))] (e.V x12 x13) = some (.val (edS3 e e.known) (.h 3)) := by
    refine Eq.trans (show _ = bnd (kLoop e [.tup [.str "begin", e.w0.d], .tup [.str "yes", e.w1.d], .tup [.str "no", e.w2.d], .tup [.str "ready", e.w3.d], .tup [.str "agreed", e.w4.d], .tup [.str "refused", e.w5.d]] (edS3 e [])) (fun L2 _ => some (.val L2 (.h 3))) by cases x12 <;> cases x13 <;> kernel_rfl) ?_
    rw [h]; rfl
  unfold edF3 sFld
  rw [h2]
  kernel_rfl
/-- an edition's making -/
theorem edI_ok {e : Ed} : F_edI iC iD edS [.h 0, .d e.w0.d, .d e.w1.d, .d e.w2.d, .d e.w3.d, .d e.w4.d, .d e.w5.d, .d e.a.d, .d e.p.d, .d (.tup e.rds), .d e.s.d] = some (.val [.own (.o "Edition" [("own_words", .d e.words), ("own_rest", .d e.rest), ("own_known", .h 1)]), .own (.p (.lst e.known))] (.d .non)) := by
  have e0 : F_edI iC iD edS [.h 0, .d e.w0.d, .d e.w1.d, .d e.w2.d, .d e.w3.d, .d e.w4.d, .d e.w5.d, .d e.a.d, .d e.p.d, .d (.tup e.rds), .d e.s.d] = endF false 14 (sCons (edW iC iD) (sCons (sIf (edT2 iC iD) sNever sNil) (sCons (sIf (edT3 iC iD) sNever sNil) (sCons (sIf (edT4 iC iD) sNever sNil) (sCons (sIf (edT5 iC iD) sNever sNil) (sCons edF1 (sCons edF2 edF3)))))) edS (e.V none none)) := by kernel_rfl
  have nil : ∀ {t : Et} {k : Sv} {env : VEnv}, t edS env = some (.val edS false) → sCons (sIf t sNever sNil) k edS env = k edS env := fun h => sCons_nx ((sIf_f h).trans rfl)
  rw [e0, sCons_nx edW_ok, nil ed_t2, nil ed_t3, nil ed_t4, nil ed_t5, sCons_nx ed_f1, sCons_nx ed_f2, ed_f3]
  kernel_rfl
end
end FP

set_option Elab.async false
set_option linter.all false
set_option maxRecDepth 100000
set_option maxHeartbeats 400000
namespace FP
open PySem FL
theorem pure1 {m : Fn} {x y : D} (h : m [] [.d x] = some (.val [] (.d y))) (L : OL) : callM m [false] L [.d x] = some (.val L (.d y)) := by
  have e : callM m [false] L [.d x] = (match m [] [.d x] with
    | some (.val L' x) => br (Nat.ble 0 L'.length) (some (.val (mrg [] L L') (muV [] L.length x))) none
    | some (.exc L' x) => br (Nat.ble 0 L'.length) (some (.exc (mrg [] L L') x)) none
    | none => none : Mo DV) := by kernel_rfl
  rw [e, h]
  have q : (some (.val (L ++ []) (.d y)) : Mo DV) = some (.val L (.d y)) := by rw [List.append_nil]
  exact Eq.trans (by kernel_rfl) q
section
variable (iC iD : List Str)
def edB : Sv := sCons (sSet 1 (eLc [2] (iItE (eCallG F_notes [] 0 0 [] [] aNil aNil)) (gName 2) tYesE (eIx (eIx (eVar 0) (eCst (.str "words"))) (eVar 2))))
  (sCons (sSet 3 (eLst (aCons (eIx (eVar 0) (eCst (.str "answers"))) (aCons (eIx (eVar 0) (eCst (.str "presume"))) (aCons (eIx (eVar 0) (eCst (.str "reads"))) (aCons (eIx (eVar 0) (eCst (.str "strange"))) aNil))))))
  (sRet (eMake "Edition" (F_edI iC iD) [false, false, false, false, false, false, false, false, false, false] 11 0 [0, 1, 2, 3, 4, 5, 6, 7, 8, 9, 10] [(.tup []), (.str "no"), (.tup []), (.str "skip")] (aCons (eIx (eVar 1) (eCst (.int 0))) (aCons (eIx (eVar 1) (eCst (.int 1))) (aCons (eIx (eVar 1) (eCst (.int 2))) (aCons (eIx (eVar 1) (eCst (.int 3))) (aCons (eIx (eVar 1) (eCst (.int 4))) (aCons (eIx (eVar 1) (eCst (.int 5))) (aCons (eIx (eVar 3) (eCst (.int 0))) (aCons (eIx (eVar 3) (eCst (.int 1))) (aCons (eIx (eVar 3) (eCst (.int 2))) (aCons (eIx (eVar 3) (eCst (.int 3))) aNil)))))))))) aNil)))
def F_edition : Fn := mkF false 4 1 (edB iC iD)
end
section
variable {iC iD : List Str}
theorem edition_ok (e : Ed) : F_edition iC iD [] [.d e.sheet] = some (.val [] (.d e.d)) := by
  let L1 : OL := [.own (.p (.lst [e.w0.d, e.w1.d, e.w2.d, e.w3.d, e.w4.d, e.w5.d])), .own (.p (.lst [e.a.d, e.p.d, .tup e.rds, e.s.d]))]
  let L2 : OL := [.own (.p (.lst [e.w0.d, e.w1.d, e.w2.d, e.w3.d, e.w4.d, e.w5.d])), .own (.p (.lst [e.a.d, e.p.d, .tup e.rds, e.s.d])), .own (.p (.obj "Edition" []))]
  let L3 : OL := [.own (.p (.lst [e.w0.d, e.w1.d, e.w2.d, e.w3.d, e.w4.d, e.w5.d])), .own (.p (.lst [e.a.d, e.p.d, .tup e.rds, e.s.d])), .own (.o "Edition" [("own_words", .d e.words), ("own_rest", .d e.rest), ("own_known", .h 3)]), .own (.p (.lst e.known))]
  let zs : List DV := [.d e.w0.d, .d e.w1.d, .d e.w2.d, .d e.w3.d, .d e.w4.d, .d e.w5.d, .d e.a.d, .d e.p.d, .d (.tup e.rds), .d e.s.d]
  have c : callM (F_edI iC iD) [true, false, false, false, false, false, false, false, false, false, false] L2 (.h 2 :: zs) = some (.val L3 (.d .non)) := by
    have e1 : callM (F_edI iC iD) [true, false, false, false, false, false, false, false, false, false, false] L2 (.h 2 :: zs) = (match F_edI iC iD edS [.h 0, .d e.w0.d, .d e.w1.d, .d e.w2.d, .d e.w3.d, .d e.w4.d, .d e.w5.d, .d e.a.d, .d e.p.d, .d (.tup e.rds), .d e.s.d] with
    | some (.val L' x) => br (Nat.ble 1 L'.length) (some (.val (mrg [2] L2 L') (muV [2] L2.length x))) none
    | some (.exc L' x) => br (Nat.ble 1 L'.length) (some (.exc (mrg [2] L2 L') x)) none
    | none => none : Mo DV) := by kernel_rfl
    rw [e1, edI_ok]
    kernel_rfl
  have e2 : F_edition iC iD [] [.d e.sheet] = endF false 4 (sRet (fun L env => bnd (callM (F_edI iC iD) [true, false, false, false, false, false, false, false, false, false, false] L2 (.h 2 :: zs)) fun L3 y => match y with
    | .d .non => some (.val L3 (.h 2))
    | _ => none) L1 [some (.d e.sheet), some (.h 0), none, some (.h 1)]) := by kernel_rfl
  rw [e2, c]
  kernel_rfl
end
section
variable (iC iD : List Str)
def F_are_editions : Fn := mkF false 2 1 (sCons (sIf (tOr (tNot (tVal (eCallG (F_is_list iC iD) [false] 1 0 [0] [] (aCons (eVar 0) aNil) aNil))) (tNot (tVal (eChain (fun i j => decide (i ≤ j)) (fun i j => decide (i ≤ j)) (eCst (.int 1)) (eCb fLen (aCons (eVar 0) aNil)) (eCst (.int 4)))))) (sRet (eCst (.bl false))) sNil)
  (sRet (eCb fAll (aCons (eLc [1] (iItE (eVar 0)) (gName 1) tYesE (eCb (fIsi2 iC iD) (aCons (eVar 1) (aCons (eCst (.cn "Edition")) aNil)))) aNil))))
def F_is_number : Fn := mkF false 1 1 (sRet (eAnd (eCb (fIsi2 iC iD) (aCons (eVar 0) (aCons (eCst (.ty "int")) aNil))) (eNot (eCb (fIsi2 iC iD) (aCons (eVar 0) (aCons (eCst (.ty "bool")) aNil))))))
def F_is_within : Fn := mkF false 3 3 (sRet (eAnd (eCallG (F_is_number iC iD) [false] 1 0 [0] [] (aCons (eVar 0) aNil) aNil) (eChain (fun i j => decide (i ≤ j)) (fun i j => decide (i ≤ j)) (eVar 1) (eVar 0) (eVar 2))))
def F_is_step : Fn := mkF false 4 3 (sCons (sIf (tOr (tNot (tVal (eCb (fIsi2 iC iD) (aCons (eVar 0) (aCons (eCst (.ty "tuple")) aNil))))) (tOr (tVal (eOp fNe (eCb fLen (aCons (eVar 0) aNil)) (eCst (.int 2)))) (tNot (tVal (eCb fAll (aCons (eLc [3] (iItE (eVar 0)) (gName 3) tYesE (eCallG (F_is_within iC iD) [false, false, false] 3 0 [0, 1, 2] [] (aCons (eVar 3) (aCons (eCst (.int 0)) (aCons (eOp fSub (eVar 1) (eCst (.int 1))) aNil))) aNil)) aNil)))))) (sRet (eCst (.bl false))) sNil)
  (sRet (eAnd (eOp fNe (eIx (eVar 0) (eCst (.int 0))) (eIx (eVar 0) (eCst (.int 1)))) (eOp fLe (eCb fAbs (aCons (eOp fSub (eIx (eVar 0) (eCst (.int 0))) (eIx (eVar 0) (eCst (.int 1)))) aNil)) (eVar 2)))))
def F_are_steps : Fn := mkF false 4 3 (sCons (sIf (tNot (tVal (eCb (fIsi2 iC iD) (aCons (eVar 0) (aCons (eCst (.ty "dict")) aNil))))) (sRet (eCst (.bl false))) sNil)
  (sRet (eCb fAll (aCons (eLc [3] (iItE (eVar 0)) (gName 3) tYesE (eAnd (eCallG (F_is_step iC iD) [false, false, false] 3 0 [0, 1, 2] [] (aCons (eVar 3) (aCons (eVar 1) (aCons (eVar 2) aNil))) aNil) (eCallG (F_one_of iC iD) [false, false] 2 0 [0, 1] [] (aCons (eIx (eVar 0) (eVar 3)) (aCons (eCst (.tup [(.str "calm"), (.str "free"), (.str "over"), (.str "restart")])) aNil)) aNil))) aNil))))
def F_plI : Fn := mkF false 6 5 (sCons (sIf (tNot (tVal (eCallG (F_are_editions iC iD) [false] 1 0 [0] [] (aCons (eVar 1) aNil) aNil))) sNever sNil)
  (sCons (sIf (tNot (tVal (eCallG (F_are_steps iC iD) [false, false, false] 3 0 [0, 1, 2] [] (aCons (eVar 2) (aCons (eCb fLen (aCons (eVar 1) aNil)) (aCons (eCb fLen (aCons (eVar 1) aNil)) aNil))) aNil))) sNever sNil)
  (sCons (sIf (tNot (tVal (eCallG (F_is_within iC iD) [false, false, false] 3 0 [0, 1, 2] [] (aCons (eVar 3) (aCons (eCst (.int 0)) (aCons (eCst (.int 3)) aNil))) aNil))) sNever sNil)
  (sCons (sIf (tNot (tVal (eCallG (F_one_of iC iD) [false, false] 2 0 [0, 1] [] (aCons (eVar 4) (aCons (eCst (.tup [(.str "any"), (.str "chair first"), (.str "chair last")])) aNil)) aNil))) sNever sNil)
  (sCons (sIf (tNot (tVal (eCallG (F_are_steps iC iD) [false, false, false] 3 0 [0, 1, 2] [] (aCons (eVar 2) (aCons (eCb fLen (aCons (eVar 1) aNil)) (aCons (eVar 3) aNil))) aNil))) sNever sNil)
  (sCons (sFld "Plan" "own_editions" (eVar 0) (eCb fTuple (aCons (eVar 1) aNil)))
  (sCons (sFld "Plan" "own_steps" (eVar 0) (eDc [5] (iItE (eCb (alt2 fSorted (alt2 fSortedC fSortedD)) (aCons (eVar 2) aNil))) (gName 5) tYesE (eVar 5) (eIx (eVar 2) (eVar 5))))
  (sCons (sFld "Plan" "own_window" (eVar 0) (eVar 3))
  (sFld "Plan" "own_order" (eVar 0) (eVar 4))))))))))
def plE : Ev := eLc [2] (iItE (eIx (eVar 0) (eCst (.str "sheets")))) (gName 2) tYesE (eCallG (F_edition iC iD) [false] 1 0 [0] [] (aCons (eVar 2) aNil) aNil)
def F_plan : Fn := mkF false 3 1 (sCons (sSet 1 (plE iC iD))
  (sRet (eMake "Plan" (F_plI iC iD) [false, false, false, false] 5 0 [0, 1, 2, 3, 4] [(.int 1), (.str "any")] (aCons (eVar 1) (aCons (eIx (eVar 0) (eCst (.str "steps"))) (aCons (eIx (eVar 0) (eCst (.str "window"))) (aCons (eIx (eVar 0) (eCst (.str "order"))) aNil)))) aNil)))
end
abbrev schemeD (es : List Ed) (steps win ord : D) : D := .dct [(.str "sheets", .lst (es.map Ed.sheet)), (.str "steps", steps), (.str "window", win), (.str "order", ord)]
abbrev planD (es : List Ed) (steps win ord : D) : D := .obj "Plan" [("own_editions", .tup (es.map Ed.d)), ("own_steps", steps), ("own_window", win), ("own_order", ord)]
section
variable {iC iD : List Str}
theorem edCall (e : Ed) (L : OL) (env : VEnv) (h : slot env 2 = some (.d e.sheet)) : eCallG (F_edition iC iD) [false] 1 0 [0] [] (aCons (eVar 2) aNil) aNil L env = some (.val L (.d e.d)) := by
  refine eCallG_val (L1 := L) (a := ([.d e.sheet], [])) (zs := [.d e.sheet]) ?_ (by kernel_rfl) (pure1 (edition_ok e) L)
  unfold aGo aCons eVar
  rw [h]; rfl
/-- the editions of a plan -/
theorem pl_loop {s : D} : ∀ (es : List Ed) (acc : List D), acc.length + es.length ≤ 1000 → lcF 0 (gName 2) tYesE (eCallG (F_edition iC iD) [false] 1 0 [0] [] (aCons (eVar 2) aNil) aNil) [some (.d s), none, none] (es.map Ed.sheet) [.own (.p (.lst acc))] = some (.val [.own (.p (.lst (acc ++ es.map Ed.d)))] ())
  | [], acc, _ => by rw [List.map_nil, List.map_nil, List.append_nil]; rfl
  | e :: es, acc, h => by
    simp only [List.length_cons] at h
    have ih := pl_loop (s := s) es (acc ++ [e.d]) (by simp; omega)
    rw [List.append_assoc] at ih
    refine Eq.trans ?_ ih
    exact (lcF_t (e1 := [some (.d s), none, some (.d e.sheet)]) (L1 := [.own (.p (.lst acc))]) (L2 := [.own (.p (.lst acc))]) (L3 := [.own (.p (.lst acc))]) (y := .d e.d) (d := e.d) (acc := acc) (by kernel_rfl) (by kernel_rfl) (edCall e _ _ rfl) (by kernel_rfl) (by kernel_rfl) (Nat.ble_eq_true_of_le (by omega))).trans (by kernel_rfl)
theorem pl_eds {es : List Ed} {steps win ord : D} (hl : es.length ≤ 1000) : plE iC iD [] [some (.d (schemeD es steps win ord)), none, none] = some (.val [.own (.p (.lst (es.map Ed.d)))] (.h 0)) := by
  refine Eq.trans (show _ = bnd (lcF 0 (gName 2) tYesE (eCallG (F_edition iC iD) [false] 1 0 [0] [] (aCons (eVar 2) aNil) aNil) [some (.d (schemeD es steps win ord)), none, none] (es.map Ed.sheet) [.own (.p (.lst []))]) (fun L2 _ => some (.val L2 (.h 0))) by kernel_rfl) ?_
  rw [pl_loop es [] (by simpa using hl), List.nil_append]; rfl
theorem plan_call {es : List Ed} {steps win ord : D} (hl : es.length ≤ 1000) (L : OL) (h : endF false 3 (sRet (eMake "Plan" (F_plI iC iD) [false, false, false, false] 5 0 [0, 1, 2, 3, 4] [(.int 1), (.str "any")] (aCons (eVar 1) (aCons (eIx (eVar 0) (eCst (.str "steps"))) (aCons (eIx (eVar 0) (eCst (.str "window"))) (aCons (eIx (eVar 0) (eCst (.str "order"))) aNil)))) aNil) [.own (.p (.lst (es.map Ed.d)))] [some (.d (schemeD es steps win ord)), some (.h 0), none]) = some (.val [] (.d (planD es steps win ord)))) : callM (F_plan iC iD) [false] L [.d (schemeD es steps win ord)] = some (.val L (.d (planD es steps win ord))) := by
  refine pure1 ?_ L
  refine Eq.trans (show _ = endF false 3 (sCons (sSet 1 (plE iC iD)) (sRet (eMake "Plan" (F_plI iC iD) [false, false, false, false] 5 0 [0, 1, 2, 3, 4] [(.int 1), (.str "any")] (aCons (eVar 1) (aCons (eIx (eVar 0) (eCst (.str "steps"))) (aCons (eIx (eVar 0) (eCst (.str "window"))) (aCons (eIx (eVar 0) (eCst (.str "order"))) aNil)))) aNil)) [] [some (.d (schemeD es steps win ord)), none, none]) by kernel_rfl) ?_
  rw [sCons_nx (sSet_val (pl_eds hl))]
  exact h
end
abbrev C14 : List Str := ["Edition", "Plan"]
theorem plan2_any (e1 e2 : Ed) (L : OL) : callM (F_plan C14 C14) [false] L [.d (schemeD [e1, e2] (.dct [(.tup [.int 0, .int 1], .str "calm")]) (.int 1) (.str "any"))] = some (.val L (.d (planD [e1, e2] (.dct [(.tup [.int 0, .int 1], .str "calm")]) (.int 1) (.str "any")))) := plan_call (Nat.le_of_ble_eq_true rfl) L (by kernel_rfl)
end FP

set_option Elab.async false
set_option linter.all false
set_option maxRecDepth 100000
set_option maxHeartbeats 4000000
namespace K14
open PySem PySem.Spec PyProof.Rows L2 FL
def topS (i : Nat) : Stmt := PySem.Challenge.pw_amidupgrades_k14_gates_known.main.body.getD i (.Pass ⟨0, 0, 0, 0⟩)
def T0 : Tab := ⟨[], [], [], [], [("own_words", ["Edition"]), ("own_rest", ["Edition"]), ("own_known", ["Edition"]), ("own_editions", ["Plan"]), ("own_steps", ["Plan"]), ("own_window", ["Plan"]), ("own_order", ["Plan"])], [("CHAIR", (.tup [(.str "begin"), (.str "yes"), (.str "no")])), ("HOUSE", (.tup [(.str "ready"), (.str "agreed"), (.str "refused")])), ("RECORDS", (.tup [(.str "begin"), (.str "yes"), (.str "no"), (.str "ready"), (.str "agreed"), (.str "refused")])), ("WORDS", (.tup [(.str "none"), (.str "lazy"), (.str "forced")])), ("OUTCOMES", (.tup [(.str "no"), (.str "yes")])), ("PRESUMED", (.tup [(.str "no"), (.str "wait"), (.str "yes")])), ("STRANGE", (.tup [(.str "cut"), (.str "skip")])), ("EMPTY", (.tup [(.tup []), (.int 0)])), ("GATES", (.tup [(.str "calm"), (.str "free"), (.str "over"), (.str "restart")])), ("ORDERS", (.tup [(.str "any"), (.str "chair first"), (.str "chair last")])), ("MOST_EDITIONS", (.int 4)), ("MOST_WINDOW", (.int 3)), ("MOST_HOUSES", (.int 5)), ("CHAIR_MEMORIES", (.tup [(.str "new"), (.str "asking"), (.str "yes"), (.str "no"), (.str "gone")])), ("HOUSE_MEMORIES", (.tup [(.str "idle"), (.str "ready"), (.str "yes"), (.str "no"), (.str "empty")])), ("ENDED", (.tup [(.str "yes"), (.str "no"), (.str "empty")])), ("OF_CHAIR", (.tup [(.str "ask"), (.str "decide"), (.str "forget"), (.str "down"), (.str "renew"), (.str "restart")])), ("Edition", .cn "Edition"), ("Plan", .cn "Plan")], ["len", "tuple", "list", "int", "abs", "all", "any", "sorted", "min", "max", "isinstance", "dict", "range", "enumerate", "zip", "str", "bool", "set"], ["Edition", "Plan"], ["Edition", "Plan"], [], [], [("RECORDS", ["begin", "yes", "no", "ready", "agreed", "refused"])], [("BEHIND", [("begin", "no"), ("yes", "yes"), ("no", "no"), ("ready", "ready"), ("agreed", "yes"), ("refused", "no")])]⟩
abbrev s_l_begun : Stmt := (topS 76)
def N_l_begun : List Str := ["_law_script", "_law_wide", "_law_grain"]
def m_l_begun : Fn := dDef T0 N_l_begun 0 (defScope s_l_begun) 1000000000000 true 1 (defBody s_l_begun)
def T1 : Tab := { T0 with fns := ("_law_begun", [(1, [], ⟨1, ["_law_script"], [0], [], [false], m_l_begun⟩)]) :: T0.fns }
abbrev s_l_mixed : Stmt := (topS 77)
def N_l_mixed : List Str := ["_law_draw", "_law_turn", "_law_found", "_law_prime", "_law_blend", "_law_grain"]
def m_l_mixed : Fn := dDef T1 N_l_mixed 0 (defScope s_l_mixed) 1000000000000 false 1 (defBody s_l_mixed)
def T2 : Tab := { T1 with fns := ("_law_mixed", [(1, [], ⟨1, ["_law_draw"], [0], [], [true], m_l_mixed⟩)]) :: T1.fns }
abbrev s_l_take : Stmt := (topS 78)
def N_l_take : List Str := ["_law_draw", "_law_size", "_law_found"]
def m_l_take : Fn := dDef T2 N_l_take 1 (defScope s_l_take) 1000000000000 false 2 (defBody s_l_take)
def T3 : Tab := { T2 with fns := ("_law_take", [(2, [], ⟨2, ["_law_draw", "_law_size"], [0, 1], [], [true, false], m_l_take⟩)]) :: T2.fns }
abbrev s_l_notes : Stmt := (topS 82)
def N_l_notes : List Str := []
def m_l_notes : Fn := dDef T3 N_l_notes 0 (defScope s_l_notes) 1000000000000 false 0 (defBody s_l_notes)
def T4 : Tab := { T3 with fns := ("_law_notes", [(0, [], ⟨1, [], [], [], [], m_l_notes⟩)]) :: T3.fns }
abbrev s_l_known_sheet : Stmt := (topS 83)
def N_l_known_sheet : List Str := ["_law_draw", "_law_way", "_law_must", "_law_verbs", "_law_note", "_law_replies"]
def m_l_known_sheet : Fn := dDef T4 N_l_known_sheet 2 (defScope s_l_known_sheet) 1000000000000 true 1 (defBody s_l_known_sheet)
def T5 : Tab := { T4 with fns := ("_law_known_sheet", [(1, [], ⟨3, ["_law_draw"], [0], [], [true], m_l_known_sheet⟩)]) :: T4.fns }
abbrev s_l_pick : Stmt := (topS 79)
def N_l_pick : List Str := ["_law_draw", "_law_some"]
def m_l_pick : Fn := dDef T5 N_l_pick 2 (defScope s_l_pick) 1000000000000 false 2 (defBody s_l_pick)
def T6 : Tab := { T5 with fns := ("_law_pick", [(2, [], ⟨3, ["_law_draw", "_law_some"], [0, 1], [], [true, false], m_l_pick⟩)]) :: T5.fns }
abbrev s_l_shuffled : Stmt := (topS 81)
def N_l_shuffled : List Str := ["_law_draw", "_law_some", "_law_left", "_law_found"]
def m_l_shuffled : Fn := dDef T6 N_l_shuffled 2 (defScope s_l_shuffled) 1000000000000 false 2 (defBody s_l_shuffled)
def T7 : Tab := { T6 with fns := ("_law_shuffled", [(2, [], ⟨3, ["_law_draw", "_law_some"], [0, 1], [], [true, false], m_l_shuffled⟩)]) :: T6.fns }
abbrev s_l_any_of : Stmt := (topS 80)
def N_l_any_of : List Str := ["_law_draw", "_law_words", "_law_size", "_law_item"]
def m_l_any_of : Fn := dDef T7 N_l_any_of 2 (defScope s_l_any_of) 1000000000000 false 3 (defBody s_l_any_of)
def T8 : Tab := { T7 with fns := ("_law_any_of", [(3, [], ⟨3, ["_law_draw", "_law_words", "_law_size"], [0, 1, 2], [], [true, false, false], m_l_any_of⟩)]) :: T7.fns }
abbrev s_l_sheet : Stmt := (topS 84)
def N_l_sheet : List Str := ["_law_draw", "_law_lazies", "_law_found", "_law_note", "_law_turn"]
def m_l_sheet : Fn := dDef T8 N_l_sheet 3 (defScope s_l_sheet) 1000000000000 false 2 (defBody s_l_sheet)
def T9 : Tab := { T8 with fns := ("_law_sheet", [(2, [], ⟨4, ["_law_draw", "_law_lazies"], [0, 1], [], [true, false], m_l_sheet⟩)]) :: T8.fns }
abbrev s_l_gates : Stmt := (topS 86)
def N_l_gates : List Str := []
def m_l_gates : Fn := dDef T9 N_l_gates 0 (defScope s_l_gates) 1000000000000 false 0 (defBody s_l_gates)
def T10 : Tab := { T9 with fns := ("_law_gates", [(0, [], ⟨1, [], [], [], [], m_l_gates⟩)]) :: T9.fns }
abbrev s_is_list : Stmt := (topS 20)
def N_is_list : List Str := ["thing"]
def m_is_list : Fn := dDef T10 N_is_list 0 (defScope s_is_list) 1000000000000 false 1 (defBody s_is_list)
def T11 : Tab := { T10 with fns := ("is_list", [(1, [], ⟨1, ["thing"], [0], [], [false], m_is_list⟩)]) :: T10.fns }
abbrev s_are_editions : Stmt := (topS 36)
def N_are_editions : List Str := ["thing", "item"]
def m_are_editions : Fn := dDef T11 N_are_editions 1 (defScope s_are_editions) 1000000000000 false 1 (defBody s_are_editions)
def T12 : Tab := { T11 with fns := ("are_editions", [(1, [], ⟨2, ["thing"], [0], [], [false], m_are_editions⟩)]) :: T11.fns }
abbrev s_is_number : Stmt := (topS 18)
def N_is_number : List Str := ["thing"]
def m_is_number : Fn := dDef T12 N_is_number 0 (defScope s_is_number) 1000000000000 false 1 (defBody s_is_number)
def T13 : Tab := { T12 with fns := ("is_number", [(1, [], ⟨1, ["thing"], [0], [], [false], m_is_number⟩)]) :: T12.fns }
abbrev s_is_within : Stmt := (topS 19)
def N_is_within : List Str := ["thing", "least", "most"]
def m_is_within : Fn := dDef T13 N_is_within 1 (defScope s_is_within) 1000000000000 false 3 (defBody s_is_within)
def T14 : Tab := { T13 with fns := ("is_within", [(3, [], ⟨2, ["thing", "least", "most"], [0, 1, 2], [], [false, false, false], m_is_within⟩)]) :: T13.fns }
abbrev s_is_step : Stmt := (topS 37)
def N_is_step : List Str := ["thing", "many", "window", "item"]
def m_is_step : Fn := dDef T14 N_is_step 2 (defScope s_is_step) 1000000000000 false 3 (defBody s_is_step)
def T15 : Tab := { T14 with fns := ("is_step", [(3, [], ⟨3, ["thing", "many", "window"], [0, 1, 2], [], [false, false, false], m_is_step⟩)]) :: T14.fns }
abbrev s_is_one_of : Stmt := (topS 21)
def N_is_one_of : List Str := ["thing", "words"]
def m_is_one_of : Fn := dDef T15 N_is_one_of 0 (defScope s_is_one_of) 1000000000000 false 2 (defBody s_is_one_of)
def T16 : Tab := { T15 with fns := ("is_one_of", [(2, [], ⟨1, ["thing", "words"], [0, 1], [], [false, false], m_is_one_of⟩)]) :: T15.fns }
abbrev s_are_steps : Stmt := (topS 38)
def N_are_steps : List Str := ["thing", "many", "window", "step"]
def m_are_steps : Fn := dDef T16 N_are_steps 3 (defScope s_are_steps) 1000000000000 false 3 (defBody s_are_steps)
def T17 : Tab := { T16 with fns := ("are_steps", [(3, [], ⟨4, ["thing", "many", "window"], [0, 1, 2], [], [false, false, false], m_are_steps⟩)]) :: T16.fns }
abbrev s_Plan_xinit : Stmt := (inClass (topS 39) 0)
def N_Plan_xinit : List Str := ["self", "editions", "steps", "window", "order", "step"]
def m_Plan_xinit : Fn := dDef T17 N_Plan_xinit 4 (defScope s_Plan_xinit) 1000000000000 false 5 (defBody s_Plan_xinit)
def T18 : Tab := { T17 with mks := ("Plan", [(5, [], ⟨5, ["self", "editions", "steps", "window", "order"], [0, 1, 2, 3, 4], [(.int 1), (.str "any")], [false, false, false, false], m_Plan_xinit⟩)]) :: T17.mks }
abbrev s_are_different : Stmt := (topS 22)
def N_are_different : List Str := ["thing", "words", "item"]
def m_are_different : Fn := dDef T18 N_are_different 1 (defScope s_are_different) 1000000000000 false 2 (defBody s_are_different)
def T19 : Tab := { T18 with fns := ("are_different", [(2, [], ⟨2, ["thing", "words"], [0, 1], [], [false, false], m_are_different⟩)]) :: T18.fns }
abbrev s_Edition_xinit : Stmt := (inClass (topS 23) 0)
def N_Edition_xinit : List Str := ["self", "begin", "yes", "no", "ready", "agreed", "refused", "answers", "presume", "reads", "strange", "words", "record", "word"]
def m_Edition_xinit : Fn := dDef T19 N_Edition_xinit 2 (defScope s_Edition_xinit) 1000000000000 false 11 (defBody s_Edition_xinit)
def T20 : Tab := { T19 with mks := ("Edition", [(11, [], ⟨3, ["self", "begin", "yes", "no", "ready", "agreed", "refused", "answers", "presume", "reads", "strange"], [0, 1, 2, 3, 4, 5, 6, 7, 8, 9, 10], [(.tup []), (.str "no"), (.tup []), (.str "skip")], [false, false, false, false, false, false, false, false, false, false], m_Edition_xinit⟩)]) :: T19.mks }
abbrev s_l_edition : Stmt := (topS 85)
def N_l_edition : List Str := ["_law_sheet_here", "_law_verbs", "_law_note", "_law_rest"]
def m_l_edition : Fn := dDef T20 N_l_edition 4 (defScope s_l_edition) 1000000000000 false 1 (defBody s_l_edition)
def T21 : Tab := { T20 with fns := ("_law_edition", [(1, [], ⟨5, ["_law_sheet_here"], [0], [], [false], m_l_edition⟩)]) :: T20.fns }
abbrev s_l_plan : Stmt := (topS 87)
def N_l_plan : List Str := ["_law_scheme", "_law_some", "_law_sheet_here"]
def m_l_plan : Fn := dDef T21 N_l_plan 6 (defScope s_l_plan) 1000000000000 false 1 (defBody s_l_plan)
def T22 : Tab := { T21 with fns := ("_law_plan", [(1, [], ⟨7, ["_law_scheme"], [0], [], [false], m_l_plan⟩)]) :: T21.fns }
abbrev s_need_plan : Stmt := (topS 40)
def N_need_plan : List Str := ["plan"]
def m_need_plan : Fn := dDef T22 N_need_plan 0 (defScope s_need_plan) 1000000000000 false 1 (defBody s_need_plan)
def T23 : Tab := { T22 with fns := ("need_plan", [(1, [], ⟨1, ["plan"], [0], [], [false], m_need_plan⟩)]) :: T22.fns }
abbrev s_are_together : Stmt := (topS 42)
def N_are_together : List Str := ["plan", "chair", "houses"]
def m_are_together : Fn := dDef T23 N_are_together 0 (defScope s_are_together) 1000000000000 false 3 (defBody s_are_together)
def T24 : Tab := { T23 with fns := ("are_together", [(3, [], ⟨1, ["plan", "chair", "houses"], [0, 1, 2], [], [false, false, false], m_are_together⟩)]) :: T23.fns }
abbrev s_are_records_of : Stmt := (topS 25)
def N_are_records_of : List Str := ["thing", "records"]
def m_are_records_of : Fn := dDef T24 N_are_records_of 2 (defScope s_are_records_of) 1000000000000 false 2 (defBody s_are_records_of)
def T25 : Tab := { T24 with fns := ("are_records_of", [(2, [], ⟨3, ["thing", "records"], [0, 1], [], [false, false], m_are_records_of⟩)]) :: T24.fns }
abbrev s_is_log_of : Stmt := (topS 26)
def N_is_log_of : List Str := ["thing", "records"]
def m_is_log_of : Fn := dDef T25 N_is_log_of 3 (defScope s_is_log_of) 1000000000000 false 2 (defBody s_is_log_of)
def T26 : Tab := { T25 with fns := ("is_log_of", [(2, [], ⟨4, ["thing", "records"], [0, 1], [], [false, false], m_is_log_of⟩)]) :: T25.fns }
abbrev s_is_chair : Stmt := (topS 47)
def N_is_chair : List Str := ["many", "thing"]
def m_is_chair : Fn := dDef T26 N_is_chair 4 (defScope s_is_chair) 1000000000000 false 2 (defBody s_is_chair)
def T27 : Tab := { T26 with fns := ("is_chair", [(2, [], ⟨5, ["many", "thing"], [0, 1], [], [false, false], m_is_chair⟩)]) :: T26.fns }
abbrev s_are_outcomes : Stmt := (topS 48)
def N_are_outcomes : List Str := ["thing"]
def m_are_outcomes : Fn := dDef T27 N_are_outcomes 2 (defScope s_are_outcomes) 1000000000000 false 1 (defBody s_are_outcomes)
def T28 : Tab := { T27 with fns := ("are_outcomes", [(1, [], ⟨3, ["thing"], [0], [], [false], m_are_outcomes⟩)]) :: T27.fns }
abbrev s_is_house : Stmt := (topS 49)
def N_is_house : List Str := ["many", "thing", "bit"]
def m_is_house : Fn := dDef T28 N_is_house 4 (defScope s_is_house) 1000000000000 false 2 (defBody s_is_house)
def T29 : Tab := { T28 with fns := ("is_house", [(2, [], ⟨5, ["many", "thing"], [0, 1], [], [false, false], m_is_house⟩)]) :: T28.fns }
abbrev s_has_form : Stmt := (topS 50)
def N_has_form : List Str := ["plan", "thing", "many", "house"]
def m_has_form : Fn := dDef T29 N_has_form 5 (defScope s_has_form) 1000000000000 false 2 (defBody s_has_form)
def T30 : Tab := { T29 with fns := ("has_form", [(2, [], ⟨6, ["plan", "thing"], [0, 1], [], [false, false], m_has_form⟩)]) :: T29.fns }
abbrev s_need_standing : Stmt := (topS 51)
def N_need_standing : List Str := ["plan", "standing"]
def m_need_standing : Fn := dDef T30 N_need_standing 6 (defScope s_need_standing) 1000000000000 false 2 (defBody s_need_standing)
def T31 : Tab := { T30 with fns := ("need_standing", [(2, [], ⟨7, ["plan", "standing"], [0, 1], [], [false, false], m_need_standing⟩)]) :: T30.fns }
abbrev s_put : Stmt := (topS 56)
def N_put : List Str := ["items", "at", "item"]
def m_put : Fn := dDef T31 N_put 0 (defScope s_put) 1000000000000 false 3 (defBody s_put)
def T32 : Tab := { T31 with fns := ("put", [(3, [], ⟨1, ["items", "at", "item"], [0, 1, 2], [], [false, false, false], m_put⟩)]) :: T31.fns }
abbrev s_read : Stmt := (topS 29)
def N_read : List Str := ["edition", "records", "known", "some", "record", "many"]
def m_read : Fn := dDef T32 N_read 0 (defScope s_read) 1000000000000 false 2 (defBody s_read)
def T33 : Tab := { T32 with fns := ("read", [(2, [], ⟨1, ["edition", "records"], [0, 1], [], [false, false], m_read⟩)]) :: T32.fns }
abbrev s_chair_fallen : Stmt := (topS 67)
def N_chair_fallen : List Str := ["plan", "chair", "number", "left", "log", "record"]
def m_chair_fallen : Fn := dDef T33 N_chair_fallen 1 (defScope s_chair_fallen) 1000000000000 false 4 (defBody s_chair_fallen)
def T34 : Tab := { T33 with fns := ("chair_fallen", [(4, [], ⟨2, ["plan", "chair", "number", "left"], [0, 1, 2, 3], [], [false, false, false, false], m_chair_fallen⟩)]) :: T33.fns }
abbrev s_write : Stmt := (topS 27)
def N_write : List Str := ["edition", "log", "record", "word", "records", "safe"]
def m_write : Fn := dDef T34 N_write 0 (defScope s_write) 1000000000000 false 3 (defBody s_write)
def T35 : Tab := { T34 with fns := ("write", [(3, [], ⟨1, ["edition", "log", "record"], [0, 1, 2], [], [false, false, false], m_write⟩)]) :: T34.fns }
abbrev s_chair_behind : Stmt := (topS 69)
def N_chair_behind : List Str := ["plan", "chair", "deed", "number", "memory", "log", "decided", "edition"]
def m_chair_behind : Fn := dDef T35 N_chair_behind 2 (defScope s_chair_behind) 1000000000000 false 3 (defBody s_chair_behind)
def T36 : Tab := { T35 with fns := ("chair_behind", [(3, [], ⟨3, ["plan", "chair", "deed"], [0, 1, 2], [], [false, false, false], m_chair_behind⟩)]) :: T35.fns }
abbrev s_house_fallen : Stmt := (topS 68)
def N_house_fallen : List Str := ["plan", "house", "number", "left", "log", "record", "is_lost"]
def m_house_fallen : Fn := dDef T36 N_house_fallen 1 (defScope s_house_fallen) 1000000000000 false 4 (defBody s_house_fallen)
def T37 : Tab := { T36 with fns := ("house_fallen", [(4, [], ⟨2, ["plan", "house", "number", "left"], [0, 1, 2, 3], [], [false, false, false, false], m_house_fallen⟩)]) :: T36.fns }
abbrev s_with_outcome : Stmt := (topS 57)
def N_with_outcome : List Str := ["outcomes", "outcome"]
def m_with_outcome : Fn := dDef T37 N_with_outcome 0 (defScope s_with_outcome) 1000000000000 false 2 (defBody s_with_outcome)
def T38 : Tab := { T37 with fns := ("with_outcome", [(2, [], ⟨1, ["outcomes", "outcome"], [0, 1], [], [false, false], m_with_outcome⟩)]) :: T37.fns }
abbrev s_told_now : Stmt := (topS 58)
def N_told_now : List Str := ["plan", "chair", "presume"]
def m_told_now : Fn := dDef T38 N_told_now 0 (defScope s_told_now) 1000000000000 false 2 (defBody s_told_now)
def T39 : Tab := { T38 with fns := ("told_now", [(2, [], ⟨1, ["plan", "chair"], [0, 1], [], [false, false], m_told_now⟩)]) :: T38.fns }
abbrev s_house_behind : Stmt := (topS 70)
def N_house_behind : List Str := ["plan", "chair", "house", "deed", "number", "memory", "log", "voted", "told", "answered", "took", "dropped", "edition"]
def m_house_behind : Fn := dDef T39 N_house_behind 2 (defScope s_house_behind) 1000000000000 false 4 (defBody s_house_behind)
def T40 : Tab := { T39 with fns := ("house_behind", [(4, [], ⟨3, ["plan", "chair", "house", "deed"], [0, 1, 2, 3], [], [false, false, false, false], m_house_behind⟩)]) :: T39.fns }
abbrev s_led_by : Stmt := (topS 71)
def N_led_by : List Str := ["plan", "standing", "deed", "chair", "houses"]
def m_led_by : Fn := dDef T40 N_led_by 3 (defScope s_led_by) 1000000000000 false 3 (defBody s_led_by)
def T41 : Tab := { T40 with fns := ("led_by", [(3, [], ⟨4, ["plan", "standing", "deed"], [0, 1, 2], [], [false, false, false], m_led_by⟩)]) :: T40.fns }
abbrev s_numbers_of : Stmt := (topS 46)
def N_numbers_of : List Str := ["standing", "house"]
def m_numbers_of : Fn := dDef T41 N_numbers_of 0 (defScope s_numbers_of) 1000000000000 false 1 (defBody s_numbers_of)
def T42 : Tab := { T41 with fns := ("numbers_of", [(1, [], ⟨1, ["standing"], [0], [], [false], m_numbers_of⟩)]) :: T41.fns }
abbrev s_may_forget : Stmt := (topS 59)
def N_may_forget : List Str := ["plan", "chair", "houses", "answers", "house"]
def m_may_forget : Fn := dDef T42 N_may_forget 0 (defScope s_may_forget) 1000000000000 false 3 (defBody s_may_forget)
def T43 : Tab := { T42 with fns := ("may_forget", [(3, [], ⟨1, ["plan", "chair", "houses"], [0, 1, 2], [], [false, false, false], m_may_forget⟩)]) :: T42.fns }
abbrev s_lefts : Stmt := (topS 28)
def N_lefts : List Str := ["log", "records", "safe", "many"]
def m_lefts : Fn := dDef T43 N_lefts 0 (defScope s_lefts) 1000000000000 false 1 (defBody s_lefts)
def T44 : Tab := { T43 with fns := ("lefts", [(1, [], ⟨1, ["log"], [0], [], [false], m_lefts⟩)]) :: T43.fns }
abbrev s_chair_deeds : Stmt := (topS 60)
def N_chair_deeds : List Str := ["plan", "chair", "houses", "found", "left", "house"]
def m_chair_deeds : Fn := dDef T44 N_chair_deeds 1 (defScope s_chair_deeds) 1000000000000 false 3 (defBody s_chair_deeds)
def T45 : Tab := { T44 with fns := ("chair_deeds", [(3, [], ⟨2, ["plan", "chair", "houses"], [0, 1, 2], [], [false, false, false], m_chair_deeds⟩)]) :: T44.fns }
abbrev s_lets_chair : Stmt := (topS 62)
def N_lets_chair : List Str := ["gate", "chair"]
def m_lets_chair : Fn := dDef T45 N_lets_chair 0 (defScope s_lets_chair) 1000000000000 false 2 (defBody s_lets_chair)
def T46 : Tab := { T45 with fns := ("lets_chair", [(2, [], ⟨1, ["gate", "chair"], [0, 1], [], [false, false], m_lets_chair⟩)]) :: T45.fns }
abbrev s_chair_exchanges : Stmt := (topS 64)
def N_chair_exchanges : List Str := ["plan", "chair", "numbers", "found", "i", "j", "gate", "some", "left"]
def m_chair_exchanges : Fn := dDef T46 N_chair_exchanges 1 (defScope s_chair_exchanges) 1000000000000 false 3 (defBody s_chair_exchanges)
def T47 : Tab := { T46 with fns := ("chair_exchanges", [(3, [], ⟨2, ["plan", "chair", "numbers"], [0, 1, 2], [], [false, false, false], m_chair_exchanges⟩)]) :: T46.fns }
abbrev s_house_deeds : Stmt := (topS 61)
def N_house_deeds : List Str := ["outcome", "chair", "number", "house", "edition", "memory", "log", "voted", "told", "answered", "took", "dropped", "found", "left", "one"]
def m_house_deeds : Fn := dDef T47 N_house_deeds 1 (defScope s_house_deeds) 1000000000000 false 4 (defBody s_house_deeds)
def T48 : Tab := { T47 with fns := ("house_deeds", [(4, [], ⟨2, ["outcome", "chair", "number", "house"], [0, 1, 2, 3], [], [false, false, false, false], m_house_deeds⟩)]) :: T47.fns }
abbrev s_lets_house : Stmt := (topS 63)
def N_lets_house : List Str := ["gate", "house"]
def m_lets_house : Fn := dDef T48 N_lets_house 0 (defScope s_lets_house) 1000000000000 false 2 (defBody s_lets_house)
def T49 : Tab := { T48 with fns := ("lets_house", [(2, [], ⟨1, ["gate", "house"], [0, 1], [], [false, false], m_lets_house⟩)]) :: T48.fns }
abbrev s_house_exchanges : Stmt := (topS 65)
def N_house_exchanges : List Str := ["plan", "number", "house", "numbers", "found", "i", "j", "gate", "left"]
def m_house_exchanges : Fn := dDef T49 N_house_exchanges 1 (defScope s_house_exchanges) 1000000000000 false 4 (defBody s_house_exchanges)
def T50 : Tab := { T49 with fns := ("house_exchanges", [(4, [], ⟨2, ["plan", "number", "house", "numbers"], [0, 1, 2, 3], [], [false, false, false, false], m_house_exchanges⟩)]) :: T49.fns }
abbrev s_all_deeds : Stmt := (topS 66)
def N_all_deeds : List Str := ["plan", "standing", "chair", "houses", "numbers", "outcome", "found", "number", "house"]
def m_all_deeds : Fn := dDef T50 N_all_deeds 2 (defScope s_all_deeds) 1000000000000 false 2 (defBody s_all_deeds)
def T51 : Tab := { T50 with fns := ("all_deeds", [(2, [], ⟨3, ["plan", "standing"], [0, 1], [], [false, false], m_all_deeds⟩)]) :: T50.fns }
abbrev s_is_doable : Stmt := (topS 72)
def N_is_doable : List Str := ["plan", "standing", "thing", "part"]
def m_is_doable : Fn := dDef T51 N_is_doable 3 (defScope s_is_doable) 1000000000000 false 3 (defBody s_is_doable)
def T52 : Tab := { T51 with fns := ("is_doable", [(3, [], ⟨4, ["plan", "standing", "thing"], [0, 1, 2], [], [false, false, false], m_is_doable⟩)]) :: T51.fns }
abbrev s_behind : Stmt := (topS 74)
def N_behind : List Str := ["plan", "standing", "deed"]
def m_behind : Fn := dDef T52 N_behind 7 (defScope s_behind) 1000000000000 false 3 (defBody s_behind)
def T53 : Tab := { T52 with fns := ("behind", [(3, [], ⟨8, ["plan", "standing", "deed"], [0, 1, 2], [], [false, false, false], m_behind⟩)]) :: T52.fns }
abbrev s_l_stands : Stmt := (topS 91)
def N_l_stands : List Str := ["_law_made", "_law_start", "_law_found", "_law_seat", "_law_rooms"]
def m_l_stands : Fn := dDef T53 N_l_stands 8 (defScope s_l_stands) 1000000000000 false 2 (defBody s_l_stands)
def T54 : Tab := { T53 with fns := ("_law_stands", [(2, [], ⟨9, ["_law_made", "_law_start"], [0, 1], [], [false, false], m_l_stands⟩)]) :: T53.fns }
abbrev s_l_first : Stmt := (topS 88)
def N_l_first : List Str := ["_law_nums", "_law_rooms", "_law_num"]
def m_l_first : Fn := dDef T54 N_l_first 0 (defScope s_l_first) 1000000000000 false 1 (defBody s_l_first)
def T55 : Tab := { T54 with fns := ("_law_first", [(1, [], ⟨1, ["_law_nums"], [0], [], [false], m_l_first⟩)]) :: T54.fns }
abbrev s_deeds_at : Stmt := (topS 73)
def N_deeds_at : List Str := ["plan", "standing"]
def m_deeds_at : Fn := dDef T55 N_deeds_at 7 (defScope s_deeds_at) 1000000000000 false 2 (defBody s_deeds_at)
def T56 : Tab := { T55 with fns := ("deeds_at", [(2, [], ⟨8, ["plan", "standing"], [0, 1], [], [false, false], m_deeds_at⟩)]) :: T55.fns }
abbrev s_l_exchanges : Stmt := (topS 89)
def N_l_exchanges : List Str := ["_law_made", "_law_stand", "_law_words", "_law_act"]
def m_l_exchanges : Fn := dDef T56 N_l_exchanges 8 (defScope s_l_exchanges) 1000000000000 false 2 (defBody s_l_exchanges)
def T57 : Tab := { T56 with fns := ("_law_exchanges", [(2, [], ⟨9, ["_law_made", "_law_stand"], [0, 1], [], [false, false], m_l_exchanges⟩)]) :: T56.fns }
abbrev s_l_known : Stmt := (topS 90)
def N_l_known : List Str := ["_law_lock", "_law_stand_name", "_law_counts", "_law_chair", "_law_room", "_law_found"]
def m_l_known : Fn := dDef T57 N_l_known 0 (defScope s_l_known) 1000000000000 false 2 (defBody s_l_known)
def T58 : Tab := { T57 with fns := ("_law_known", [(2, [], ⟨1, ["_law_lock", "_law_stand_name"], [0, 1], [], [false, false], m_l_known⟩)]) :: T57.fns }
abbrev s_l_restarts_right : Stmt := (topS 92)
def N_l_restarts_right : List Str := ["_law_draw", "_law_scheme", "_law_made", "_law_start", "_law_later"]
def m_l_restarts_right : Fn := dDef T58 N_l_restarts_right 8 (defScope s_l_restarts_right) 1000000000000 false 2 (defBody s_l_restarts_right)
def T59 : Tab := { T58 with fns := ("_law_restarts_right", [(2, [], ⟨9, ["_law_draw", "_law_scheme"], [0, 1], [], [true, false], m_l_restarts_right⟩)]) :: T58.fns }
abbrev s_law_ : Stmt := (topS 93)
def N_law_ : List Str := ["_law_script", "_law_draw", "_law_turn", "_law_verbs", "_law_note", "_law_sheet_here", "_law_other_sheet", "_law_lock", "_law_scheme", "_law_made", "_law_some", "_law_title", "_law_ranks", "_law_words", "_law_near", "_law_told", "_law_act"]
def m_law_ : Fn := dDef T59 N_law_ 9 (defScope s_law_) 1000000000000 false 1 (defBody s_law_)
abbrev s_Edition_xeq : Stmt := (inClass (topS 23) 15)
def N_Edition_xeq : List Str := ["self", "other"]
def m_Edition_xeq : Fn := dDef T59 N_Edition_xeq 0 (defScope s_Edition_xeq) 1000000000000 false 2 (defBody s_Edition_xeq)
def T60 : Tab := { T59 with mts := addK "__eq__" ("Edition", []) T59.mts }
abbrev s_Plan_xeq : Stmt := (inClass (topS 39) 9)
def N_Plan_xeq : List Str := ["self", "other"]
def m_Plan_xeq : Fn := dDef T60 N_Plan_xeq 0 (defScope s_Plan_xeq) 1000000000000 false 2 (defBody s_Plan_xeq)
def T61 : Tab := { T60 with mts := addK "__eq__" ("Plan", []) T60.mts }
abbrev s_Plan_xlen : Stmt := (inClass (topS 39) 5)
def N_Plan_xlen : List Str := ["self"]
def m_Plan_xlen : Fn := dDef T61 N_Plan_xlen 0 (defScope s_Plan_xlen) 1000000000000 false 1 (defBody s_Plan_xlen)
def T62 : Tab := { T61 with mts := addK "__len__" ("Plan", []) T61.mts }
end K14

set_option Elab.async false
set_option linter.all false
set_option maxRecDepth 100000
set_option maxHeartbeats 400000
namespace K14
open PySem FL
abbrev iC : List Str := ["Edition", "Plan"]
abbrev iD : List Str := ["Edition", "Plan"]
abbrev F_l_begun : Fn := FP.F_begun
theorem r_l_begun : m_l_begun = F_l_begun := by kernel_rfl
abbrev F_l_mixed : Fn := FP.F_mixed
theorem r_l_mixed : m_l_mixed = F_l_mixed := by kernel_rfl
abbrev F_l_take : Fn := FP.F_take
theorem r_l_take : m_l_take = F_l_take := by kernel_rfl
abbrev F_l_notes : Fn := FP.F_notes
theorem r_l_notes : m_l_notes = F_l_notes := by kernel_rfl
abbrev F_l_known_sheet : Fn := FP.F_known_sheet
theorem r_l_known_sheet : m_l_known_sheet = F_l_known_sheet := by kernel_rfl
abbrev F_l_pick : Fn := FP.F_pick
theorem r_l_pick : m_l_pick = F_l_pick := by kernel_rfl
abbrev F_l_shuffled : Fn := FP.F_shuffled
theorem r_l_shuffled : m_l_shuffled = F_l_shuffled := by kernel_rfl
abbrev F_l_any_of : Fn := FP.F_any_of
theorem r_l_any_of : m_l_any_of = F_l_any_of := by kernel_rfl
abbrev F_l_sheet : Fn := FP.F_sheet
theorem r_l_sheet : m_l_sheet = F_l_sheet := by kernel_rfl
def F_l_gates : Fn := mkF false 0 0 (sRet (eLst (aCons (eCst (.str "calm")) (aCons (eCst (.str "free")) (aCons (eCst (.str "over")) (aCons (eCst (.str "restart")) aNil))))))
theorem r_l_gates : m_l_gates = F_l_gates := by kernel_rfl
abbrev F_is_list : Fn := FP.F_is_list iC iD
theorem r_is_list : m_is_list = F_is_list := by kernel_rfl
abbrev F_are_editions : Fn := FP.F_are_editions iC iD
theorem r_are_editions : m_are_editions = F_are_editions := by kernel_rfl
abbrev F_is_number : Fn := FP.F_is_number iC iD
theorem r_is_number : m_is_number = F_is_number := by kernel_rfl
abbrev F_is_within : Fn := FP.F_is_within iC iD
theorem r_is_within : m_is_within = F_is_within := by kernel_rfl
abbrev F_is_step : Fn := FP.F_is_step iC iD
theorem r_is_step : m_is_step = F_is_step := by kernel_rfl
abbrev F_is_one_of : Fn := FP.F_one_of iC iD
theorem r_is_one_of : m_is_one_of = F_is_one_of := by kernel_rfl
abbrev F_are_steps : Fn := FP.F_are_steps iC iD
theorem r_are_steps : m_are_steps = F_are_steps := by kernel_rfl
abbrev F_Plan_xinit : Fn := FP.F_plI iC iD
theorem r_Plan_xinit : m_Plan_xinit = F_Plan_xinit := by kernel_rfl
abbrev F_are_different : Fn := FP.F_different iC iD
theorem r_are_different : m_are_different = F_are_different := by kernel_rfl
abbrev F_Edition_xinit : Fn := FP.F_edI iC iD
theorem r_Edition_xinit : m_Edition_xinit = F_Edition_xinit := by kernel_rfl
abbrev F_l_edition : Fn := FP.F_edition iC iD
theorem r_l_edition : m_l_edition = F_l_edition := by kernel_rfl
abbrev F_l_plan : Fn := FP.F_plan iC iD
theorem r_l_plan : m_l_plan = F_l_plan := by kernel_rfl
def F_need_plan : Fn := mkF false 1 1 (sIf (tNot (tVal (eCb (fIsi2 iC iD) (aCons (eVar 0) (aCons (eCst (.cn "Plan")) aNil))))) sNever sNil)
theorem r_need_plan : m_need_plan = F_need_plan := by kernel_rfl
def F_are_together : Fn := mkF false 3 3 (sCons (sIf (tVal (eOp fGt (eOp fSub (eCb (alt2 fMax2 fMax1) (aCons (eLst (aCons (eVar 1) (aStar (eVar 2) aNil))) aNil)) (eCb (alt2 fMin2 fMin1) (aCons (eLst (aCons (eVar 1) (aStar (eVar 2) aNil))) aNil))) (eFld "Plan" "own_window" (eVar 0)))) (sRet (eCst (.bl false))) sNil)
  (sCons (sIf (tVal (eOp fEq (eFld "Plan" "own_order" (eVar 0)) (eCst (.str "chair first")))) (sRet (eOp fGe (eVar 1) (eCb (alt2 fMax2 fMax1) (aCons (eVar 2) aNil)))) sNil)
  (sRet (eOr (eOp fNe (eFld "Plan" "own_order" (eVar 0)) (eCst (.str "chair last"))) (eOp fLe (eVar 1) (eCb (alt2 fMin2 fMin1) (aCons (eVar 2) aNil)))))))
theorem r_are_together : m_are_together = F_are_together := by kernel_rfl
def F_are_records_of : Fn := mkF false 2 2 (sRet (eAnd (eCb (fIsi2 iC iD) (aCons (eVar 0) (aCons (eCst (.ty "tuple")) aNil))) (eCallG F_are_different [false, false] 2 0 [0, 1] [] (aCons (eVar 0) (aCons (eVar 1) aNil)) aNil)))
theorem r_are_records_of : m_are_records_of = F_are_records_of := by
  have e : m_are_records_of = mkF false 2 2 (sRet (eAnd (eCb (fIsi2 iC iD) (aCons (eVar 0) (aCons (eCst (.ty "tuple")) aNil))) (eCallG m_are_different [false, false] 2 0 [0, 1] [] (aCons (eVar 0) (aCons (eVar 1) aNil)) aNil))) := by kernel_rfl
  unfold F_are_records_of; rw [e, r_are_different]
def F_is_log_of : Fn := mkF false 2 2 (sCons (sIf (tOr (tNot (tVal (eCb (fIsi2 iC iD) (aCons (eVar 0) (aCons (eCst (.ty "tuple")) aNil))))) (tOr (tVal (eOp fNe (eCb fLen (aCons (eVar 0) aNil)) (eCst (.int 2)))) (tNot (tVal (eCallG F_are_records_of [false, false] 2 0 [0, 1] [] (aCons (eIx (eVar 0) (eCst (.int 0))) (aCons (eVar 1) aNil)) aNil))))) (sRet (eCst (.bl false))) sNil)
  (sRet (eCallG F_is_within [false, false, false] 3 0 [0, 1, 2] [] (aCons (eIx (eVar 0) (eCst (.int 1))) (aCons (eCst (.int 0)) (aCons (eCb fLen (aCons (eIx (eVar 0) (eCst (.int 0))) aNil)) aNil))) aNil)))
theorem r_is_log_of : m_is_log_of = F_is_log_of := by
  have e : m_is_log_of = mkF false 2 2 (sCons (sIf (tOr (tNot (tVal (eCb (fIsi2 iC iD) (aCons (eVar 0) (aCons (eCst (.ty "tuple")) aNil))))) (tOr (tVal (eOp fNe (eCb fLen (aCons (eVar 0) aNil)) (eCst (.int 2)))) (tNot (tVal (eCallG m_are_records_of [false, false] 2 0 [0, 1] [] (aCons (eIx (eVar 0) (eCst (.int 0))) (aCons (eVar 1) aNil)) aNil))))) (sRet (eCst (.bl false))) sNil)
  (sRet (eCallG m_is_within [false, false, false] 3 0 [0, 1, 2] [] (aCons (eIx (eVar 0) (eCst (.int 1))) (aCons (eCst (.int 0)) (aCons (eCb fLen (aCons (eIx (eVar 0) (eCst (.int 0))) aNil)) aNil))) aNil))) := by kernel_rfl
  unfold F_is_log_of; rw [e, r_are_records_of, r_is_within]
def F_is_chair : Fn := mkF false 2 2 (sCons (sIf (tOr (tNot (tVal (eCb (fIsi2 iC iD) (aCons (eVar 1) (aCons (eCst (.ty "tuple")) aNil))))) (tOr (tVal (eOp fNe (eCb fLen (aCons (eVar 1) aNil)) (eCst (.int 4)))) (tNot (tVal (eCallG F_is_within [false, false, false] 3 0 [0, 1, 2] [] (aCons (eIx (eVar 1) (eCst (.int 0))) (aCons (eCst (.int 0)) (aCons (eOp fSub (eVar 0) (eCst (.int 1))) aNil))) aNil))))) (sRet (eCst (.bl false))) sNil)
  (sRet (eAnd (eCallG F_is_one_of [false, false] 2 0 [0, 1] [] (aCons (eIx (eVar 1) (eCst (.int 1))) (aCons (eCst (.tup [(.str "new"), (.str "asking"), (.str "yes"), (.str "no"), (.str "gone")])) aNil)) aNil) (eAnd (eCallG F_is_log_of [false, false] 2 0 [0, 1] [] (aCons (eIx (eVar 1) (eCst (.int 2))) (aCons (eCst (.tup [(.str "begin"), (.str "yes"), (.str "no")])) aNil)) aNil) (eCb (fIsi2 iC iD) (aCons (eIx (eVar 1) (eCst (.int 3))) (aCons (eCst (.ty "bool")) aNil)))))))
theorem r_is_chair : m_is_chair = F_is_chair := by
  have e : m_is_chair = mkF false 2 2 (sCons (sIf (tOr (tNot (tVal (eCb (fIsi2 iC iD) (aCons (eVar 1) (aCons (eCst (.ty "tuple")) aNil))))) (tOr (tVal (eOp fNe (eCb fLen (aCons (eVar 1) aNil)) (eCst (.int 4)))) (tNot (tVal (eCallG m_is_within [false, false, false] 3 0 [0, 1, 2] [] (aCons (eIx (eVar 1) (eCst (.int 0))) (aCons (eCst (.int 0)) (aCons (eOp fSub (eVar 0) (eCst (.int 1))) aNil))) aNil))))) (sRet (eCst (.bl false))) sNil)
  (sRet (eAnd (eCallG m_is_one_of [false, false] 2 0 [0, 1] [] (aCons (eIx (eVar 1) (eCst (.int 1))) (aCons (eCst (.tup [(.str "new"), (.str "asking"), (.str "yes"), (.str "no"), (.str "gone")])) aNil)) aNil) (eAnd (eCallG m_is_log_of [false, false] 2 0 [0, 1] [] (aCons (eIx (eVar 1) (eCst (.int 2))) (aCons (eCst (.tup [(.str "begin"), (.str "yes"), (.str "no")])) aNil)) aNil) (eCb (fIsi2 iC iD) (aCons (eIx (eVar 1) (eCst (.int 3))) (aCons (eCst (.ty "bool")) aNil))))))) := by kernel_rfl
  unfold F_is_chair; rw [e, r_is_log_of, r_is_one_of, r_is_within]
def F_are_outcomes : Fn := mkF false 1 1 (sRet (eAnd (eCb (fIsi2 iC iD) (aCons (eVar 0) (aCons (eCst (.ty "tuple")) aNil))) (eAnd (eCallG F_are_different [false, false] 2 0 [0, 1] [] (aCons (eVar 0) (aCons (eCst (.tup [(.str "no"), (.str "yes")])) aNil)) aNil) (eOp fEq (eCb (alt2 fSorted (alt2 fSortedC fSortedD)) (aCons (eVar 0) aNil)) (eCb (alt2 fList fListD) (aCons (eVar 0) aNil))))))
theorem r_are_outcomes : m_are_outcomes = F_are_outcomes := by
  have e : m_are_outcomes = mkF false 1 1 (sRet (eAnd (eCb (fIsi2 iC iD) (aCons (eVar 0) (aCons (eCst (.ty "tuple")) aNil))) (eAnd (eCallG m_are_different [false, false] 2 0 [0, 1] [] (aCons (eVar 0) (aCons (eCst (.tup [(.str "no"), (.str "yes")])) aNil)) aNil) (eOp fEq (eCb (alt2 fSorted (alt2 fSortedC fSortedD)) (aCons (eVar 0) aNil)) (eCb (alt2 fList fListD) (aCons (eVar 0) aNil)))))) := by kernel_rfl
  unfold F_are_outcomes; rw [e, r_are_different]
def F_is_house : Fn := mkF false 3 2 (sCons (sIf (tOr (tNot (tVal (eCb (fIsi2 iC iD) (aCons (eVar 1) (aCons (eCst (.ty "tuple")) aNil))))) (tOr (tVal (eOp fNe (eCb fLen (aCons (eVar 1) aNil)) (eCst (.int 8)))) (tNot (tVal (eCallG F_is_within [false, false, false] 3 0 [0, 1, 2] [] (aCons (eIx (eVar 1) (eCst (.int 0))) (aCons (eCst (.int 0)) (aCons (eOp fSub (eVar 0) (eCst (.int 1))) aNil))) aNil))))) (sRet (eCst (.bl false))) sNil)
  (sCons (sIf (tOr (tNot (tVal (eCallG F_is_one_of [false, false] 2 0 [0, 1] [] (aCons (eIx (eVar 1) (eCst (.int 1))) (aCons (eCst (.tup [(.str "idle"), (.str "ready"), (.str "yes"), (.str "no"), (.str "empty")])) aNil)) aNil))) (tOr (tNot (tVal (eCallG F_is_log_of [false, false] 2 0 [0, 1] [] (aCons (eIx (eVar 1) (eCst (.int 2))) (aCons (eCst (.tup [(.str "ready"), (.str "agreed"), (.str "refused")])) aNil)) aNil))) (tNot (tVal (eCb (fIsi2 iC iD) (aCons (eIx (eVar 1) (eCst (.int 3))) (aCons (eCst (.ty "bool")) aNil))))))) (sRet (eCst (.bl false))) sNil)
  (sRet (eAnd (eCallG F_are_outcomes [false] 1 0 [0] [] (aCons (eIx (eVar 1) (eCst (.int 4))) aNil) aNil) (eAnd (eCallG F_are_outcomes [false] 1 0 [0] [] (aCons (eIx (eVar 1) (eCst (.int 5))) aNil) aNil) (eCb fAll (aCons (eLc [2] (iItE (eSlice (eVar 1) (oSome (eCst (.int 6))) oNone)) (gName 2) tYesE (eCb (fIsi2 iC iD) (aCons (eVar 2) (aCons (eCst (.ty "bool")) aNil)))) aNil)))))))
theorem r_is_house : m_is_house = F_is_house := by
  have e : m_is_house = mkF false 3 2 (sCons (sIf (tOr (tNot (tVal (eCb (fIsi2 iC iD) (aCons (eVar 1) (aCons (eCst (.ty "tuple")) aNil))))) (tOr (tVal (eOp fNe (eCb fLen (aCons (eVar 1) aNil)) (eCst (.int 8)))) (tNot (tVal (eCallG m_is_within [false, false, false] 3 0 [0, 1, 2] [] (aCons (eIx (eVar 1) (eCst (.int 0))) (aCons (eCst (.int 0)) (aCons (eOp fSub (eVar 0) (eCst (.int 1))) aNil))) aNil))))) (sRet (eCst (.bl false))) sNil)
  (sCons (sIf (tOr (tNot (tVal (eCallG m_is_one_of [false, false] 2 0 [0, 1] [] (aCons (eIx (eVar 1) (eCst (.int 1))) (aCons (eCst (.tup [(.str "idle"), (.str "ready"), (.str "yes"), (.str "no"), (.str "empty")])) aNil)) aNil))) (tOr (tNot (tVal (eCallG m_is_log_of [false, false] 2 0 [0, 1] [] (aCons (eIx (eVar 1) (eCst (.int 2))) (aCons (eCst (.tup [(.str "ready"), (.str "agreed"), (.str "refused")])) aNil)) aNil))) (tNot (tVal (eCb (fIsi2 iC iD) (aCons (eIx (eVar 1) (eCst (.int 3))) (aCons (eCst (.ty "bool")) aNil))))))) (sRet (eCst (.bl false))) sNil)
  (sRet (eAnd (eCallG m_are_outcomes [false] 1 0 [0] [] (aCons (eIx (eVar 1) (eCst (.int 4))) aNil) aNil) (eAnd (eCallG m_are_outcomes [false] 1 0 [0] [] (aCons (eIx (eVar 1) (eCst (.int 5))) aNil) aNil) (eCb fAll (aCons (eLc [2] (iItE (eSlice (eVar 1) (oSome (eCst (.int 6))) oNone)) (gName 2) tYesE (eCb (fIsi2 iC iD) (aCons (eVar 2) (aCons (eCst (.ty "bool")) aNil)))) aNil))))))) := by kernel_rfl
  unfold F_is_house; rw [e, r_are_outcomes, r_is_log_of, r_is_one_of, r_is_within]
def F_has_form : Fn := mkF false 4 2 (sCons (sSet 2 (eCb fLen (aCons (eFld "Plan" "own_editions" (eVar 0)) aNil)))
  (sCons (sIf (tOr (tNot (tVal (eCb (fIsi2 iC iD) (aCons (eVar 1) (aCons (eCst (.ty "tuple")) aNil))))) (tOr (tVal (eOp fNe (eCb fLen (aCons (eVar 1) aNil)) (eCst (.int 2)))) (tNot (tVal (eCallG F_is_chair [false, false] 2 0 [0, 1] [] (aCons (eVar 2) (aCons (eIx (eVar 1) (eCst (.int 0))) aNil)) aNil))))) (sRet (eCst (.bl false))) sNil)
  (sCons (sIf (tOr (tNot (tVal (eCb (fIsi2 iC iD) (aCons (eIx (eVar 1) (eCst (.int 1))) (aCons (eCst (.ty "tuple")) aNil))))) (tNot (tVal (eChain (fun i j => decide (i ≤ j)) (fun i j => decide (i ≤ j)) (eCst (.int 1)) (eCb fLen (aCons (eIx (eVar 1) (eCst (.int 1))) aNil)) (eCst (.int 5)))))) (sRet (eCst (.bl false))) sNil)
  (sCons (sIf (tNot (tVal (eCb fAll (aCons (eLc [3] (iItE (eIx (eVar 1) (eCst (.int 1)))) (gName 3) tYesE (eCallG F_is_house [false, false] 2 0 [0, 1] [] (aCons (eVar 2) (aCons (eVar 3) aNil)) aNil)) aNil)))) (sRet (eCst (.bl false))) sNil)
  (sRet (eCallG F_are_together [false, false, false] 3 0 [0, 1, 2] [] (aCons (eVar 0) (aCons (eIx (eIx (eVar 1) (eCst (.int 0))) (eCst (.int 0))) (aCons (eLc [3] (iItE (eIx (eVar 1) (eCst (.int 1)))) (gName 3) tYesE (eIx (eVar 3) (eCst (.int 0)))) aNil))) aNil))))))
theorem r_has_form : m_has_form = F_has_form := by
  have e : m_has_form = mkF false 4 2 (sCons (sSet 2 (eCb fLen (aCons (eFld "Plan" "own_editions" (eVar 0)) aNil)))
  (sCons (sIf (tOr (tNot (tVal (eCb (fIsi2 iC iD) (aCons (eVar 1) (aCons (eCst (.ty "tuple")) aNil))))) (tOr (tVal (eOp fNe (eCb fLen (aCons (eVar 1) aNil)) (eCst (.int 2)))) (tNot (tVal (eCallG m_is_chair [false, false] 2 0 [0, 1] [] (aCons (eVar 2) (aCons (eIx (eVar 1) (eCst (.int 0))) aNil)) aNil))))) (sRet (eCst (.bl false))) sNil)
  (sCons (sIf (tOr (tNot (tVal (eCb (fIsi2 iC iD) (aCons (eIx (eVar 1) (eCst (.int 1))) (aCons (eCst (.ty "tuple")) aNil))))) (tNot (tVal (eChain (fun i j => decide (i ≤ j)) (fun i j => decide (i ≤ j)) (eCst (.int 1)) (eCb fLen (aCons (eIx (eVar 1) (eCst (.int 1))) aNil)) (eCst (.int 5)))))) (sRet (eCst (.bl false))) sNil)
  (sCons (sIf (tNot (tVal (eCb fAll (aCons (eLc [3] (iItE (eIx (eVar 1) (eCst (.int 1)))) (gName 3) tYesE (eCallG m_is_house [false, false] 2 0 [0, 1] [] (aCons (eVar 2) (aCons (eVar 3) aNil)) aNil)) aNil)))) (sRet (eCst (.bl false))) sNil)
  (sRet (eCallG m_are_together [false, false, false] 3 0 [0, 1, 2] [] (aCons (eVar 0) (aCons (eIx (eIx (eVar 1) (eCst (.int 0))) (eCst (.int 0))) (aCons (eLc [3] (iItE (eIx (eVar 1) (eCst (.int 1)))) (gName 3) tYesE (eIx (eVar 3) (eCst (.int 0)))) aNil))) aNil)))))) := by kernel_rfl
  unfold F_has_form; rw [e, r_are_together, r_is_chair, r_is_house]
def F_need_standing : Fn := mkF false 2 2 (sIf (tNot (tVal (eCallG F_has_form [false, false] 2 0 [0, 1] [] (aCons (eVar 0) (aCons (eVar 1) aNil)) aNil))) sNever sNil)
theorem r_need_standing : m_need_standing = F_need_standing := by
  have e : m_need_standing = mkF false 2 2 (sIf (tNot (tVal (eCallG m_has_form [false, false] 2 0 [0, 1] [] (aCons (eVar 0) (aCons (eVar 1) aNil)) aNil))) sNever sNil) := by kernel_rfl
  unfold F_need_standing; rw [e, r_has_form]
def F_put : Fn := mkF false 3 3 (sRet (eTup (aStar (eSlice (eVar 0) oNone (oSome (eVar 1))) (aCons (eVar 2) (aStar (eSlice (eVar 0) (oSome (eOp fAdd (eVar 1) (eCst (.int 1)))) oNone) aNil)))))
theorem r_put : m_put = F_put := by kernel_rfl
def F_read : Fn := mkF false 6 2 (sCons (sSet 2 (eFld "Edition" "own_known" (eVar 0)))
  (sCons (sIf (tVal (eOp fEq (eIx (eFld "Edition" "own_rest" (eVar 0)) (eCst (.int 3))) (eCst (.str "skip")))) (sCons (sSet 3 (eLc [4] (iItE (eVar 1)) (gName 4) (tVal (eOp fIn2 (eVar 4) (eVar 2))) (eVar 4)))
    (sRet (eTup (aCons (eTup (aCons (eVar 1) (aCons (eCb fLen (aCons (eVar 1) aNil)) aNil))) (aCons (eIf (tVal (eOp fNe (eVar 3) (eLst aNil))) (eIx (eVar 3) (eNeg (eCst (.int 1)))) (eCst .non)) aNil))))) sNil)
  (sCons (sSet 5 (eCst (.int 0)))
  (sCons (sWhile 6 1000000000000 (tAnd (tVal (eOp fLt (eVar 5) (eCb fLen (aCons (eVar 1) aNil)))) (tVal (eOp fIn2 (eIx (eVar 1) (eVar 5)) (eVar 2)))) (sAug 5 (eCst (.int 1))))
  (sRet (eTup (aCons (eTup (aCons (eSlice (eVar 1) oNone (oSome (eVar 5))) (aCons (eVar 5) aNil))) (aCons (eIf (tVal (eOp fGt (eVar 5) (eCst (.int 0)))) (eIx (eVar 1) (eOp fSub (eVar 5) (eCst (.int 1)))) (eCst .non)) aNil))))))))
theorem r_read : m_read = F_read := by kernel_rfl
def F_chair_fallen : Fn := mkF false 6 4 (sCons (sIf (tVal (eOp fEq (eIx (eVar 1) (eCst (.int 1))) (eCst (.str "new")))) (sRet (eTup (aCons (eVar 2) (aStar (eSlice (eVar 1) (oSome (eCst (.int 1))) oNone) aNil)))) sNil)
  (sCons (sAsg (eCallG F_read [false, false] 2 0 [0, 1] [] (aCons (eIx (eFld "Plan" "own_editions" (eVar 0)) (eVar 2)) (aCons (eSlice (eIx (eIx (eVar 1) (eCst (.int 2))) (eCst (.int 0))) oNone (oSome (eVar 3))) aNil)) aNil) (gTup 2 (gCons (gName 4) (gCons (gName 5) gNil))))
  (sRet (eTup (aCons (eVar 2) (aCons (eIf (tVal (eIsN (eVar 5))) (eCst (.str "gone")) (eKd [("begin", "no"), ("yes", "yes"), ("no", "no"), ("ready", "ready"), ("agreed", "yes"), ("refused", "no")] (eVar 5))) (aCons (eVar 4) (aCons (eIx (eVar 1) (eCst (.int 3))) aNil))))))))
theorem r_chair_fallen : m_chair_fallen = F_chair_fallen := by
  have e : m_chair_fallen = mkF false 6 4 (sCons (sIf (tVal (eOp fEq (eIx (eVar 1) (eCst (.int 1))) (eCst (.str "new")))) (sRet (eTup (aCons (eVar 2) (aStar (eSlice (eVar 1) (oSome (eCst (.int 1))) oNone) aNil)))) sNil)
  (sCons (sAsg (eCallG m_read [false, false] 2 0 [0, 1] [] (aCons (eIx (eFld "Plan" "own_editions" (eVar 0)) (eVar 2)) (aCons (eSlice (eIx (eIx (eVar 1) (eCst (.int 2))) (eCst (.int 0))) oNone (oSome (eVar 3))) aNil)) aNil) (gTup 2 (gCons (gName 4) (gCons (gName 5) gNil))))
  (sRet (eTup (aCons (eVar 2) (aCons (eIf (tVal (eIsN (eVar 5))) (eCst (.str "gone")) (eKd [("begin", "no"), ("yes", "yes"), ("no", "no"), ("ready", "ready"), ("agreed", "yes"), ("refused", "no")] (eVar 5))) (aCons (eVar 4) (aCons (eIx (eVar 1) (eCst (.int 3))) aNil)))))))) := by kernel_rfl
  unfold F_chair_fallen; rw [e, r_read]
def F_write : Fn := mkF false 6 3 (sCons (sAsgT 2 (aCons (eIx (eFld "Edition" "own_words" (eVar 0)) (eIdxC ["begin", "yes", "no", "ready", "agreed", "refused"] (eVar 2))) (aCons (eVar 1) aNil)) (gCons (gName 3) (gCons (gTup 2 (gCons (gName 4) (gCons (gName 5) gNil))) gNil)))
  (sCons (sIf (tOr (tVal (eOp fEq (eVar 3) (eCst (.str "none")))) (tVal (eOp fIn2 (eVar 2) (eVar 4)))) (sRet (eVar 1)) sNil)
  (sRet (eTup (aCons (eTup (aStar (eVar 4) (aCons (eVar 2) aNil))) (aCons (eIf (tVal (eOp fEq (eVar 3) (eCst (.str "forced")))) (eOp fAdd (eCb fLen (aCons (eVar 4) aNil)) (eCst (.int 1))) (eVar 5)) aNil))))))
theorem r_write : m_write = F_write := by kernel_rfl
def F_chair_behind : Fn := mkF false 8 3 (sCons (sAsg (eVar 1) (gTup 4 (gCons (gName 3) (gCons (gName 4) (gCons (gName 5) (gCons (gName 6) gNil))))))
  (sCons (sSet 7 (eIx (eFld "Plan" "own_editions" (eVar 0)) (eVar 3)))
  (sCons (sIf (tVal (eOp fEq (eIx (eVar 2) (eCst (.int 0))) (eCst (.str "ask")))) (sRet (eTup (aCons (eVar 3) (aCons (eCst (.str "asking")) (aCons (eCallG F_write [false, false, false] 3 0 [0, 1, 2] [] (aCons (eVar 7) (aCons (eVar 5) (aCons (eCst (.str "begin")) aNil))) aNil) (aCons (eVar 6) aNil)))))) sNil)
  (sCons (sIf (tVal (eOp fEq (eIx (eVar 2) (eCst (.int 0))) (eCst (.str "decide")))) (sRet (eTup (aCons (eVar 3) (aCons (eIx (eVar 2) (eCst (.int 1))) (aCons (eCallG F_write [false, false, false] 3 0 [0, 1, 2] [] (aCons (eVar 7) (aCons (eVar 5) (aCons (eIx (eVar 2) (eCst (.int 1))) aNil))) aNil) (aCons (eOr (eVar 6) (eOp fEq (eIx (eVar 2) (eCst (.int 1))) (eCst (.str "yes")))) aNil)))))) sNil)
  (sCons (sIf (tVal (eOp fEq (eIx (eVar 2) (eCst (.int 0))) (eCst (.str "forget")))) (sRet (eTup (aCons (eVar 3) (aCons (eCst (.str "gone")) (aCons (eCst (.tup [(.tup []), (.int 0)])) (aCons (eVar 6) aNil)))))) sNil)
  (sCons (sIf (tVal (eOp fEq (eIx (eVar 2) (eCst (.int 0))) (eCst (.str "renew")))) (sRet (eTup (aCons (eIx (eVar 2) (eCst (.int 1))) (aCons (eVar 4) (aCons (eVar 5) (aCons (eVar 6) aNil)))))) sNil)
  (sCons (sIf (tVal (eOp fEq (eIx (eVar 2) (eCst (.int 0))) (eCst (.str "restart")))) (sRet (eCallG F_chair_fallen [false, false, false, false] 4 0 [0, 1, 2, 3] [] (aCons (eVar 0) (aCons (eVar 1) (aCons (eIx (eVar 2) (eCst (.int 1))) (aCons (eIx (eVar 2) (eCst (.int 2))) aNil)))) aNil)) sNil)
  (sRet (eCallG F_chair_fallen [false, false, false, false] 4 0 [0, 1, 2, 3] [] (aCons (eVar 0) (aCons (eVar 1) (aCons (eVar 3) (aCons (eIx (eVar 2) (eCst (.int 1))) aNil)))) aNil)))))))))
theorem r_chair_behind : m_chair_behind = F_chair_behind := by
  have e : m_chair_behind = mkF false 8 3 (sCons (sAsg (eVar 1) (gTup 4 (gCons (gName 3) (gCons (gName 4) (gCons (gName 5) (gCons (gName 6) gNil))))))
  (sCons (sSet 7 (eIx (eFld "Plan" "own_editions" (eVar 0)) (eVar 3)))
  (sCons (sIf (tVal (eOp fEq (eIx (eVar 2) (eCst (.int 0))) (eCst (.str "ask")))) (sRet (eTup (aCons (eVar 3) (aCons (eCst (.str "asking")) (aCons (eCallG m_write [false, false, false] 3 0 [0, 1, 2] [] (aCons (eVar 7) (aCons (eVar 5) (aCons (eCst (.str "begin")) aNil))) aNil) (aCons (eVar 6) aNil)))))) sNil)
  (sCons (sIf (tVal (eOp fEq (eIx (eVar 2) (eCst (.int 0))) (eCst (.str "decide")))) (sRet (eTup (aCons (eVar 3) (aCons (eIx (eVar 2) (eCst (.int 1))) (aCons (eCallG m_write [false, false, false] 3 0 [0, 1, 2] [] (aCons (eVar 7) (aCons (eVar 5) (aCons (eIx (eVar 2) (eCst (.int 1))) aNil))) aNil) (aCons (eOr (eVar 6) (eOp fEq (eIx (eVar 2) (eCst (.int 1))) (eCst (.str "yes")))) aNil)))))) sNil)
  (sCons (sIf (tVal (eOp fEq (eIx (eVar 2) (eCst (.int 0))) (eCst (.str "forget")))) (sRet (eTup (aCons (eVar 3) (aCons (eCst (.str "gone")) (aCons (eCst (.tup [(.tup []), (.int 0)])) (aCons (eVar 6) aNil)))))) sNil)
  (sCons (sIf (tVal (eOp fEq (eIx (eVar 2) (eCst (.int 0))) (eCst (.str "renew")))) (sRet (eTup (aCons (eIx (eVar 2) (eCst (.int 1))) (aCons (eVar 4) (aCons (eVar 5) (aCons (eVar 6) aNil)))))) sNil)
  (sCons (sIf (tVal (eOp fEq (eIx (eVar 2) (eCst (.int 0))) (eCst (.str "restart")))) (sRet (eCallG m_chair_fallen [false, false, false, false] 4 0 [0, 1, 2, 3] [] (aCons (eVar 0) (aCons (eVar 1) (aCons (eIx (eVar 2) (eCst (.int 1))) (aCons (eIx (eVar 2) (eCst (.int 2))) aNil)))) aNil)) sNil)
  (sRet (eCallG m_chair_fallen [false, false, false, false] 4 0 [0, 1, 2, 3] [] (aCons (eVar 0) (aCons (eVar 1) (aCons (eVar 3) (aCons (eIx (eVar 2) (eCst (.int 1))) aNil)))) aNil))))))))) := by kernel_rfl
  unfold F_chair_behind; rw [e, r_chair_fallen, r_write]
def F_house_fallen : Fn := mkF false 7 4 (sCons (sAsg (eCallG F_read [false, false] 2 0 [0, 1] [] (aCons (eIx (eFld "Plan" "own_editions" (eVar 0)) (eVar 2)) (aCons (eSlice (eIx (eIx (eVar 1) (eCst (.int 2))) (eCst (.int 0))) oNone (oSome (eVar 3))) aNil)) aNil) (gTup 2 (gCons (gName 4) (gCons (gName 5) gNil))))
  (sCons (sSet 6 (eAnd (eIsN (eVar 5)) (eOp fNe (eIx (eVar 1) (eCst (.int 1))) (eCst (.str "empty")))))
  (sRet (eTup (aCons (eVar 2) (aCons (eIf (tVal (eIsN (eVar 5))) (eCst (.str "empty")) (eKd [("begin", "no"), ("yes", "yes"), ("no", "no"), ("ready", "ready"), ("agreed", "yes"), ("refused", "no")] (eVar 5))) (aCons (eVar 4) (aStar (eSlice (eVar 1) (oSome (eCst (.int 3))) (oSome (eCst (.int 7)))) (aCons (eOr (eIx (eVar 1) (eCst (.int 7))) (eVar 6)) aNil)))))))))
theorem r_house_fallen : m_house_fallen = F_house_fallen := by
  have e : m_house_fallen = mkF false 7 4 (sCons (sAsg (eCallG m_read [false, false] 2 0 [0, 1] [] (aCons (eIx (eFld "Plan" "own_editions" (eVar 0)) (eVar 2)) (aCons (eSlice (eIx (eIx (eVar 1) (eCst (.int 2))) (eCst (.int 0))) oNone (oSome (eVar 3))) aNil)) aNil) (gTup 2 (gCons (gName 4) (gCons (gName 5) gNil))))
  (sCons (sSet 6 (eAnd (eIsN (eVar 5)) (eOp fNe (eIx (eVar 1) (eCst (.int 1))) (eCst (.str "empty")))))
  (sRet (eTup (aCons (eVar 2) (aCons (eIf (tVal (eIsN (eVar 5))) (eCst (.str "empty")) (eKd [("begin", "no"), ("yes", "yes"), ("no", "no"), ("ready", "ready"), ("agreed", "yes"), ("refused", "no")] (eVar 5))) (aCons (eVar 4) (aStar (eSlice (eVar 1) (oSome (eCst (.int 3))) (oSome (eCst (.int 7)))) (aCons (eOr (eIx (eVar 1) (eCst (.int 7))) (eVar 6)) aNil))))))))) := by kernel_rfl
  unfold F_house_fallen; rw [e, r_read]
def F_with_outcome : Fn := mkF false 2 2 (sRet (eCb fTuple (aCons (eCb (alt2 fSorted (alt2 fSortedC fSortedD)) (aCons (eLst (aStar (eVar 0) (aCons (eVar 1) aNil))) aNil)) aNil)))
theorem r_with_outcome : m_with_outcome = F_with_outcome := by kernel_rfl
def F_told_now : Fn := mkF false 3 2 (sCons (sIf (tVal (eOp fIn2 (eIx (eVar 1) (eCst (.int 1))) (eTup (aCons (eCst (.str "yes")) (aCons (eCst (.str "no")) aNil))))) (sRet (eIx (eVar 1) (eCst (.int 1)))) sNil)
  (sCons (sSet 2 (eIx (eFld "Edition" "own_rest" (eIx (eFld "Plan" "own_editions" (eVar 0)) (eIx (eVar 1) (eCst (.int 0))))) (eCst (.int 1))))
  (sRet (eIf (tAnd (tVal (eOp fEq (eIx (eVar 1) (eCst (.int 1))) (eCst (.str "gone")))) (tVal (eOp fNe (eVar 2) (eCst (.str "wait"))))) (eVar 2) (eCst .non)))))
theorem r_told_now : m_told_now = F_told_now := by kernel_rfl
def F_house_behind : Fn := mkF false 13 4 (sCons (sAsg (eVar 2) (gTup 8 (gCons (gName 4) (gCons (gName 5) (gCons (gName 6) (gCons (gName 7) (gCons (gName 8) (gCons (gName 9) (gCons (gName 10) (gCons (gName 11) gNil))))))))))
  (sCons (sSet 12 (eIx (eFld "Plan" "own_editions" (eVar 0)) (eVar 4)))
  (sCons (sIf (tVal (eOp fEq (eIx (eVar 3) (eCst (.int 0))) (eCst (.str "vote")))) (sRet (eTup (aCons (eVar 4) (aCons (eCst (.str "ready")) (aCons (eCallG F_write [false, false, false] 3 0 [0, 1, 2] [] (aCons (eVar 12) (aCons (eVar 6) (aCons (eCst (.str "ready")) aNil))) aNil) (aCons (eCst (.bl true)) (aCons (eVar 8) (aCons (eVar 9) (aCons (eVar 10) (aCons (eVar 11) aNil)))))))))) sNil)
  (sCons (sIf (tVal (eOp fEq (eIx (eVar 3) (eCst (.int 0))) (eCst (.str "tell")))) (sRet (eTup (aCons (eVar 4) (aCons (eVar 5) (aCons (eVar 6) (aCons (eVar 7) (aCons (eCallG F_with_outcome [false, false] 2 0 [0, 1] [] (aCons (eVar 8) (aCons (eCallG F_told_now [false, false] 2 0 [0, 1] [] (aCons (eVar 0) (aCons (eVar 1) aNil)) aNil) aNil)) aNil) (aCons (eVar 9) (aCons (eVar 10) (aCons (eVar 11) aNil)))))))))) sNil)
  (sCons (sIf (tVal (eOp fEq (eIx (eVar 3) (eCst (.int 0))) (eCst (.str "answer")))) (sRet (eTup (aCons (eVar 4) (aCons (eVar 5) (aCons (eVar 6) (aCons (eVar 7) (aCons (eVar 8) (aCons (eCallG F_with_outcome [false, false] 2 0 [0, 1] [] (aCons (eVar 9) (aCons (eIx (eVar 3) (eCst (.int 2))) aNil)) aNil) (aCons (eVar 10) (aCons (eVar 11) aNil)))))))))) sNil)
  (sCons (sIf (tVal (eOp fEq (eIx (eVar 3) (eCst (.int 0))) (eCst (.str "clear")))) (sRet (eTup (aCons (eVar 4) (aCons (eCst (.str "empty")) (aCons (eCst (.tup [(.tup []), (.int 0)])) (aCons (eVar 7) (aCons (eVar 8) (aCons (eVar 9) (aCons (eVar 10) (aCons (eVar 11) aNil)))))))))) sNil)
  (sCons (sIf (tVal (eOp fEq (eIx (eVar 3) (eCst (.int 0))) (eCst (.str "fall")))) (sRet (eCallG F_house_fallen [false, false, false, false] 4 0 [0, 1, 2, 3] [] (aCons (eVar 0) (aCons (eVar 2) (aCons (eVar 4) (aCons (eIx (eVar 3) (eCst (.int 2))) aNil)))) aNil)) sNil)
  (sCons (sIf (tVal (eOp fEq (eIx (eVar 3) (eCst (.int 0))) (eCst (.str "reboot")))) (sRet (eCallG F_house_fallen [false, false, false, false] 4 0 [0, 1, 2, 3] [] (aCons (eVar 0) (aCons (eVar 2) (aCons (eIx (eVar 3) (eCst (.int 2))) (aCons (eIx (eVar 3) (eCst (.int 3))) aNil)))) aNil)) sNil)
  (sCons (sIf (tVal (eOp fEq (eIx (eVar 3) (eCst (.int 0))) (eCst (.str "change")))) (sRet (eTup (aCons (eIx (eVar 3) (eCst (.int 2))) (aStar (eSlice (eVar 2) (oSome (eCst (.int 1))) oNone) aNil)))) sNil)
  (sCons (sIf (tAnd (tVal (eOp fEq (eIx (eVar 3) (eCst (.int 0))) (eCst (.str "hear")))) (tVal (eOp fEq (eIx (eVar 3) (eCst (.int 2))) (eCst (.str "yes"))))) (sRet (eTup (aCons (eVar 4) (aCons (eCst (.str "yes")) (aCons (eCallG F_write [false, false, false] 3 0 [0, 1, 2] [] (aCons (eVar 12) (aCons (eVar 6) (aCons (eCst (.str "agreed")) aNil))) aNil) (aCons (eVar 7) (aCons (eVar 8) (aCons (eVar 9) (aCons (eCst (.bl true)) (aCons (eVar 11) aNil)))))))))) sNil)
  (sRet (eTup (aCons (eVar 4) (aCons (eCst (.str "no")) (aCons (eCallG F_write [false, false, false] 3 0 [0, 1, 2] [] (aCons (eVar 12) (aCons (eVar 6) (aCons (eCst (.str "refused")) aNil))) aNil) (aCons (eVar 7) (aCons (eVar 8) (aCons (eVar 9) (aCons (eVar 10) (aCons (eCst (.bl true)) aNil))))))))))))))))))))
theorem r_house_behind : m_house_behind = F_house_behind := by
  have e : m_house_behind = mkF false 13 4 (sCons (sAsg (eVar 2) (gTup 8 (gCons (gName 4) (gCons (gName 5) (gCons (gName 6) (gCons (gName 7) (gCons (gName 8) (gCons (gName 9) (gCons (gName 10) (gCons (gName 11) gNil))))))))))
  (sCons (sSet 12 (eIx (eFld "Plan" "own_editions" (eVar 0)) (eVar 4)))
  (sCons (sIf (tVal (eOp fEq (eIx (eVar 3) (eCst (.int 0))) (eCst (.str "vote")))) (sRet (eTup (aCons (eVar 4) (aCons (eCst (.str "ready")) (aCons (eCallG m_write [false, false, false] 3 0 [0, 1, 2] [] (aCons (eVar 12) (aCons (eVar 6) (aCons (eCst (.str "ready")) aNil))) aNil) (aCons (eCst (.bl true)) (aCons (eVar 8) (aCons (eVar 9) (aCons (eVar 10) (aCons (eVar 11) aNil)))))))))) sNil)
  (sCons (sIf (tVal (eOp fEq (eIx (eVar 3) (eCst (.int 0))) (eCst (.str "tell")))) (sRet (eTup (aCons (eVar 4) (aCons (eVar 5) (aCons (eVar 6) (aCons (eVar 7) (aCons (eCallG m_with_outcome [false, false] 2 0 [0, 1] [] (aCons (eVar 8) (aCons (eCallG m_told_now [false, false] 2 0 [0, 1] [] (aCons (eVar 0) (aCons (eVar 1) aNil)) aNil) aNil)) aNil) (aCons (eVar 9) (aCons (eVar 10) (aCons (eVar 11) aNil)))))))))) sNil)
  (sCons (sIf (tVal (eOp fEq (eIx (eVar 3) (eCst (.int 0))) (eCst (.str "answer")))) (sRet (eTup (aCons (eVar 4) (aCons (eVar 5) (aCons (eVar 6) (aCons (eVar 7) (aCons (eVar 8) (aCons (eCallG m_with_outcome [false, false] 2 0 [0, 1] [] (aCons (eVar 9) (aCons (eIx (eVar 3) (eCst (.int 2))) aNil)) aNil) (aCons (eVar 10) (aCons (eVar 11) aNil)))))))))) sNil)
  (sCons (sIf (tVal (eOp fEq (eIx (eVar 3) (eCst (.int 0))) (eCst (.str "clear")))) (sRet (eTup (aCons (eVar 4) (aCons (eCst (.str "empty")) (aCons (eCst (.tup [(.tup []), (.int 0)])) (aCons (eVar 7) (aCons (eVar 8) (aCons (eVar 9) (aCons (eVar 10) (aCons (eVar 11) aNil)))))))))) sNil)
  (sCons (sIf (tVal (eOp fEq (eIx (eVar 3) (eCst (.int 0))) (eCst (.str "fall")))) (sRet (eCallG m_house_fallen [false, false, false, false] 4 0 [0, 1, 2, 3] [] (aCons (eVar 0) (aCons (eVar 2) (aCons (eVar 4) (aCons (eIx (eVar 3) (eCst (.int 2))) aNil)))) aNil)) sNil)
  (sCons (sIf (tVal (eOp fEq (eIx (eVar 3) (eCst (.int 0))) (eCst (.str "reboot")))) (sRet (eCallG m_house_fallen [false, false, false, false] 4 0 [0, 1, 2, 3] [] (aCons (eVar 0) (aCons (eVar 2) (aCons (eIx (eVar 3) (eCst (.int 2))) (aCons (eIx (eVar 3) (eCst (.int 3))) aNil)))) aNil)) sNil)
  (sCons (sIf (tVal (eOp fEq (eIx (eVar 3) (eCst (.int 0))) (eCst (.str "change")))) (sRet (eTup (aCons (eIx (eVar 3) (eCst (.int 2))) (aStar (eSlice (eVar 2) (oSome (eCst (.int 1))) oNone) aNil)))) sNil)
  (sCons (sIf (tAnd (tVal (eOp fEq (eIx (eVar 3) (eCst (.int 0))) (eCst (.str "hear")))) (tVal (eOp fEq (eIx (eVar 3) (eCst (.int 2))) (eCst (.str "yes"))))) (sRet (eTup (aCons (eVar 4) (aCons (eCst (.str "yes")) (aCons (eCallG m_write [false, false, false] 3 0 [0, 1, 2] [] (aCons (eVar 12) (aCons (eVar 6) (aCons (eCst (.str "agreed")) aNil))) aNil) (aCons (eVar 7) (aCons (eVar 8) (aCons (eVar 9) (aCons (eCst (.bl true)) (aCons (eVar 11) aNil)))))))))) sNil)
  (sRet (eTup (aCons (eVar 4) (aCons (eCst (.str "no")) (aCons (eCallG m_write [false, false, false] 3 0 [0, 1, 2] [] (aCons (eVar 12) (aCons (eVar 6) (aCons (eCst (.str "refused")) aNil))) aNil) (aCons (eVar 7) (aCons (eVar 8) (aCons (eVar 9) (aCons (eVar 10) (aCons (eCst (.bl true)) aNil)))))))))))))))))))) := by kernel_rfl
  unfold F_house_behind; rw [e, r_house_fallen, r_told_now, r_with_outcome, r_write]
def F_led_by : Fn := mkF false 5 3 (sCons (sAsg (eVar 1) (gTup 2 (gCons (gName 3) (gCons (gName 4) gNil))))
  (sCons (sIf (tVal (eOp fIn2 (eIx (eVar 2) (eCst (.int 0))) (eCst (.tup [(.str "ask"), (.str "decide"), (.str "forget"), (.str "down"), (.str "renew"), (.str "restart")])))) (sRet (eTup (aCons (eCallG F_chair_behind [false, false, false] 3 0 [0, 1, 2] [] (aCons (eVar 0) (aCons (eVar 3) (aCons (eVar 2) aNil))) aNil) (aCons (eVar 4) aNil)))) sNil)
  (sRet (eTup (aCons (eVar 3) (aCons (eCallG F_put [false, false, false] 3 0 [0, 1, 2] [] (aCons (eVar 4) (aCons (eIx (eVar 2) (eCst (.int 1))) (aCons (eCallG F_house_behind [false, false, false, false] 4 0 [0, 1, 2, 3] [] (aCons (eVar 0) (aCons (eVar 3) (aCons (eIx (eVar 4) (eIx (eVar 2) (eCst (.int 1)))) (aCons (eVar 2) aNil)))) aNil) aNil))) aNil) aNil))))))
theorem r_led_by : m_led_by = F_led_by := by
  have e : m_led_by = mkF false 5 3 (sCons (sAsg (eVar 1) (gTup 2 (gCons (gName 3) (gCons (gName 4) gNil))))
  (sCons (sIf (tVal (eOp fIn2 (eIx (eVar 2) (eCst (.int 0))) (eCst (.tup [(.str "ask"), (.str "decide"), (.str "forget"), (.str "down"), (.str "renew"), (.str "restart")])))) (sRet (eTup (aCons (eCallG m_chair_behind [false, false, false] 3 0 [0, 1, 2] [] (aCons (eVar 0) (aCons (eVar 3) (aCons (eVar 2) aNil))) aNil) (aCons (eVar 4) aNil)))) sNil)
  (sRet (eTup (aCons (eVar 3) (aCons (eCallG m_put [false, false, false] 3 0 [0, 1, 2] [] (aCons (eVar 4) (aCons (eIx (eVar 2) (eCst (.int 1))) (aCons (eCallG m_house_behind [false, false, false, false] 4 0 [0, 1, 2, 3] [] (aCons (eVar 0) (aCons (eVar 3) (aCons (eIx (eVar 4) (eIx (eVar 2) (eCst (.int 1)))) (aCons (eVar 2) aNil)))) aNil) aNil))) aNil) aNil)))))) := by kernel_rfl
  unfold F_led_by; rw [e, r_chair_behind, r_house_behind, r_put]
def F_numbers_of : Fn := mkF false 2 1 (sRet (eLst (aCons (eIx (eIx (eVar 0) (eCst (.int 0))) (eCst (.int 0))) (aStar (eLc [1] (iItE (eIx (eVar 0) (eCst (.int 1)))) (gName 1) tYesE (eIx (eVar 1) (eCst (.int 0)))) aNil))))
theorem r_numbers_of : m_numbers_of = F_numbers_of := by kernel_rfl
def F_may_forget : Fn := mkF false 5 3 (sCons (sIf (tVal (eOp fNi2 (eIx (eVar 1) (eCst (.int 1))) (eTup (aCons (eCst (.str "yes")) (aCons (eCst (.str "no")) aNil))))) (sRet (eCst (.bl false))) sNil)
  (sCons (sSet 3 (eIx (eFld "Edition" "own_rest" (eIx (eFld "Plan" "own_editions" (eVar 0)) (eIx (eVar 1) (eCst (.int 0))))) (eCst (.int 0))))
  (sRet (eOr (eOp fNi2 (eIx (eVar 1) (eCst (.int 1))) (eVar 3)) (eCb fAll (aCons (eLc [4] (iItE (eVar 2)) (gName 4) tYesE (eOp fIn2 (eIx (eVar 1) (eCst (.int 1))) (eIx (eVar 4) (eCst (.int 5))))) aNil))))))
theorem r_may_forget : m_may_forget = F_may_forget := by kernel_rfl
def F_lefts : Fn := mkF false 4 1 (sCons (sAsg (eVar 0) (gTup 2 (gCons (gName 1) (gCons (gName 2) gNil))))
  (sRet (eLc [3] (iRange2 (aCons (eVar 2) (aCons (eOp fAdd (eCb fLen (aCons (eVar 1) aNil)) (eCst (.int 1))) aNil))) (gName 3) tYesE (eSlice (eVar 1) oNone (oSome (eVar 3))))))
theorem r_lefts : m_lefts = F_lefts := by kernel_rfl
def F_chair_deeds : Fn := mkF false 6 3 (sCons (sIf (tVal (eOp fEq (eIx (eVar 1) (eCst (.int 1))) (eCst (.str "new")))) (sRet (eLst (aCons (eTup (aCons (eCst (.str "ask")) aNil)) aNil))) sNil)
  (sCons (sSet 3 (eLc [4] (iItE (eCallG F_lefts [false] 1 0 [0] [] (aCons (eIx (eVar 1) (eCst (.int 2))) aNil) aNil)) (gName 4) tYesE (eTup (aCons (eCst (.str "down")) (aCons (eCb fLen (aCons (eVar 4) aNil)) aNil)))))
  (sCons (sIf (tVal (eOp fEq (eIx (eVar 1) (eCst (.int 1))) (eCst (.str "asking")))) (sCons (sExpr (eApp (eVar 3) (aCons (eTup (aCons (eCst (.str "decide")) (aCons (eCst (.str "no")) aNil))) aNil)))
    (sIf (tVal (eCb fAll (aCons (eLc [5] (iItE (eVar 2)) (gName 5) tYesE (eIx (eVar 5) (eCst (.int 3)))) aNil))) (sExpr (eApp (eVar 3) (aCons (eTup (aCons (eCst (.str "decide")) (aCons (eCst (.str "yes")) aNil))) aNil))) sNil)) sNil)
  (sCons (sIf (tVal (eCallG F_may_forget [false, false, false] 3 0 [0, 1, 2] [] (aCons (eVar 0) (aCons (eVar 1) (aCons (eVar 2) aNil))) aNil)) (sExpr (eApp (eVar 3) (aCons (eTup (aCons (eCst (.str "forget")) aNil)) aNil))) sNil)
  (sRet (eVar 3))))))
theorem r_chair_deeds : m_chair_deeds = F_chair_deeds := by
  have e : m_chair_deeds = mkF false 6 3 (sCons (sIf (tVal (eOp fEq (eIx (eVar 1) (eCst (.int 1))) (eCst (.str "new")))) (sRet (eLst (aCons (eTup (aCons (eCst (.str "ask")) aNil)) aNil))) sNil)
  (sCons (sSet 3 (eLc [4] (iItE (eCallG m_lefts [false] 1 0 [0] [] (aCons (eIx (eVar 1) (eCst (.int 2))) aNil) aNil)) (gName 4) tYesE (eTup (aCons (eCst (.str "down")) (aCons (eCb fLen (aCons (eVar 4) aNil)) aNil)))))
  (sCons (sIf (tVal (eOp fEq (eIx (eVar 1) (eCst (.int 1))) (eCst (.str "asking")))) (sCons (sExpr (eApp (eVar 3) (aCons (eTup (aCons (eCst (.str "decide")) (aCons (eCst (.str "no")) aNil))) aNil)))
    (sIf (tVal (eCb fAll (aCons (eLc [5] (iItE (eVar 2)) (gName 5) tYesE (eIx (eVar 5) (eCst (.int 3)))) aNil))) (sExpr (eApp (eVar 3) (aCons (eTup (aCons (eCst (.str "decide")) (aCons (eCst (.str "yes")) aNil))) aNil))) sNil)) sNil)
  (sCons (sIf (tVal (eCallG m_may_forget [false, false, false] 3 0 [0, 1, 2] [] (aCons (eVar 0) (aCons (eVar 1) (aCons (eVar 2) aNil))) aNil)) (sExpr (eApp (eVar 3) (aCons (eTup (aCons (eCst (.str "forget")) aNil)) aNil))) sNil)
  (sRet (eVar 3)))))) := by kernel_rfl
  unfold F_chair_deeds; rw [e, r_lefts, r_may_forget]
def F_lets_chair : Fn := mkF false 2 2 (sCons (sIf (tVal (eOp fEq (eVar 0) (eCst (.str "free")))) (sRet (eCst (.bl true))) sNil)
  (sRet (eAnd (eOp fIn2 (eIx (eVar 1) (eCst (.int 1))) (eTup (aCons (eCst (.str "new")) (aCons (eCst (.str "gone")) aNil)))) (eOr (eOp fEq (eVar 0) (eCst (.str "calm"))) (eOp fEq (eIx (eIx (eVar 1) (eCst (.int 2))) (eCst (.int 0))) (eTup aNil))))))
theorem r_lets_chair : m_lets_chair = F_lets_chair := by kernel_rfl
def F_chair_exchanges : Fn := mkF false 9 3 (sCons (sSet 3 (eLst aNil))
  (sCons (sFor 9 (iItemsE (eFld "Plan" "own_steps" (eVar 0))) (gTup 2 (gCons (gTup 2 (gCons (gName 4) (gCons (gName 5) gNil))) (gCons (gName 6) gNil))) (sIf (tAnd (tVal (eOp fEq (eVar 4) (eIx (eVar 1) (eCst (.int 0))))) (tVal (eCallG F_are_together [false, false, false] 3 0 [0, 1, 2] [] (aCons (eVar 0) (aCons (eVar 5) (aCons (eSlice (eVar 2) (oSome (eCst (.int 1))) oNone) aNil))) aNil))) (sIf (tVal (eOp fEq (eVar 6) (eCst (.str "restart")))) (sCons (sSet 7 (eIf (tVal (eOp fEq (eIx (eVar 1) (eCst (.int 1))) (eCst (.str "new")))) (eLst (aCons (eTup aNil) aNil)) (eCallG F_lefts [false] 1 0 [0] [] (aCons (eIx (eVar 1) (eCst (.int 2))) aNil) aNil)))
        (sExpr (eExt (eVar 3) (aCons (eLc [8] (iItE (eVar 7)) (gName 8) tYesE (eTup (aCons (eCst (.str "restart")) (aCons (eVar 5) (aCons (eCb fLen (aCons (eVar 8) aNil)) aNil))))) aNil)))) (sIf (tVal (eCallG F_lets_chair [false, false] 2 0 [0, 1] [] (aCons (eVar 6) (aCons (eVar 1) aNil)) aNil)) (sExpr (eApp (eVar 3) (aCons (eTup (aCons (eCst (.str "renew")) (aCons (eVar 5) aNil))) aNil))) sNil)) sNil))
  (sRet (eVar 3))))
theorem r_chair_exchanges : m_chair_exchanges = F_chair_exchanges := by
  have e : m_chair_exchanges = mkF false 9 3 (sCons (sSet 3 (eLst aNil))
  (sCons (sFor 9 (iItemsE (eFld "Plan" "own_steps" (eVar 0))) (gTup 2 (gCons (gTup 2 (gCons (gName 4) (gCons (gName 5) gNil))) (gCons (gName 6) gNil))) (sIf (tAnd (tVal (eOp fEq (eVar 4) (eIx (eVar 1) (eCst (.int 0))))) (tVal (eCallG m_are_together [false, false, false] 3 0 [0, 1, 2] [] (aCons (eVar 0) (aCons (eVar 5) (aCons (eSlice (eVar 2) (oSome (eCst (.int 1))) oNone) aNil))) aNil))) (sIf (tVal (eOp fEq (eVar 6) (eCst (.str "restart")))) (sCons (sSet 7 (eIf (tVal (eOp fEq (eIx (eVar 1) (eCst (.int 1))) (eCst (.str "new")))) (eLst (aCons (eTup aNil) aNil)) (eCallG m_lefts [false] 1 0 [0] [] (aCons (eIx (eVar 1) (eCst (.int 2))) aNil) aNil)))
        (sExpr (eExt (eVar 3) (aCons (eLc [8] (iItE (eVar 7)) (gName 8) tYesE (eTup (aCons (eCst (.str "restart")) (aCons (eVar 5) (aCons (eCb fLen (aCons (eVar 8) aNil)) aNil))))) aNil)))) (sIf (tVal (eCallG m_lets_chair [false, false] 2 0 [0, 1] [] (aCons (eVar 6) (aCons (eVar 1) aNil)) aNil)) (sExpr (eApp (eVar 3) (aCons (eTup (aCons (eCst (.str "renew")) (aCons (eVar 5) aNil))) aNil))) sNil)) sNil))
  (sRet (eVar 3)))) := by kernel_rfl
  unfold F_chair_exchanges; rw [e, r_are_together, r_lefts, r_lets_chair]
def F_house_deeds : Fn := mkF false 15 4 (sCons (sAsg (eVar 3) (gTup 8 (gCons (gName 4) (gCons (gName 5) (gCons (gName 6) (gCons (gName 7) (gCons (gName 8) (gCons (gName 9) (gCons (gName 10) (gCons (gName 11) gNil))))))))))
  (sCons (sSet 12 (eLc [13] (iItE (eCallG F_lefts [false] 1 0 [0] [] (aCons (eVar 6) aNil) aNil)) (gName 13) tYesE (eTup (aCons (eCst (.str "fall")) (aCons (eVar 2) (aCons (eCb fLen (aCons (eVar 13) aNil)) aNil))))))
  (sCons (sIf (tVal (eOp fEq (eVar 5) (eCst (.str "idle")))) (sCons (sExpr (eApp (eVar 12) (aCons (eTup (aCons (eCst (.str "refuse")) (aCons (eVar 2) aNil))) aNil)))
    (sIf (tVal (eOp fNe (eIx (eVar 1) (eCst (.int 1))) (eCst (.str "new")))) (sExpr (eApp (eVar 12) (aCons (eTup (aCons (eCst (.str "vote")) (aCons (eVar 2) aNil))) aNil))) sNil)) sNil)
  (sCons (sFor 15 (iItE (eVar 8)) (gName 14) (sCons (sIf (tOr (tVal (eOp fEq (eVar 5) (eCst (.str "ready")))) (tAnd (tVal (eOp fEq (eVar 5) (eCst (.str "idle")))) (tVal (eOp fEq (eVar 14) (eCst (.str "no")))))) (sExpr (eApp (eVar 12) (aCons (eTup (aCons (eCst (.str "hear")) (aCons (eVar 2) (aCons (eVar 14) aNil)))) aNil))) sNil)
    (sIf (tAnd (tVal (eOp fIn2 (eVar 5) (eCst (.tup [(.str "yes"), (.str "no"), (.str "empty")])))) (tVal (eOp fNi2 (eVar 14) (eVar 9)))) (sExpr (eApp (eVar 12) (aCons (eTup (aCons (eCst (.str "answer")) (aCons (eVar 2) (aCons (eVar 14) aNil)))) aNil))) sNil)))
  (sCons (sIf (tVal (eOp fIn2 (eVar 5) (eTup (aCons (eCst (.str "yes")) (aCons (eCst (.str "no")) aNil))))) (sExpr (eApp (eVar 12) (aCons (eTup (aCons (eCst (.str "clear")) (aCons (eVar 2) aNil))) aNil))) sNil)
  (sCons (sIf (tAnd (tVal (eNotN (eVar 0))) (tVal (eOp fNi2 (eVar 0) (eVar 8)))) (sExpr (eApp (eVar 12) (aCons (eTup (aCons (eCst (.str "tell")) (aCons (eVar 2) aNil))) aNil))) sNil)
  (sRet (eVar 12))))))))
theorem r_house_deeds : m_house_deeds = F_house_deeds := by
  have e : m_house_deeds = mkF false 15 4 (sCons (sAsg (eVar 3) (gTup 8 (gCons (gName 4) (gCons (gName 5) (gCons (gName 6) (gCons (gName 7) (gCons (gName 8) (gCons (gName 9) (gCons (gName 10) (gCons (gName 11) gNil))))))))))
  (sCons (sSet 12 (eLc [13] (iItE (eCallG m_lefts [false] 1 0 [0] [] (aCons (eVar 6) aNil) aNil)) (gName 13) tYesE (eTup (aCons (eCst (.str "fall")) (aCons (eVar 2) (aCons (eCb fLen (aCons (eVar 13) aNil)) aNil))))))
  (sCons (sIf (tVal (eOp fEq (eVar 5) (eCst (.str "idle")))) (sCons (sExpr (eApp (eVar 12) (aCons (eTup (aCons (eCst (.str "refuse")) (aCons (eVar 2) aNil))) aNil)))
    (sIf (tVal (eOp fNe (eIx (eVar 1) (eCst (.int 1))) (eCst (.str "new")))) (sExpr (eApp (eVar 12) (aCons (eTup (aCons (eCst (.str "vote")) (aCons (eVar 2) aNil))) aNil))) sNil)) sNil)
  (sCons (sFor 15 (iItE (eVar 8)) (gName 14) (sCons (sIf (tOr (tVal (eOp fEq (eVar 5) (eCst (.str "ready")))) (tAnd (tVal (eOp fEq (eVar 5) (eCst (.str "idle")))) (tVal (eOp fEq (eVar 14) (eCst (.str "no")))))) (sExpr (eApp (eVar 12) (aCons (eTup (aCons (eCst (.str "hear")) (aCons (eVar 2) (aCons (eVar 14) aNil)))) aNil))) sNil)
    (sIf (tAnd (tVal (eOp fIn2 (eVar 5) (eCst (.tup [(.str "yes"), (.str "no"), (.str "empty")])))) (tVal (eOp fNi2 (eVar 14) (eVar 9)))) (sExpr (eApp (eVar 12) (aCons (eTup (aCons (eCst (.str "answer")) (aCons (eVar 2) (aCons (eVar 14) aNil)))) aNil))) sNil)))
  (sCons (sIf (tVal (eOp fIn2 (eVar 5) (eTup (aCons (eCst (.str "yes")) (aCons (eCst (.str "no")) aNil))))) (sExpr (eApp (eVar 12) (aCons (eTup (aCons (eCst (.str "clear")) (aCons (eVar 2) aNil))) aNil))) sNil)
  (sCons (sIf (tAnd (tVal (eNotN (eVar 0))) (tVal (eOp fNi2 (eVar 0) (eVar 8)))) (sExpr (eApp (eVar 12) (aCons (eTup (aCons (eCst (.str "tell")) (aCons (eVar 2) aNil))) aNil))) sNil)
  (sRet (eVar 12)))))))) := by kernel_rfl
  unfold F_house_deeds; rw [e, r_lefts]
def F_lets_house : Fn := mkF false 2 2 (sCons (sIf (tVal (eOp fEq (eVar 0) (eCst (.str "free")))) (sRet (eCst (.bl true))) sNil)
  (sCons (sIf (tVal (eOp fEq (eVar 0) (eCst (.str "calm")))) (sRet (eOp fNe (eIx (eVar 1) (eCst (.int 1))) (eCst (.str "ready")))) sNil)
  (sRet (eAnd (eOp fIn2 (eIx (eVar 1) (eCst (.int 1))) (eTup (aCons (eCst (.str "idle")) (aCons (eCst (.str "empty")) aNil)))) (eOp fEq (eIx (eIx (eVar 1) (eCst (.int 2))) (eCst (.int 0))) (eTup aNil))))))
theorem r_lets_house : m_lets_house = F_lets_house := by kernel_rfl
def F_house_exchanges : Fn := mkF false 9 4 (sCons (sSet 4 (eLst aNil))
  (sCons (sFor 9 (iItemsE (eFld "Plan" "own_steps" (eVar 0))) (gTup 2 (gCons (gTup 2 (gCons (gName 5) (gCons (gName 6) gNil))) (gCons (gName 7) gNil))) (sIf (tAnd (tVal (eOp fEq (eVar 5) (eIx (eVar 2) (eCst (.int 0))))) (tVal (eCallG F_are_together [false, false, false] 3 0 [0, 1, 2] [] (aCons (eVar 0) (aCons (eIx (eVar 3) (eCst (.int 0))) (aCons (eCb (alt2 fList fListD) (aCons (eCallG F_put [false, false, false] 3 0 [0, 1, 2] [] (aCons (eSlice (eVar 3) (oSome (eCst (.int 1))) oNone) (aCons (eVar 1) (aCons (eVar 6) aNil))) aNil) aNil)) aNil))) aNil))) (sIf (tVal (eOp fEq (eVar 7) (eCst (.str "restart")))) (sExpr (eExt (eVar 4) (aCons (eLc [8] (iItE (eCallG F_lefts [false] 1 0 [0] [] (aCons (eIx (eVar 2) (eCst (.int 2))) aNil) aNil)) (gName 8) tYesE (eTup (aCons (eCst (.str "reboot")) (aCons (eVar 1) (aCons (eVar 6) (aCons (eCb fLen (aCons (eVar 8) aNil)) aNil)))))) aNil))) (sIf (tVal (eCallG F_lets_house [false, false] 2 0 [0, 1] [] (aCons (eVar 7) (aCons (eVar 2) aNil)) aNil)) (sExpr (eApp (eVar 4) (aCons (eTup (aCons (eCst (.str "change")) (aCons (eVar 1) (aCons (eVar 6) aNil)))) aNil))) sNil)) sNil))
  (sRet (eVar 4))))
theorem r_house_exchanges : m_house_exchanges = F_house_exchanges := by
  have e : m_house_exchanges = mkF false 9 4 (sCons (sSet 4 (eLst aNil))
  (sCons (sFor 9 (iItemsE (eFld "Plan" "own_steps" (eVar 0))) (gTup 2 (gCons (gTup 2 (gCons (gName 5) (gCons (gName 6) gNil))) (gCons (gName 7) gNil))) (sIf (tAnd (tVal (eOp fEq (eVar 5) (eIx (eVar 2) (eCst (.int 0))))) (tVal (eCallG m_are_together [false, false, false] 3 0 [0, 1, 2] [] (aCons (eVar 0) (aCons (eIx (eVar 3) (eCst (.int 0))) (aCons (eCb (alt2 fList fListD) (aCons (eCallG m_put [false, false, false] 3 0 [0, 1, 2] [] (aCons (eSlice (eVar 3) (oSome (eCst (.int 1))) oNone) (aCons (eVar 1) (aCons (eVar 6) aNil))) aNil) aNil)) aNil))) aNil))) (sIf (tVal (eOp fEq (eVar 7) (eCst (.str "restart")))) (sExpr (eExt (eVar 4) (aCons (eLc [8] (iItE (eCallG m_lefts [false] 1 0 [0] [] (aCons (eIx (eVar 2) (eCst (.int 2))) aNil) aNil)) (gName 8) tYesE (eTup (aCons (eCst (.str "reboot")) (aCons (eVar 1) (aCons (eVar 6) (aCons (eCb fLen (aCons (eVar 8) aNil)) aNil)))))) aNil))) (sIf (tVal (eCallG m_lets_house [false, false] 2 0 [0, 1] [] (aCons (eVar 7) (aCons (eVar 2) aNil)) aNil)) (sExpr (eApp (eVar 4) (aCons (eTup (aCons (eCst (.str "change")) (aCons (eVar 1) (aCons (eVar 6) aNil)))) aNil))) sNil)) sNil))
  (sRet (eVar 4)))) := by kernel_rfl
  unfold F_house_exchanges; rw [e, r_are_together, r_lefts, r_lets_house, r_put]
def F_all_deeds : Fn := mkF false 9 2 (sCons (sAsg (eVar 1) (gTup 2 (gCons (gName 2) (gCons (gName 3) gNil))))
  (sCons (sAsgT 2 (aCons (eCallG F_numbers_of [false] 1 0 [0] [] (aCons (eVar 1) aNil) aNil) (aCons (eCallG F_told_now [false, false] 2 0 [0, 1] [] (aCons (eVar 0) (aCons (eVar 2) aNil)) aNil) aNil)) (gCons (gName 4) (gCons (gName 5) gNil)))
  (sCons (sSet 6 (eLst (aStar (eCallG F_chair_deeds [false, false, false] 3 0 [0, 1, 2] [] (aCons (eVar 0) (aCons (eVar 2) (aCons (eVar 3) aNil))) aNil) (aStar (eCallG F_chair_exchanges [false, false, false] 3 0 [0, 1, 2] [] (aCons (eVar 0) (aCons (eVar 2) (aCons (eVar 4) aNil))) aNil) aNil))))
  (sCons (sFor 9 (iEnum2 (aCons (eVar 3) aNil)) (gTup 2 (gCons (gName 7) (gCons (gName 8) gNil))) (sCons (sExpr (eExt (eVar 6) (aCons (eCallG F_house_deeds [false, false, false, false] 4 0 [0, 1, 2, 3] [] (aCons (eVar 5) (aCons (eVar 2) (aCons (eVar 7) (aCons (eVar 8) aNil)))) aNil) aNil)))
    (sExpr (eExt (eVar 6) (aCons (eCallG F_house_exchanges [false, false, false, false] 4 0 [0, 1, 2, 3] [] (aCons (eVar 0) (aCons (eVar 7) (aCons (eVar 8) (aCons (eVar 4) aNil)))) aNil) aNil)))))
  (sRet (eCb (alt2 fSorted (alt2 fSortedC fSortedD)) (aCons (eVar 6) aNil)))))))
theorem r_all_deeds : m_all_deeds = F_all_deeds := by
  have e : m_all_deeds = mkF false 9 2 (sCons (sAsg (eVar 1) (gTup 2 (gCons (gName 2) (gCons (gName 3) gNil))))
  (sCons (sAsgT 2 (aCons (eCallG m_numbers_of [false] 1 0 [0] [] (aCons (eVar 1) aNil) aNil) (aCons (eCallG m_told_now [false, false] 2 0 [0, 1] [] (aCons (eVar 0) (aCons (eVar 2) aNil)) aNil) aNil)) (gCons (gName 4) (gCons (gName 5) gNil)))
  (sCons (sSet 6 (eLst (aStar (eCallG m_chair_deeds [false, false, false] 3 0 [0, 1, 2] [] (aCons (eVar 0) (aCons (eVar 2) (aCons (eVar 3) aNil))) aNil) (aStar (eCallG m_chair_exchanges [false, false, false] 3 0 [0, 1, 2] [] (aCons (eVar 0) (aCons (eVar 2) (aCons (eVar 4) aNil))) aNil) aNil))))
  (sCons (sFor 9 (iEnum2 (aCons (eVar 3) aNil)) (gTup 2 (gCons (gName 7) (gCons (gName 8) gNil))) (sCons (sExpr (eExt (eVar 6) (aCons (eCallG m_house_deeds [false, false, false, false] 4 0 [0, 1, 2, 3] [] (aCons (eVar 5) (aCons (eVar 2) (aCons (eVar 7) (aCons (eVar 8) aNil)))) aNil) aNil)))
    (sExpr (eExt (eVar 6) (aCons (eCallG m_house_exchanges [false, false, false, false] 4 0 [0, 1, 2, 3] [] (aCons (eVar 0) (aCons (eVar 7) (aCons (eVar 8) (aCons (eVar 4) aNil)))) aNil) aNil)))))
  (sRet (eCb (alt2 fSorted (alt2 fSortedC fSortedD)) (aCons (eVar 6) aNil))))))) := by kernel_rfl
  unfold F_all_deeds; rw [e, r_chair_deeds, r_chair_exchanges, r_house_deeds, r_house_exchanges, r_numbers_of, r_told_now]
def F_is_doable : Fn := mkF false 4 3 (sCons (sIf (tOr (tNot (tVal (eCb (fIsi2 iC iD) (aCons (eVar 2) (aCons (eCst (.ty "tuple")) aNil))))) (tVal (eCb fAny (aCons (eLc [3] (iItE (eVar 2)) (gName 3) tYesE (eCb (fIsi2 iC iD) (aCons (eVar 3) (aCons (eCst (.ty "bool")) aNil)))) aNil)))) (sRet (eCst (.bl false))) sNil)
  (sRet (eOp fIn2 (eVar 2) (eCallG F_all_deeds [false, false] 2 0 [0, 1] [] (aCons (eVar 0) (aCons (eVar 1) aNil)) aNil))))
theorem r_is_doable : m_is_doable = F_is_doable := by
  have e : m_is_doable = mkF false 4 3 (sCons (sIf (tOr (tNot (tVal (eCb (fIsi2 iC iD) (aCons (eVar 2) (aCons (eCst (.ty "tuple")) aNil))))) (tVal (eCb fAny (aCons (eLc [3] (iItE (eVar 2)) (gName 3) tYesE (eCb (fIsi2 iC iD) (aCons (eVar 3) (aCons (eCst (.ty "bool")) aNil)))) aNil)))) (sRet (eCst (.bl false))) sNil)
  (sRet (eOp fIn2 (eVar 2) (eCallG m_all_deeds [false, false] 2 0 [0, 1] [] (aCons (eVar 0) (aCons (eVar 1) aNil)) aNil)))) := by kernel_rfl
  unfold F_is_doable; rw [e, r_all_deeds]
def F_behind : Fn := mkF false 3 3 (sCons (sExpr (eCallG F_need_plan [false] 1 0 [0] [] (aCons (eVar 0) aNil) aNil))
  (sCons (sExpr (eCallG F_need_standing [false, false] 2 0 [0, 1] [] (aCons (eVar 0) (aCons (eVar 1) aNil)) aNil))
  (sCons (sIf (tNot (tVal (eCallG F_is_doable [false, false, false] 3 0 [0, 1, 2] [] (aCons (eVar 0) (aCons (eVar 1) (aCons (eVar 2) aNil))) aNil))) sNever sNil)
  (sRet (eCallG F_led_by [false, false, false] 3 0 [0, 1, 2] [] (aCons (eVar 0) (aCons (eVar 1) (aCons (eVar 2) aNil))) aNil)))))
theorem r_behind : m_behind = F_behind := by
  have e : m_behind = mkF false 3 3 (sCons (sExpr (eCallG m_need_plan [false] 1 0 [0] [] (aCons (eVar 0) aNil) aNil))
  (sCons (sExpr (eCallG m_need_standing [false, false] 2 0 [0, 1] [] (aCons (eVar 0) (aCons (eVar 1) aNil)) aNil))
  (sCons (sIf (tNot (tVal (eCallG m_is_doable [false, false, false] 3 0 [0, 1, 2] [] (aCons (eVar 0) (aCons (eVar 1) (aCons (eVar 2) aNil))) aNil))) sNever sNil)
  (sRet (eCallG m_led_by [false, false, false] 3 0 [0, 1, 2] [] (aCons (eVar 0) (aCons (eVar 1) (aCons (eVar 2) aNil))) aNil))))) := by kernel_rfl
  unfold F_behind; rw [e, r_is_doable, r_led_by, r_need_plan, r_need_standing]
def F_l_stands : Fn := mkF false 5 2 (sCons (sSet 2 (eDict (pCons (eCst (.str "new")) (eVar 1) (pCons (eCst (.str "asked")) (eCallG F_behind [false, false, false] 3 0 [0, 1, 2] [] (aCons (eVar 0) (aCons (eVar 1) (aCons (eTup (aCons (eCst (.str "ask")) aNil)) aNil))) aNil) pNil))))
  (sCons (sPut (eVar 2) (eCst (.str "voted")) (eCallG F_behind [false, false, false] 3 0 [0, 1, 2] [] (aCons (eVar 0) (aCons (eIx (eVar 2) (eCst (.str "asked"))) (aCons (eTup (aCons (eCst (.str "vote")) (aCons (eCst (.int 0)) aNil))) aNil))) aNil))
  (sCons (sPut (eVar 2) (eCst (.str "decided")) (eCallG F_behind [false, false, false] 3 0 [0, 1, 2] [] (aCons (eVar 0) (aCons (eIx (eVar 2) (eCst (.str "voted"))) (aCons (eTup (aCons (eCst (.str "decide")) (aCons (eCst (.str "yes")) aNil))) aNil))) aNil))
  (sCons (sPut (eVar 2) (eCst (.str "forgotten")) (eCallG F_behind [false, false, false] 3 0 [0, 1, 2] [] (aCons (eVar 0) (aCons (eIx (eVar 2) (eCst (.str "decided"))) (aCons (eTup (aCons (eCst (.str "forget")) aNil)) aNil))) aNil))
  (sCons (sAsg (eIx (eVar 2) (eCst (.str "voted"))) (gTup 2 (gCons (gName 3) (gCons (gName 4) gNil))))
  (sCons (sPut (eVar 2) (eCst (.str "skipped")) (eTup (aCons (eTup (aCons (eIx (eVar 3) (eCst (.int 0))) (aCons (eCst (.str "gone")) (aCons (eTup (aCons (eTup (aCons (eCst (.str "begin")) aNil)) (aCons (eCst (.int 1)) aNil))) (aCons (eCst (.bl false)) aNil))))) (aCons (eVar 4) aNil))))
  (sRet (eVar 2))))))))
theorem r_l_stands : m_l_stands = F_l_stands := by
  have e : m_l_stands = mkF false 5 2 (sCons (sSet 2 (eDict (pCons (eCst (.str "new")) (eVar 1) (pCons (eCst (.str "asked")) (eCallG m_behind [false, false, false] 3 0 [0, 1, 2] [] (aCons (eVar 0) (aCons (eVar 1) (aCons (eTup (aCons (eCst (.str "ask")) aNil)) aNil))) aNil) pNil))))
  (sCons (sPut (eVar 2) (eCst (.str "voted")) (eCallG m_behind [false, false, false] 3 0 [0, 1, 2] [] (aCons (eVar 0) (aCons (eIx (eVar 2) (eCst (.str "asked"))) (aCons (eTup (aCons (eCst (.str "vote")) (aCons (eCst (.int 0)) aNil))) aNil))) aNil))
  (sCons (sPut (eVar 2) (eCst (.str "decided")) (eCallG m_behind [false, false, false] 3 0 [0, 1, 2] [] (aCons (eVar 0) (aCons (eIx (eVar 2) (eCst (.str "voted"))) (aCons (eTup (aCons (eCst (.str "decide")) (aCons (eCst (.str "yes")) aNil))) aNil))) aNil))
  (sCons (sPut (eVar 2) (eCst (.str "forgotten")) (eCallG m_behind [false, false, false] 3 0 [0, 1, 2] [] (aCons (eVar 0) (aCons (eIx (eVar 2) (eCst (.str "decided"))) (aCons (eTup (aCons (eCst (.str "forget")) aNil)) aNil))) aNil))
  (sCons (sAsg (eIx (eVar 2) (eCst (.str "voted"))) (gTup 2 (gCons (gName 3) (gCons (gName 4) gNil))))
  (sCons (sPut (eVar 2) (eCst (.str "skipped")) (eTup (aCons (eTup (aCons (eIx (eVar 3) (eCst (.int 0))) (aCons (eCst (.str "gone")) (aCons (eTup (aCons (eTup (aCons (eCst (.str "begin")) aNil)) (aCons (eCst (.int 1)) aNil))) (aCons (eCst (.bl false)) aNil))))) (aCons (eVar 4) aNil))))
  (sRet (eVar 2)))))))) := by kernel_rfl
  unfold F_l_stands; rw [e, r_behind]
def F_l_first : Fn := mkF false 3 1 (sCons (sSet 1 (eLc [2] (iItE (eSlice (eVar 0) (oSome (eCst (.int 1))) oNone)) (gName 2) tYesE (eTup (aCons (eVar 2) (aCons (eCst (.str "idle")) (aCons (eTup (aCons (eTup aNil) (aCons (eCst (.int 0)) aNil))) (aCons (eCst (.bl false)) (aCons (eTup aNil) (aCons (eTup aNil) (aCons (eCst (.bl false)) (aCons (eCst (.bl false)) aNil)))))))))))
  (sRet (eTup (aCons (eTup (aCons (eIx (eVar 0) (eCst (.int 0))) (aCons (eCst (.str "new")) (aCons (eTup (aCons (eTup aNil) (aCons (eCst (.int 0)) aNil))) (aCons (eCst (.bl false)) aNil))))) (aCons (eCb fTuple (aCons (eVar 1) aNil)) aNil)))))
theorem r_l_first : m_l_first = F_l_first := by kernel_rfl
def F_deeds_at : Fn := mkF false 2 2 (sCons (sExpr (eCallG F_need_plan [false] 1 0 [0] [] (aCons (eVar 0) aNil) aNil))
  (sCons (sExpr (eCallG F_need_standing [false, false] 2 0 [0, 1] [] (aCons (eVar 0) (aCons (eVar 1) aNil)) aNil))
  (sRet (eCallG F_all_deeds [false, false] 2 0 [0, 1] [] (aCons (eVar 0) (aCons (eVar 1) aNil)) aNil))))
theorem r_deeds_at : m_deeds_at = F_deeds_at := by
  have e : m_deeds_at = mkF false 2 2 (sCons (sExpr (eCallG m_need_plan [false] 1 0 [0] [] (aCons (eVar 0) aNil) aNil))
  (sCons (sExpr (eCallG m_need_standing [false, false] 2 0 [0, 1] [] (aCons (eVar 0) (aCons (eVar 1) aNil)) aNil))
  (sRet (eCallG m_all_deeds [false, false] 2 0 [0, 1] [] (aCons (eVar 0) (aCons (eVar 1) aNil)) aNil)))) := by kernel_rfl
  unfold F_deeds_at; rw [e, r_all_deeds, r_need_plan, r_need_standing]
def F_l_exchanges : Fn := mkF false 4 2 (sCons (sSet 2 (eTup (aCons (eCst (.str "renew")) (aCons (eCst (.str "change")) (aCons (eCst (.str "restart")) (aCons (eCst (.str "reboot")) aNil))))))
  (sRet (eLc [3] (iItE (eCallG F_deeds_at [false, false] 2 0 [0, 1] [] (aCons (eVar 0) (aCons (eVar 1) aNil)) aNil)) (gName 3) (tVal (eOp fIn2 (eIx (eVar 3) (eCst (.int 0))) (eVar 2))) (eVar 3))))
theorem r_l_exchanges : m_l_exchanges = F_l_exchanges := by
  have e : m_l_exchanges = mkF false 4 2 (sCons (sSet 2 (eTup (aCons (eCst (.str "renew")) (aCons (eCst (.str "change")) (aCons (eCst (.str "restart")) (aCons (eCst (.str "reboot")) aNil))))))
  (sRet (eLc [3] (iItE (eCallG m_deeds_at [false, false] 2 0 [0, 1] [] (aCons (eVar 0) (aCons (eVar 1) aNil)) aNil)) (gName 3) (tVal (eOp fIn2 (eIx (eVar 3) (eCst (.int 0))) (eVar 2))) (eVar 3)))) := by kernel_rfl
  unfold F_l_exchanges; rw [e, r_deeds_at]
def F_l_known : Fn := mkF false 6 2 (sCons (sIf (tVal (eOp fEq (eVar 0) (eCst (.str "restart")))) (sCons (sSet 2 (eDict (pCons (eCst (.str "new")) (eTup (aCons (eCst (.int 0)) (aCons (eCst (.int 0)) aNil))) (pCons (eCst (.str "asked")) (eTup (aCons (eCst (.int 1)) (aCons (eCst (.int 0)) aNil))) (pCons (eCst (.str "voted")) (eTup (aCons (eCst (.int 1)) (aCons (eCst (.int 1)) aNil))) (pCons (eCst (.str "decided")) (eTup (aCons (eCst (.int 2)) (aCons (eCst (.int 1)) aNil))) (pCons (eCst (.str "forgotten")) (eTup (aCons (eCst (.int 0)) (aCons (eCst (.int 1)) aNil))) (pCons (eCst (.str "skipped")) (eTup (aCons (eCst (.int 1)) (aCons (eCst (.int 1)) aNil))) pNil))))))))
    (sRet (eLst (aCons (eTup (aCons (eCst (.str "reboot")) (aCons (eCst (.int 0)) (aCons (eCst (.int 1)) (aCons (eIx (eIx (eVar 2) (eVar 1)) (eCst (.int 1))) aNil))))) (aCons (eTup (aCons (eCst (.str "restart")) (aCons (eCst (.int 1)) (aCons (eIx (eIx (eVar 2) (eVar 1)) (eCst (.int 0))) aNil)))) aNil))))) sNil)
  (sCons (sSet 3 (eDict (pCons (eCst (.str "free")) (eLst (aCons (eCst (.str "new")) (aCons (eCst (.str "asked")) (aCons (eCst (.str "voted")) (aCons (eCst (.str "decided")) (aCons (eCst (.str "forgotten")) (aCons (eCst (.str "skipped")) aNil))))))) (pCons (eCst (.str "calm")) (eLst (aCons (eCst (.str "new")) (aCons (eCst (.str "forgotten")) (aCons (eCst (.str "skipped")) aNil)))) pNil))))
  (sCons (sSet 4 (eDict (pCons (eCst (.str "free")) (eIx (eVar 3) (eCst (.str "free"))) (pCons (eCst (.str "calm")) (eLst (aCons (eCst (.str "new")) (aCons (eCst (.str "asked")) aNil))) (pCons (eCst (.str "over")) (eLst (aCons (eCst (.str "new")) (aCons (eCst (.str "asked")) aNil))) pNil)))))
  (sCons (sPut (eVar 3) (eCst (.str "over")) (eLst (aCons (eCst (.str "new")) (aCons (eCst (.str "forgotten")) aNil))))
  (sCons (sSet 5 (eIf (tVal (eOp fIn2 (eVar 1) (eIx (eVar 4) (eVar 0)))) (eLst (aCons (eTup (aCons (eCst (.str "change")) (aCons (eCst (.int 0)) (aCons (eCst (.int 1)) aNil)))) aNil)) (eLst aNil)))
  (sRet (eOp fAdd (eVar 5) (eIf (tVal (eOp fIn2 (eVar 1) (eIx (eVar 3) (eVar 0)))) (eLst (aCons (eTup (aCons (eCst (.str "renew")) (aCons (eCst (.int 1)) aNil))) aNil)) (eLst aNil)))))))))
theorem r_l_known : m_l_known = F_l_known := by kernel_rfl
def F_l_restarts_right : Fn := mkF false 5 2 (sCons (sSet 2 (eCallG F_l_plan [false] 1 0 [0] [] (aCons (eVar 1) aNil) aNil))
  (sCons (sSet 3 (eCallG F_l_first [false] 1 0 [0] [] (aCons (eLst (aCons (eCst (.int 0)) (aCons (eCst (.int 0)) aNil))) aNil) aNil))
  (sCons (sSet 4 (eCallG F_behind [false, false, false] 3 0 [0, 1, 2] [] (aCons (eVar 2) (aCons (eVar 3) (aCons (eTup (aCons (eCst (.str "restart")) (aCons (eCst (.int 1)) (aCons (eCst (.int 0)) aNil)))) aNil))) aNil))
  (sCons (sIf (tVal (eOp fNe (eVar 4) (eTup (aCons (eOp fAdd (eTup (aCons (eCst (.int 1)) aNil)) (eSlice (eIx (eVar 3) (eCst (.int 0))) (oSome (eCst (.int 1))) oNone)) (aCons (eIx (eVar 3) (eCst (.int 1))) aNil))))) (sRet (eCst (.bl false))) sNil)
  (sRet (eOp fEq (eIx (eCallG F_behind [false, false, false] 3 0 [0, 1, 2] [] (aCons (eVar 2) (aCons (eVar 3) (aCons (eTup (aCons (eCst (.str "reboot")) (aCons (eCst (.int 0)) (aCons (eCst (.int 1)) (aCons (eCst (.int 0)) aNil))))) aNil))) aNil) (eCst (.int 1))) (eTup (aCons (eTup (aCons (eCst (.int 1)) (aCons (eCst (.str "empty")) (aCons (eTup (aCons (eTup aNil) (aCons (eCst (.int 0)) aNil))) (aCons (eCst (.bl false)) (aCons (eTup aNil) (aCons (eTup aNil) (aCons (eCst (.bl false)) (aCons (eCst (.bl true)) aNil))))))))) aNil))))))))
theorem r_l_restarts_right : m_l_restarts_right = F_l_restarts_right := by
  have e : m_l_restarts_right = mkF false 5 2 (sCons (sSet 2 (eCallG m_l_plan [false] 1 0 [0] [] (aCons (eVar 1) aNil) aNil))
  (sCons (sSet 3 (eCallG m_l_first [false] 1 0 [0] [] (aCons (eLst (aCons (eCst (.int 0)) (aCons (eCst (.int 0)) aNil))) aNil) aNil))
  (sCons (sSet 4 (eCallG m_behind [false, false, false] 3 0 [0, 1, 2] [] (aCons (eVar 2) (aCons (eVar 3) (aCons (eTup (aCons (eCst (.str "restart")) (aCons (eCst (.int 1)) (aCons (eCst (.int 0)) aNil)))) aNil))) aNil))
  (sCons (sIf (tVal (eOp fNe (eVar 4) (eTup (aCons (eOp fAdd (eTup (aCons (eCst (.int 1)) aNil)) (eSlice (eIx (eVar 3) (eCst (.int 0))) (oSome (eCst (.int 1))) oNone)) (aCons (eIx (eVar 3) (eCst (.int 1))) aNil))))) (sRet (eCst (.bl false))) sNil)
  (sRet (eOp fEq (eIx (eCallG m_behind [false, false, false] 3 0 [0, 1, 2] [] (aCons (eVar 2) (aCons (eVar 3) (aCons (eTup (aCons (eCst (.str "reboot")) (aCons (eCst (.int 0)) (aCons (eCst (.int 1)) (aCons (eCst (.int 0)) aNil))))) aNil))) aNil) (eCst (.int 1))) (eTup (aCons (eTup (aCons (eCst (.int 1)) (aCons (eCst (.str "empty")) (aCons (eTup (aCons (eTup aNil) (aCons (eCst (.int 0)) aNil))) (aCons (eCst (.bl false)) (aCons (eTup aNil) (aCons (eTup aNil) (aCons (eCst (.bl false)) (aCons (eCst (.bl true)) aNil))))))))) aNil)))))))) := by kernel_rfl
  unfold F_l_restarts_right; rw [e, r_behind, r_l_first, r_l_plan]
def F_law_ : Fn := mkF false 17 1 (sCons (sSet 1 (eCallG F_l_begun [false] 1 0 [0] [] (aCons (eVar 0) aNil) aNil))
  (sCons (sFor 17 (iRange1 (aCons (eOp fAdd (eCst (.int 1)) (eCb (alt2 fMin2 fMin1) (aCons (eCb fLen (aCons (eVar 0) aNil)) (aCons (eCst (.int 6)) aNil)))) aNil)) (gName 2) (sCons (sSet 3 (eCb (alt2 fDictP fDictD) (aCons (eLc [4] (iItE (eCallG F_l_notes [] 0 0 [] [] aNil aNil)) (gName 4) tYesE (eTup (aCons (eVar 4) (aCons (eCst (.str "forced")) aNil)))) aNil)))
    (sCons (sSet 5 (eDict (pCons (eCst (.str "words")) (eVar 3) (pCons (eCst (.str "answers")) (eTup aNil) (pCons (eCst (.str "presume")) (eCallG F_l_pick [true, false] 2 0 [0, 1] [] (aCons (eVar 1) (aCons (eLst (aCons (eCst (.str "no")) (aCons (eCst (.str "wait")) (aCons (eCst (.str "yes")) aNil)))) aNil)) aNil) (pCons (eCst (.str "reads")) (eTup aNil) (pCons (eCst (.str "strange")) (eCst (.str "skip")) pNil)))))))
    (sCons (sSet 6 (eCallG F_l_sheet [true, false] 2 0 [0, 1] [] (aCons (eVar 1) (aCons (eCst (.int 2)) aNil)) aNil))
    (sFor 17 (iItE (eCallG F_l_gates [] 0 0 [] [] aNil aNil)) (gName 7) (sCons (sSet 8 (eDict (pCons (eCst (.str "sheets")) (eLst (aCons (eVar 5) (aCons (eVar 6) aNil))) (pCons (eCst (.str "steps")) (eDict (pCons (eTup (aCons (eCst (.int 0)) (aCons (eCst (.int 1)) aNil))) (eVar 7) pNil)) (pCons (eCst (.str "window")) (eCst (.int 1)) (pCons (eCst (.str "order")) (eCst (.str "any")) pNil))))))
      (sCons (sSet 9 (eCallG F_l_plan [false] 1 0 [0] [] (aCons (eVar 8) aNil) aNil))
      (sCons (sSet 10 (eCallG F_l_stands [false, false] 2 0 [0, 1] [] (aCons (eVar 9) (aCons (eCallG F_l_first [false] 1 0 [0] [] (aCons (eLst (aCons (eCst (.int 0)) (aCons (eCst (.int 0)) aNil))) aNil) aNil) aNil)) aNil))
      (sCons (sFor 17 (iItE (eVar 10)) (gName 11) (sIf (tVal (eOp fNe (eCallG F_l_exchanges [false, false] 2 0 [0, 1] [] (aCons (eVar 9) (aCons (eIx (eVar 10) (eVar 11)) aNil)) aNil) (eCallG F_l_known [false, false] 2 0 [0, 1] [] (aCons (eVar 7) (aCons (eVar 11) aNil)) aNil))) (sRet (eCst (.bl false))) sNil))
      (sCons (sFor 17 (iItE (eLst (aCons (eTup (aCons (eCst (.str "chair first")) (aCons (eTup (aCons (eCst (.str "renew")) (aCons (eCst (.str "restart")) aNil))) aNil))) (aCons (eTup (aCons (eCst (.str "chair last")) (aCons (eTup (aCons (eCst (.str "change")) (aCons (eCst (.str "reboot")) aNil))) aNil))) aNil)))) (gTup 2 (gCons (gName 12) (gCons (gName 13) gNil))) (sCons (sSet 14 (eCb (alt2 fDictP fDictD) (aCons (eVar 8) aNil)))
        (sCons (sPut (eVar 14) (eCst (.str "order")) (eVar 12))
        (sCons (sSet 15 (eCallG F_l_exchanges [false, false] 2 0 [0, 1] [] (aCons (eCallG F_l_plan [false] 1 0 [0] [] (aCons (eVar 14) aNil) aNil) (aCons (eIx (eVar 10) (eCst (.str "new"))) aNil)) aNil))
        (sIf (tVal (eOp fNe (eVar 15) (eLc [16] (iItE (eCallG F_l_known [false, false] 2 0 [0, 1] [] (aCons (eVar 7) (aCons (eCst (.str "new")) aNil)) aNil)) (gName 16) (tVal (eOp fIn2 (eIx (eVar 16) (eCst (.int 0))) (eVar 13))) (eVar 16)))) (sRet (eCst (.bl false))) sNil)))))
      (sIf (tAnd (tVal (eOp fEq (eVar 7) (eCst (.str "restart")))) (tNot (tVal (eCallG F_l_restarts_right [true, false] 2 0 [0, 1] [] (aCons (eVar 1) (aCons (eVar 8) aNil)) aNil)))) (sRet (eCst (.bl false))) sNil)))))))))))
  (sRet (eCst (.bl true)))))
theorem r_law_ : m_law_ = F_law_ := by
  have e : m_law_ = mkF false 17 1 (sCons (sSet 1 (eCallG m_l_begun [false] 1 0 [0] [] (aCons (eVar 0) aNil) aNil))
  (sCons (sFor 17 (iRange1 (aCons (eOp fAdd (eCst (.int 1)) (eCb (alt2 fMin2 fMin1) (aCons (eCb fLen (aCons (eVar 0) aNil)) (aCons (eCst (.int 6)) aNil)))) aNil)) (gName 2) (sCons (sSet 3 (eCb (alt2 fDictP fDictD) (aCons (eLc [4] (iItE (eCallG m_l_notes [] 0 0 [] [] aNil aNil)) (gName 4) tYesE (eTup (aCons (eVar 4) (aCons (eCst (.str "forced")) aNil)))) aNil)))
    (sCons (sSet 5 (eDict (pCons (eCst (.str "words")) (eVar 3) (pCons (eCst (.str "answers")) (eTup aNil) (pCons (eCst (.str "presume")) (eCallG m_l_pick [true, false] 2 0 [0, 1] [] (aCons (eVar 1) (aCons (eLst (aCons (eCst (.str "no")) (aCons (eCst (.str "wait")) (aCons (eCst (.str "yes")) aNil)))) aNil)) aNil) (pCons (eCst (.str "reads")) (eTup aNil) (pCons (eCst (.str "strange")) (eCst (.str "skip")) pNil)))))))
    (sCons (sSet 6 (eCallG m_l_sheet [true, false] 2 0 [0, 1] [] (aCons (eVar 1) (aCons (eCst (.int 2)) aNil)) aNil))
    (sFor 17 (iItE (eCallG m_l_gates [] 0 0 [] [] aNil aNil)) (gName 7) (sCons (sSet 8 (eDict (pCons (eCst (.str "sheets")) (eLst (aCons (eVar 5) (aCons (eVar 6) aNil))) (pCons (eCst (.str "steps")) (eDict (pCons (eTup (aCons (eCst (.int 0)) (aCons (eCst (.int 1)) aNil))) (eVar 7) pNil)) (pCons (eCst (.str "window")) (eCst (.int 1)) (pCons (eCst (.str "order")) (eCst (.str "any")) pNil))))))
      (sCons (sSet 9 (eCallG m_l_plan [false] 1 0 [0] [] (aCons (eVar 8) aNil) aNil))
      (sCons (sSet 10 (eCallG m_l_stands [false, false] 2 0 [0, 1] [] (aCons (eVar 9) (aCons (eCallG m_l_first [false] 1 0 [0] [] (aCons (eLst (aCons (eCst (.int 0)) (aCons (eCst (.int 0)) aNil))) aNil) aNil) aNil)) aNil))
      (sCons (sFor 17 (iItE (eVar 10)) (gName 11) (sIf (tVal (eOp fNe (eCallG m_l_exchanges [false, false] 2 0 [0, 1] [] (aCons (eVar 9) (aCons (eIx (eVar 10) (eVar 11)) aNil)) aNil) (eCallG m_l_known [false, false] 2 0 [0, 1] [] (aCons (eVar 7) (aCons (eVar 11) aNil)) aNil))) (sRet (eCst (.bl false))) sNil))
      (sCons (sFor 17 (iItE (eLst (aCons (eTup (aCons (eCst (.str "chair first")) (aCons (eTup (aCons (eCst (.str "renew")) (aCons (eCst (.str "restart")) aNil))) aNil))) (aCons (eTup (aCons (eCst (.str "chair last")) (aCons (eTup (aCons (eCst (.str "change")) (aCons (eCst (.str "reboot")) aNil))) aNil))) aNil)))) (gTup 2 (gCons (gName 12) (gCons (gName 13) gNil))) (sCons (sSet 14 (eCb (alt2 fDictP fDictD) (aCons (eVar 8) aNil)))
        (sCons (sPut (eVar 14) (eCst (.str "order")) (eVar 12))
        (sCons (sSet 15 (eCallG m_l_exchanges [false, false] 2 0 [0, 1] [] (aCons (eCallG m_l_plan [false] 1 0 [0] [] (aCons (eVar 14) aNil) aNil) (aCons (eIx (eVar 10) (eCst (.str "new"))) aNil)) aNil))
        (sIf (tVal (eOp fNe (eVar 15) (eLc [16] (iItE (eCallG m_l_known [false, false] 2 0 [0, 1] [] (aCons (eVar 7) (aCons (eCst (.str "new")) aNil)) aNil)) (gName 16) (tVal (eOp fIn2 (eIx (eVar 16) (eCst (.int 0))) (eVar 13))) (eVar 16)))) (sRet (eCst (.bl false))) sNil)))))
      (sIf (tAnd (tVal (eOp fEq (eVar 7) (eCst (.str "restart")))) (tNot (tVal (eCallG m_l_restarts_right [true, false] 2 0 [0, 1] [] (aCons (eVar 1) (aCons (eVar 8) aNil)) aNil)))) (sRet (eCst (.bl false))) sNil)))))))))))
  (sRet (eCst (.bl true))))) := by kernel_rfl
  unfold F_law_; rw [e, r_l_begun, r_l_exchanges, r_l_first, r_l_gates, r_l_known, r_l_notes, r_l_pick, r_l_plan, r_l_restarts_right, r_l_sheet, r_l_stands]
def F_Edition_xeq : Fn := mkF false 2 2 (sRet (eAnd (eCb (fIsi2 iC iD) (aCons (eVar 1) (aCons (eCst (.cn "Edition")) aNil))) (eAnd (eOp fEq (eFld "Edition" "own_words" (eVar 0)) (eFld "Edition" "own_words" (eVar 1))) (eOp fEq (eFld "Edition" "own_rest" (eVar 0)) (eFld "Edition" "own_rest" (eVar 1))))))
theorem r_Edition_xeq : m_Edition_xeq = F_Edition_xeq := by kernel_rfl
def F_Plan_xeq : Fn := mkF false 2 2 (sCons (sIf (tOr (tNot (tVal (eCb (fIsi2 iC iD) (aCons (eVar 1) (aCons (eCst (.cn "Plan")) aNil))))) (tVal (eOp fNe (eFld "Plan" "own_editions" (eVar 0)) (eFld "Plan" "own_editions" (eVar 1))))) (sRet (eCst (.bl false))) sNil)
  (sRet (eOp fEq (eTup (aCons (eFld "Plan" "own_steps" (eVar 0)) (aCons (eFld "Plan" "own_window" (eVar 0)) (aCons (eFld "Plan" "own_order" (eVar 0)) aNil)))) (eTup (aCons (eFld "Plan" "own_steps" (eVar 1)) (aCons (eFld "Plan" "own_window" (eVar 1)) (aCons (eFld "Plan" "own_order" (eVar 1)) aNil)))))))
theorem r_Plan_xeq : m_Plan_xeq = F_Plan_xeq := by kernel_rfl
def F_Plan_xlen : Fn := mkF false 1 1 (sRet (eCb fLen (aCons (eFld "Plan" "own_editions" (eVar 0)) aNil)))
theorem r_Plan_xlen : m_Plan_xlen = F_Plan_xlen := by kernel_rfl
end K14

set_option Elab.async false
set_option linter.all false
set_option maxRecDepth 100000
set_option maxHeartbeats 400000
namespace K14
open PySem FL FP
def lwA : Sv := sSet 3 (eCb (alt2 fDictP fDictD) (aCons (eLc [4] (iItE (eCallG F_notes [] 0 0 [] [] aNil aNil)) (gName 4) tYesE (eTup (aCons (eVar 4) (aCons (eCst (.str "forced")) aNil)))) aNil))
abbrev lwBa : Ea := (aCons (eVar 1) (aCons (eLst (aCons (eCst (.str "no")) (aCons (eCst (.str "wait")) (aCons (eCst (.str "yes")) aNil)))) aNil))
def lwB : Sv := sSet 5 (eDict (pCons (eCst (.str "words")) (eVar 3) (pCons (eCst (.str "answers")) (eTup aNil) (pCons (eCst (.str "presume")) (eCallG F_pick [true, false] 2 0 [0, 1] [] lwBa aNil) (pCons (eCst (.str "reads")) (eTup aNil) (pCons (eCst (.str "strange")) (eCst (.str "skip")) pNil))))))
abbrev lwCa : Ea := (aCons (eVar 1) (aCons (eCst (.int 2)) aNil))
def lwC : Sv := sSet 6 (eCallG F_sheet [true, false] 2 0 [0, 1] [] lwCa aNil)
def g0 : Sv := sSet 8 (eDict (pCons (eCst (.str "sheets")) (eLst (aCons (eVar 5) (aCons (eVar 6) aNil))) (pCons (eCst (.str "steps")) (eDict (pCons (eTup (aCons (eCst (.int 0)) (aCons (eCst (.int 1)) aNil))) (eVar 7) pNil)) (pCons (eCst (.str "window")) (eCst (.int 1)) (pCons (eCst (.str "order")) (eCst (.str "any")) pNil)))))
def g1 : Sv := sSet 9 (eCallG (F_plan iC iD) [false] 1 0 [0] [] (aCons (eVar 8) aNil) aNil)
def g2 : Sv := sSet 10 (eCallG F_l_stands [false, false] 2 0 [0, 1] [] (aCons (eVar 9) (aCons (eCallG F_l_first [false] 1 0 [0] [] (aCons (eLst (aCons (eCst (.int 0)) (aCons (eCst (.int 0)) aNil))) aNil) aNil) aNil)) aNil)
def g3b : Sv := sIf (tVal (eOp fNe (eCallG F_l_exchanges [false, false] 2 0 [0, 1] [] (aCons (eVar 9) (aCons (eIx (eVar 10) (eVar 11)) aNil)) aNil) (eCallG F_l_known [false, false] 2 0 [0, 1] [] (aCons (eVar 7) (aCons (eVar 11) aNil)) aNil))) (sRet (eCst (.bl false))) sNil
def g3 : Sv := sFor 17 (iItE (eVar 10)) (gName 11) g3b
def n0 : Sv := sSet 14 (eCb (alt2 fDictP fDictD) (aCons (eVar 8) aNil))
def n1 : Sv := sPut (eVar 14) (eCst (.str "order")) (eVar 12)
abbrev n2p : Ev := eCallG (F_plan iC iD) [false] 1 0 [0] [] (aCons (eVar 14) aNil) aNil
def n2 : Sv := sSet 15 (eCallG F_l_exchanges [false, false] 2 0 [0, 1] [] (aCons n2p (aCons (eIx (eVar 10) (eCst (.str "new"))) aNil)) aNil)
def n3 : Sv := sIf (tVal (eOp fNe (eVar 15) (eLc [16] (iItE (eCallG F_l_known [false, false] 2 0 [0, 1] [] (aCons (eVar 7) (aCons (eCst (.str "new")) aNil)) aNil)) (gName 16) (tVal (eOp fIn2 (eIx (eVar 16) (eCst (.int 0))) (eVar 13))) (eVar 16)))) (sRet (eCst (.bl false))) sNil
def g4b : Sv := sCons n0 (sCons n1 (sCons n2 n3))
abbrev g4g : Gv := gTup 2 (gCons (gName 12) (gCons (gName 13) gNil))
def g4 : Sv := sFor 17 (iItE (eLst (aCons (eTup (aCons (eCst (.str "chair first")) (aCons (eTup (aCons (eCst (.str "renew")) (aCons (eCst (.str "restart")) aNil))) aNil))) (aCons (eTup (aCons (eCst (.str "chair last")) (aCons (eTup (aCons (eCst (.str "change")) (aCons (eCst (.str "reboot")) aNil))) aNil))) aNil)))) g4g g4b
def rightR : Sv := (sCons (sSet 3 (eCallG F_l_first [false] 1 0 [0] [] (aCons (eLst (aCons (eCst (.int 0)) (aCons (eCst (.int 0)) aNil))) aNil) aNil))
  (sCons (sSet 4 (eCallG F_behind [false, false, false] 3 0 [0, 1, 2] [] (aCons (eVar 2) (aCons (eVar 3) (aCons (eTup (aCons (eCst (.str "restart")) (aCons (eCst (.int 1)) (aCons (eCst (.int 0)) aNil)))) aNil))) aNil))
  (sCons (sIf (tVal (eOp fNe (eVar 4) (eTup (aCons (eOp fAdd (eTup (aCons (eCst (.int 1)) aNil)) (eSlice (eIx (eVar 3) (eCst (.int 0))) (oSome (eCst (.int 1))) oNone)) (aCons (eIx (eVar 3) (eCst (.int 1))) aNil))))) (sRet (eCst (.bl false))) sNil)
  (sRet (eOp fEq (eIx (eCallG F_behind [false, false, false] 3 0 [0, 1, 2] [] (aCons (eVar 2) (aCons (eVar 3) (aCons (eTup (aCons (eCst (.str "reboot")) (aCons (eCst (.int 0)) (aCons (eCst (.int 1)) (aCons (eCst (.int 0)) aNil))))) aNil))) aNil) (eCst (.int 1))) (eTup (aCons (eTup (aCons (eCst (.int 1)) (aCons (eCst (.str "empty")) (aCons (eTup (aCons (eTup aNil) (aCons (eCst (.int 0)) aNil))) (aCons (eCst (.bl false)) (aCons (eTup aNil) (aCons (eTup aNil) (aCons (eCst (.bl false)) (aCons (eCst (.bl true)) aNil))))))))) aNil)))))))
def F_right : Fn := mkF false 5 2 (sCons (sSet 2 (eCallG (F_plan iC iD) [false] 1 0 [0] [] (aCons (eVar 1) aNil) aNil)) rightR)
def g5 : Sv := sIf (tAnd (tVal (eOp fEq (eVar 7) (eCst (.str "restart")))) (tNot (tVal (eCallG F_right [true, false] 2 0 [0, 1] [] (aCons (eVar 1) (aCons (eVar 8) aNil)) aNil)))) (sRet (eCst (.bl false))) sNil
def gB : Sv := sCons g0 (sCons g1 (sCons g2 (sCons g3 (sCons g4 g5))))
def lwD : Sv := sFor 17 (iItE (eCallG F_l_gates [] 0 0 [] [] aNil aNil)) (gName 7) gB
def lwT : Sv := sCons lwA (sCons lwB (sCons lwC lwD))
def lwI : Ei := iRange1 (aCons (eOp fAdd (eCst (.int 1)) (eCb (alt2 fMin2 fMin1) (aCons (eCb fLen (aCons (eVar 0) aNil)) (aCons (eCst (.int 6)) aNil)))) aNil)
def lwL : Sv := sFor 17 lwI (gName 2) lwT
def F_law : Fn := mkF false 17 1 (sCons (sSet 1 (eCallG F_begun [false] 1 0 [0] [] (aCons (eVar 0) aNil) aNil)) (sCons lwL (sRet (eCst (.bl true)))))
theorem q_law : m_law_ = F_law := by rw [r_law_]; kernel_rfl
end K14

set_option Elab.async false
set_option linter.all false
set_option maxRecDepth 100000
set_option maxHeartbeats 400000
namespace FP
open PySem FL
/-! ### what a step leaves -/
def nL : Option So → OL | some (.nx L _) => L | _ => []
def nE : Option So → VEnv | some (.nx _ e) => e | _ => []
def isNx : Option So → Bool | some (.nx _ _) => true | _ => false
theorem of_nx {o : Option So} (h : isNx o = true) : o = some (.nx (nL o) (nE o)) := by
  unfold isNx at h
  split at h
  · rfl
  · cases h
def dOf : Option DV → D | some (.d x) => x | _ => .non
def frA (bs : List Bool) (n k : Nat) (sel : List Nat) (dds : List D) (as ka : Ea) : OL → VEnv → Mo (List DV) := fun L env => bnd (aGo as ka L env) fun L1 a => bnd (opt L1 (ord n k sel dds [] a)) fun L2 zs => Fzm bs L2 zs
def vL {α : Type} : Mo α → OL | some (.val L _) => L | _ => []
theorem eCallG_frA {m : Fn} {bs : List Bool} {n k : Nat} {sel : List Nat} {dds : List D} {as ka : Ea} {L L2 : OL} {env : VEnv} {ys : List DV} (h : frA bs n k sel dds as ka L env = some (.val L2 ys)) (hf : Fzm bs L2 ys = some (.val L2 ys)) : eCallG m bs n k sel dds as ka L env = callM m bs L2 ys := by
  unfold frA at h
  unfold eCallG
  cases h1 : aGo as ka L env with
  | none => rw [h1] at h; cases h
  | some o =>
    cases o with
    | exc L1 x => rw [h1] at h; cases h
    | val L1 a =>
      rw [h1] at h
      show bnd (opt L1 (ord n k sel dds [] a)) _ = _
      have h : (bnd (opt L1 (ord n k sel dds [] a)) fun L2 zs => Fzm bs L2 zs) = some (.val L2 ys) := h
      cases h2 : ord n k sel dds [] a with
      | none => rw [h2] at h; cases h
      | some zs =>
        rw [h2] at h
        have h : Fzm bs L1 zs = some (.val L2 ys) := h
        show callM m bs L1 zs = _
        unfold callM
        rw [h, hf]
theorem pCons_val {a b : Ev} {r : Ep} {L L1 L2 L3 : OL} {env : VEnv} {x y : DV} {xs : List (DV × DV)} (ha : a L env = some (.val L1 x)) (hb : b L1 env = some (.val L2 y)) (hr : r L2 env = some (.val L3 xs)) : pCons a b r L env = some (.val L3 ((x, y) :: xs)) := by
  unfold pCons; rw [ha]; dsimp only [bnd]; rw [hb]; dsimp only; rw [hr]
theorem sheet_ed {ws : List Nat} {cs : List Int} {r t z : Nat} (hz : z < 1000) (ht : t + 40 < 1099511627776) (hw : ws.length ≤ 1000) : ∃ (ws' : List Nat) (r' t' : Nat) (e : Ed), F_sheet (dr ws cs r (.ofNat t)) [.h 0, .d (.int (.ofNat z))] = some (.val (dr ws' cs r' (.ofNat t')) (.d e.sheet)) ∧ t' ≤ t + 40 ∧ ws'.length ≤ ws.length := by
  obtain ⟨ws', r', t', w0, w1, w2, w3, w4, w5, a, p, rd, s, h, ⟨h0, h1, h2, h3, h4, h5⟩, hA, hP, ⟨b0, b1, b2, b3, b4, b5, rfl⟩, hS, q1, q2⟩ := sheet_ok (cs := cs) (r := r) hz ht hw
  obtain ⟨w0, rfl⟩ := Wd.of h0
  obtain ⟨w1, rfl⟩ := Wd.of h1
  obtain ⟨w2, rfl⟩ := Wd.of h2
  obtain ⟨w3, rfl⟩ := Wd.of h3
  obtain ⟨w4, rfl⟩ := Wd.of h4
  obtain ⟨w5, rfl⟩ := Wd.of h5
  obtain ⟨a, rfl⟩ := An.of hA
  obtain ⟨p, rfl⟩ := Pr.of hP
  obtain ⟨s, rfl⟩ := Sg.of hS
  exact ⟨ws', r', t', ⟨w0, w1, w2, w3, w4, w5, a, p, b0, b1, b2, b3, b4, b5, s⟩, h, q1, q2⟩
end FP
namespace K14
open PySem FL FP
def e1p (p : Pr) : Ed := ⟨.f, .f, .f, .f, .f, .f, .o, p, false, false, false, false, false, false, .skip⟩
abbrev scD (p : Pr) (e : Ed) (lock : D) (ord : D) : D := schemeD [e1p p, e] (.dct [(.tup [.int 0, .int 1], lock)]) (.int 1) ord
abbrev plD (p : Pr) (e : Ed) (lock : D) (ord : D) : D := planD [e1p p, e] (.dct [(.tup [.int 0, .int 1], lock)]) (.int 1) ord
def isLk (d : D) : Prop := d = .str "calm" ∨ d = .str "free" ∨ d = .str "over" ∨ d = .str "restart"
def isOr (d : D) : Prop := d = .str "any" ∨ d = .str "chair first" ∨ d = .str "chair last"
theorem plan2 {p : Pr} {e : Ed} {lock ord : D} (hl : isLk lock) (ho : isOr ord) (L : OL) : callM (F_plan iC iD) [false] L [.d (scD p e lock ord)] = some (.val L (.d (plD p e lock ord))) := by
  rcases hl with rfl | rfl | rfl | rfl <;> rcases ho with rfl | rfl | rfl <;> exact plan_call (Nat.le_of_ble_eq_true rfl) L (by kernel_rfl)
def oB (b : Bool) (d : D) : Option DV := match b with
  | true => some (.d d)
  | false => none
def TV (b : Bool) (sc : D) (f : Nat → D) : VEnv := [some (.d sc), some (.h 0), oB b (f 2), oB b (f 3), none, oB b (f 5), oB b (f 6), oB b (f 7), oB b (f 8), oB b (f 9), oB b (f 10), oB b (f 11), oB b (f 12), oB b (f 13), oB b (f 14), oB b (f 15), none]
def TA (b : Bool) (sc x : D) (f : Nat → D) : VEnv := [some (.d sc), some (.h 0), some (.d x), some (.h 3), none, oB b (f 5), oB b (f 6), oB b (f 7), oB b (f 8), oB b (f 9), oB b (f 10), oB b (f 11), oB b (f 12), oB b (f 13), oB b (f 14), oB b (f 15), none]
def GV1 (b : Bool) (sc x : D) (e : Ed) (f : Nat → D) : VEnv := [some (.d sc), some (.h 0), some (.d x), some (.h 1), none, some (.h 2), some (.d e.sheet), oB b (f 7), oB b (f 8), oB b (f 9), oB b (f 10), oB b (f 11), oB b (f 12), oB b (f 13), oB b (f 14), oB b (f 15), none]
def frc : D := wordsD (.str "forced") (.str "forced") (.str "forced") (.str "forced") (.str "forced") (.str "forced")
def GV2 (sc x : D) (p : Pr) (e : Ed) (f : Nat → D) : VEnv := [some (.d sc), some (.h 0), some (.d x), some (.d frc), none, some (.d (e1p p).sheet), some (.d e.sheet), some (.d (f 7)), some (.d (f 8)), some (.d (f 9)), some (.d (f 10)), some (.d (f 11)), some (.d (f 12)), some (.d (f 13)), some (.d (f 14)), some (.d (f 15)), none]
def gL1 (ws : List Nat) (cs : List Int) (r t : Nat) (p : Pr) : OL := [.own (.k [(.str "wide", .h 3), (.str "cells", .d (.lst (cs.map D.int))), (.str "rest", .d (.int (.ofNat r))), (.str "turn", .d (.int (.ofNat t)))]), .own (.p frc), .own (.k [(.str "words", .h 1), (.str "answers", .d (.tup [])), (.str "presume", .d p.d), (.str "reads", .d (.tup [])), (.str "strange", .d (.str "skip"))]), .own (.p (.lst (ws.map fun w => D.int (.ofNat w))))]
/-- the beginning of a turn: two sheets -/
theorem turn1 {b : Bool} {sc x : D} {f : Nat → D} {ws : List Nat} {cs : List Int} {r t : Nat} (ht : t + 50 < 1099511627776) (hw : ws.length ≤ 1000) : ∃ (ws' : List Nat) (r' t' : Nat) (p : Pr) (e : Ed), t' ≤ t + 50 ∧ ws'.length ≤ ws.length ∧ ∀ xs, forS 17 (gName 2) lwT (x :: xs) (dr ws cs r (.ofNat t)) (TV b sc f) = (match forS 17 (gName 7) gB [.str "calm", .str "free", .str "over", .str "restart"] (gL1 ws' cs r' t' p) (GV1 b sc x e f) with
      | some (.nx L e) => forS 17 (gName 2) lwT xs (cmL 17 L e) (cmE 17 L e)
      | some (.ct L e) => forS 17 (gName 2) lwT xs (cmL 17 L e) (cmE 17 L e)
      | some (.bk L e) => some (.nx L e)
      | o => o) := by
  let MA : OL := [.own (.p (.lst [.tup [.str "begin", .str "forced"], .tup [.str "yes", .str "forced"], .tup [.str "no", .str "forced"], .tup [.str "ready", .str "forced"], .tup [.str "agreed", .str "forced"], .tup [.str "refused", .str "forced"]])), .own (.p frc)]
  obtain ⟨ws1, r1, t1, d, h1, hd, q1, q2⟩ := ePick (as := lwBa) (L := dr ws cs r (.ofNat t) ++ (MA ++ [.own (.p (.dct []))])) (env := TA b sc x f) (L1 := dr ws cs r (.ofNat t) ++ (MA ++ [.own (.p (.dct [])), .own (.p (.lst [.str "no", .str "wait", .str "yes"]))])) (ws := ws) (cs := cs) (r := r) (t := t) (M := MA ++ [.own (.p (.dct [])), gP]) (y := .h 5) (d0 := .str "no") (ds := [.str "wait", .str "yes"]) (by kernel_rfl) (by kernel_rfl) (by decide) (by omega) (by omega)
  have hp : ∃ p : Pr, d = p.d := by
    simp at hd
    exact Pr.of hd
  obtain ⟨p, rfl⟩ := hp
  let MB : OL := MA ++ [.own (.k [(.str "words", .h 3), (.str "answers", .d (.tup [])), (.str "presume", .d p.d), (.str "reads", .d (.tup [])), (.str "strange", .d (.str "skip"))]), gP]
  obtain ⟨ws2, r2, t2, e, h2, q3, q4⟩ := sheet_ed (cs := cs) (r := r1) (z := 2) (by decide) (by omega : t1 + 40 < _) (by omega : ws1.length ≤ 1000)
  refine ⟨ws2, r2, t2, p, e, by omega, by omega, fun xs => ?_⟩
  let EB : VEnv := [some (.d sc), some (.h 0), some (.d x), some (.h 3), none, some (.h 4), oB b (f 6), oB b (f 7), oB b (f 8), oB b (f 9), oB b (f 10), oB b (f 11), oB b (f 12), oB b (f 13), oB b (f 14), oB b (f 15), none]
  let EC : VEnv := [some (.d sc), some (.h 0), some (.d x), some (.h 3), none, some (.h 4), some (.d e.sheet), oB b (f 7), oB b (f 8), oB b (f 9), oB b (f 10), oB b (f 11), oB b (f 12), oB b (f 13), oB b (f 14), oB b (f 15), none]
  let E1 : VEnv := [some (.d sc), some (.h 0), some (.d x), oB b (f 3), none, oB b (f 5), oB b (f 6), oB b (f 7), oB b (f 8), oB b (f 9), oB b (f 10), oB b (f 11), oB b (f 12), oB b (f 13), oB b (f 14), oB b (f 15), none]
  have sA : lwA (dr ws cs r (.ofNat t)) E1 = some (.nx (dr ws cs r (.ofNat t) ++ MA) (TA b sc x f)) := by kernel_rfl
  have sB : lwB (dr ws cs r (.ofNat t) ++ MA) (TA b sc x f) = some (.nx (dr ws1 cs r1 (.ofNat t1) ++ MB) EB) := by
    refine (sSet_val (L1 := dr ws1 cs r1 (.ofNat t1) ++ MB) (x := .h 4) ?_).trans (by kernel_rfl)
    have p1 := pCons_val (a := eCst (.str "presume")) (L := dr ws cs r (.ofNat t) ++ (MA ++ [.own (.p (.dct []))])) (env := TA b sc x f) (L1 := dr ws cs r (.ofNat t) ++ (MA ++ [.own (.p (.dct []))])) (x := .d (.str "presume")) (by kernel_rfl) h1 (r := (pCons (eCst (.str "reads")) (eTup aNil) (pCons (eCst (.str "strange")) (eCst (.str "skip")) pNil))) (L3 := dr ws1 cs r1 (.ofNat t1) ++ (MA ++ [.own (.p (.dct [])), gP])) (xs := [(.d (.str "reads"), .d (.tup [])), (.d (.str "strange"), .d (.str "skip"))]) (by kernel_rfl)
    have p2 := pCons_val (a := eCst (.str "answers")) (b := eTup aNil) (L := dr ws cs r (.ofNat t) ++ (MA ++ [.own (.p (.dct []))])) (env := TA b sc x f) (L1 := dr ws cs r (.ofNat t) ++ (MA ++ [.own (.p (.dct []))])) (x := .d (.str "answers")) (L2 := dr ws cs r (.ofNat t) ++ (MA ++ [.own (.p (.dct []))])) (y := .d (.tup [])) (by kernel_rfl) (by kernel_rfl) p1
    have p3 := pCons_val (a := eCst (.str "words")) (b := eVar 3) (L := dr ws cs r (.ofNat t) ++ (MA ++ [.own (.p (.dct []))])) (env := TA b sc x f) (L1 := dr ws cs r (.ofNat t) ++ (MA ++ [.own (.p (.dct []))])) (x := .d (.str "words")) (L2 := dr ws cs r (.ofNat t) ++ (MA ++ [.own (.p (.dct []))])) (y := .h 3) (by kernel_rfl) (by kernel_rfl) p2
    unfold eDict
    rw [show (dr ws cs r (.ofNat t) ++ MA ++ [.own (.p (.dct []))]) = dr ws cs r (.ofNat t) ++ (MA ++ [.own (.p (.dct []))]) from List.append_assoc _ _ _, p3]
    kernel_rfl
  have sC : lwC (dr ws1 cs r1 (.ofNat t1) ++ MB) EB = some (.nx (dr ws2 cs r2 (.ofNat t2) ++ MB) EC) :=
    (sSet_val (eCall2_dr (ws := ws1) (cs := cs) (r := r1) (t := .ofNat t1) (M := MB) (a := .int (.ofNat 2)) (L1 := dr ws1 cs r1 (.ofNat t1) ++ MB) (y := .d (.int (.ofNat 2))) (by kernel_rfl) (by kernel_rfl) h2)).trans (by kernel_rfl)
  have sT : lwT (dr ws cs r (.ofNat t)) E1 = lwD (dr ws2 cs r2 (.ofNat t2) ++ MB) EC := by
    unfold lwT
    rw [sCons_nx sA, sCons_nx sB, sCons_nx sC]
  have sD : lwD (dr ws2 cs r2 (.ofNat t2) ++ MB) EC = forS 17 (gName 7) gB [.str "calm", .str "free", .str "over", .str "restart"] (gL1 ws2 cs r2 t2 p) (GV1 b sc x e f) := by
    unfold lwD
    refine (sFor_val (L1 := dr ws2 cs r2 (.ofNat t2) ++ MB) (xs := [.str "calm", .str "free", .str "over", .str "restart"]) (by kernel_rfl)).trans ?_
    cases b <;> kernel_rfl
  rw [← sD, ← sT]
  kernel_rfl
end K14

set_option Elab.async false
set_option linter.all false
set_option maxRecDepth 100000
set_option maxHeartbeats 400000
namespace K14
open PySem FL FP
/-! ### the gates -/
theorem sCons_p {a b : Sv} {L : OL} {env : VEnv} (h : isNx (a L env) = true) : sCons a b L env = b (nL (a L env)) (nE (a L env)) := sCons_nx (of_nx h)
theorem plE_ (i : Nat) {p : Pr} {e : Ed} {lock ord : D} (hl : isLk lock) (ho : isOr ord) {L L2 : OL} {env : VEnv} (h : frA [false] 1 0 [0] [] (aCons (eVar i) aNil) aNil L env = some (.val L2 [.d (scD p e lock ord)])) : eCallG (F_plan iC iD) [false] 1 0 [0] [] (aCons (eVar i) aNil) aNil L env = some (.val L2 (.d (plD p e lock ord))) :=
  (eCallG_frA h (by kernel_rfl)).trans (plan2 hl ho L2)
theorem right_ok {p : Pr} {e : Ed} {ws : List Nat} {cs : List Int} {r t : Nat} : F_right (dr ws cs r (.ofNat t)) [.h 0, .d (scD p e (.str "restart") (.str "any"))] = some (.val (dr ws cs r (.ofNat t)) (.d (.bl true))) := by
  have e0 : ∀ rest, endF false 5 (sCons (sSet 2 (eCallG (F_plan iC iD) [false] 1 0 [0] [] (aCons (eVar 1) aNil) aNil)) rest (dr ws cs r (.ofNat t)) [some (.h 0), some (.d (scD p e (.str "restart") (.str "any"))), none, none, none, some (.h 0), some (.h 1)]) = endF false 5 (rest (dr ws cs r (.ofNat t)) [some (.h 0), some (.d (scD p e (.str "restart") (.str "any"))), some (.d (plD p e (.str "restart") (.str "any"))), none, none, some (.h 0), some (.h 1)]) := fun rest => by
    rw [sCons_nx ((sSet_val (plE_ (p := p) (e := e) 1 (.inr (.inr (.inr rfl))) (.inl rfl) (L2 := dr ws cs r (.ofNat t)) (by kernel_rfl))).trans rfl)]
    rfl
  refine Eq.trans (show _ = endF false 5 (sCons (sSet 2 (eCallG (F_plan iC iD) [false] 1 0 [0] [] (aCons (eVar 1) aNil) aNil)) rightR (dr ws cs r (.ofNat t)) [some (.h 0), some (.d (scD p e (.str "restart") (.str "any"))), none, none, none, some (.h 0), some (.h 1)]) by kernel_rfl) ((e0 _).trans ?_)
  obtain ⟨w0, w1, w2, w3, w4, w5, a, q, b0, b1, b2, b3, b4, b5, s⟩ := e
  cases s <;> kernel_rfl
end K14

set_option Elab.async false
set_option linter.all false
set_option maxRecDepth 100000
set_option maxHeartbeats 400000
namespace K14
open PySem FL FP
theorem pure2 {m : Fn} {x y z : D} (h : m [] [.d x, .d y] = some (.val [] (.d z))) (L : OL) : callM m [false, false] L [.d x, .d y] = some (.val L (.d z)) := by
  have e : callM m [false, false] L [.d x, .d y] = (match m [] [.d x, .d y] with
    | some (.val L' x) => br (Nat.ble 0 L'.length) (some (.val (mrg [] L L') (muV [] L.length x))) none
    | some (.exc L' x) => br (Nat.ble 0 L'.length) (some (.exc (mrg [] L L') x)) none
    | none => none : Mo DV) := by kernel_rfl
  rw [e, h]
  have q : (some (.val (L ++ []) (.d z)) : Mo DV) = some (.val L (.d z)) := by rw [List.append_nil]
  exact Eq.trans (by kernel_rfl) q
inductive Lk | calm | free | over | restart
def Lk.d : Lk → D | .calm => .str "calm" | .free => .str "free" | .over => .str "over" | .restart => .str "restart"
theorem Lk.is (k : Lk) : isLk k.d := by
  cases k
  · exact .inl rfl
  · exact .inr (.inl rfl)
  · exact .inr (.inr (.inl rfl))
  · exact .inr (.inr (.inr rfl))
/-- the order: the chair first, or last -/
def oD (o : Bool) : D := match o with | true => .str "chair first" | false => .str "chair last"
theorem oD_is (o : Bool) : isOr (oD o) := by cases o; exact .inr (.inr rfl); exact .inr (.inl rfl)
def oW (o : Bool) : D := match o with | true => .tup [.str "renew", .str "restart"] | false => .tup [.str "change", .str "reboot"]
def told (k : Lk) (o : Bool) : List D := match k, o with
  | .restart, true => [.tup [.str "restart", .int 1, .int 0]]
  | .restart, false => [.tup [.str "reboot", .int 0, .int 1, .int 0]]
  | _, true => [.tup [.str "renew", .int 1]]
  | _, false => [.tup [.str "change", .int 0, .int 1]]
def startD : D := .tup [.tup [.int 0, .str "new", .tup [.tup [], .int 0], .bl false], .tup [.tup [.int 0, .str "idle", .tup [.tup [], .int 0], .bl false, .tup [], .tup [], .bl false, .bl false]]]
def stD : D := .dct [(.str "new", startD), (.str "asked", .tup [.tup [.int 0, .str "asking", .tup [.tup [.str "begin"], .int 1], .bl false], .tup [.tup [.int 0, .str "idle", .tup [.tup [], .int 0], .bl false, .tup [], .tup [], .bl false, .bl false]]]), (.str "voted", .tup [.tup [.int 0, .str "asking", .tup [.tup [.str "begin"], .int 1], .bl false], .tup [.tup [.int 0, .str "ready", .tup [.tup [.str "ready"], .int 1], .bl true, .tup [], .tup [], .bl false, .bl false]]]), (.str "decided", .tup [.tup [.int 0, .str "yes", .tup [.tup [.str "begin", .str "yes"], .int 2], .bl true], .tup [.tup [.int 0, .str "ready", .tup [.tup [.str "ready"], .int 1], .bl true, .tup [], .tup [], .bl false, .bl false]]]), (.str "forgotten", .tup [.tup [.int 0, .str "gone", .tup [.tup [], .int 0], .bl true], .tup [.tup [.int 0, .str "ready", .tup [.tup [.str "ready"], .int 1], .bl true, .tup [], .tup [], .bl false, .bl false]]]), (.str "skipped", .tup [.tup [.int 0, .str "gone", .tup [.tup [.str "begin"], .int 1], .bl false], .tup [.tup [.int 0, .str "ready", .tup [.tup [.str "ready"], .int 1], .bl true, .tup [], .tup [], .bl false, .bl false]]])]
theorem stands_ok (k : Lk) (p : Pr) (e : Ed) : F_l_stands [] [.d (plD p e k.d (.str "any")), .d startD] = some (.val [] (.d stD)) := by
  obtain ⟨w0, w1, w2, w3, w4, w5, a, q, b0, b1, b2, b3, b4, b5, s⟩ := e
  cases k <;> kernel_rfl
theorem told_ok (k : Lk) (o : Bool) (p : Pr) (e : Ed) : F_l_exchanges [] [.d (plD p e k.d (oD o)), .d startD] = some (.val [] (.d (.lst (told k o)))) := by
  obtain ⟨w0, w1, w2, w3, w4, w5, a, q, b0, b1, b2, b3, b4, b5, s⟩ := e
  cases k <;> cases o <;> kernel_rfl
end K14

set_option Elab.async false
set_option linter.all false
set_option maxRecDepth 100000
set_option maxHeartbeats 400000
namespace K14
open PySem FL FP
inductive Ti | new | asked | voted | decided | forgotten | skipped
def Ti.d : Ti → D | .new => .str "new" | .asked => .str "asked" | .voted => .str "voted" | .decided => .str "decided" | .forgotten => .str "forgotten" | .skipped => .str "skipped"
def Ti.st : Ti → D
  | .new => startD
  | .asked => .tup [.tup [.int 0, .str "asking", .tup [.tup [.str "begin"], .int 1], .bl false], .tup [.tup [.int 0, .str "idle", .tup [.tup [], .int 0], .bl false, .tup [], .tup [], .bl false, .bl false]]]
  | .voted => .tup [.tup [.int 0, .str "asking", .tup [.tup [.str "begin"], .int 1], .bl false], .tup [.tup [.int 0, .str "ready", .tup [.tup [.str "ready"], .int 1], .bl true, .tup [], .tup [], .bl false, .bl false]]]
  | .decided => .tup [.tup [.int 0, .str "yes", .tup [.tup [.str "begin", .str "yes"], .int 2], .bl true], .tup [.tup [.int 0, .str "ready", .tup [.tup [.str "ready"], .int 1], .bl true, .tup [], .tup [], .bl false, .bl false]]]
  | .forgotten => .tup [.tup [.int 0, .str "gone", .tup [.tup [], .int 0], .bl true], .tup [.tup [.int 0, .str "ready", .tup [.tup [.str "ready"], .int 1], .bl true, .tup [], .tup [], .bl false, .bl false]]]
  | .skipped => .tup [.tup [.int 0, .str "gone", .tup [.tup [.str "begin"], .int 1], .bl false], .tup [.tup [.int 0, .str "ready", .tup [.tup [.str "ready"], .int 1], .bl true, .tup [], .tup [], .bl false, .bl false]]]
abbrev cD : D := .tup [.str "change", .int 0, .int 1]
abbrev rD : D := .tup [.str "renew", .int 1]
abbrev qD (i j : Int) : List D := [.tup [.str "reboot", .int 0, .int 1, .int j], .tup [.str "restart", .int 1, .int i]]
def kn : Lk → Ti → List D
  | .restart, .new => qD 0 0
  | .restart, .asked => qD 1 0
  | .restart, .voted => qD 1 1
  | .restart, .decided => qD 2 1
  | .restart, .forgotten => qD 0 1
  | .restart, .skipped => qD 1 1
  | .free, _ => [cD, rD]
  | .calm, .new => [cD, rD]
  | .calm, .asked => [cD]
  | .calm, .forgotten => [rD]
  | .calm, .skipped => [rD]
  | .calm, _ => []
  | .over, .new => [cD, rD]
  | .over, .asked => [cD]
  | .over, .forgotten => [rD]
  | .over, _ => []
theorem ex_ok (k : Lk) (i : Ti) (p : Pr) (e : Ed) : F_l_exchanges [] [.d (plD p e k.d (.str "any")), .d i.st] = some (.val [] (.d (.lst (kn k i)))) := by
  obtain ⟨w0, w1, w2, w3, w4, w5, a, q, b0, b1, b2, b3, b4, b5, s⟩ := e
  cases i with
  | new => cases k <;> kernel_rfl
  | asked => cases k <;> kernel_rfl
  | voted => cases k <;> kernel_rfl
  | decided => cases k <;> kernel_rfl
  | forgotten => cases k <;> cases p <;> kernel_rfl
  | skipped => cases k <;> cases p <;> kernel_rfl
def HVf (sc x : D) (p : Pr) (e : Ed) (k : Lk) (x11 : Option DV) (b : Bool) (f : Nat → D) : VEnv := [some (.d sc), some (.h 0), some (.d x), some (.d frc), none, some (.d (e1p p).sheet), some (.d e.sheet), some (.d k.d), some (.d (scD p e k.d (.str "any"))), some (.d (plD p e k.d (.str "any"))), some (.d stD), x11, oB b (f 12), oB b (f 13), oB b (f 14), oB b (f 15), none]
abbrev g3L (xs : List D) : OL → VEnv → Option So := forS 17 (gName 11) g3b xs
theorem g3_step {sc x : D} {p : Pr} {e : Ed} {k : Lk} {b c : Bool} {y : D} {f : Nat → D} {ws : List Nat} {cs : List Int} {r t : Nat} (i : Ti) {xs : List D} : g3L (i.d :: xs) (dr ws cs r (.ofNat t)) (HVf sc x p e k (oB c y) b f) = g3L xs (dr ws cs r (.ofNat t)) (HVf sc x p e k (oB true i.d) b f) := by
  show _ = g3L xs (dr ws cs r (.ofNat t)) (HVf sc x p e k (some (.d i.d)) b f)
  have h1 : eCallG F_l_exchanges [false, false] 2 0 [0, 1] [] (aCons (eVar 9) (aCons (eIx (eVar 10) (eVar 11)) aNil)) aNil (dr ws cs r (.ofNat t)) (HVf sc x p e k (some (.d i.d)) b f) = some (.val (dr ws cs r (.ofNat t)) (.d (.lst (kn k i)))) :=
    eCallG_val (L1 := dr ws cs r (.ofNat t)) (a := ([.d (plD p e k.d (.str "any")), .d i.st], [])) (zs := [.d (plD p e k.d (.str "any")), .d i.st]) (by cases i <;> kernel_rfl) (by kernel_rfl) (pure2 (ex_ok k i p e) _)
  have h2 : eCallG F_l_known [false, false] 2 0 [0, 1] [] (aCons (eVar 7) (aCons (eVar 11) aNil)) aNil (dr ws cs r (.ofNat t)) (HVf sc x p e k (some (.d i.d)) b f) = some (.val (dr ws cs r (.ofNat t)) (.d (.lst (kn k i)))) := by
    cases k <;> cases i <;> kernel_rfl
  refine forS_nx (e1 := HVf sc x p e k (some (.d i.d)) b f) (L1 := dr ws cs r (.ofNat t)) (e2 := HVf sc x p e k (some (.d i.d)) b f) (by cases c <;> kernel_rfl) ?_ (by cases b <;> kernel_rfl) (by cases b <;> kernel_rfl)
  refine (sIf_f (L1 := dr ws cs r (.ofNat t)) (tVal_of ((eOp_val h1 h2).trans ?_))).trans rfl
  cases k <;> cases i <;> kernel_rfl
theorem g3_all {sc x : D} {p : Pr} {e : Ed} {k : Lk} {b : Bool} {f : Nat → D} {ws : List Nat} {cs : List Int} {r t : Nat} : g3L [Ti.new.d, Ti.asked.d, Ti.voted.d, Ti.decided.d, Ti.forgotten.d, Ti.skipped.d] (dr ws cs r (.ofNat t)) (HVf sc x p e k (oB b (f 11)) b f) = some (.nx (dr ws cs r (.ofNat t)) (HVf sc x p e k (oB true Ti.skipped.d) b f)) := by
  rw [g3_step (c := b), g3_step (c := true) (y := Ti.new.d), g3_step (c := true) (y := Ti.asked.d), g3_step (c := true) (y := Ti.voted.d), g3_step (c := true) (y := Ti.decided.d), g3_step (c := true) (y := Ti.forgotten.d)]
  rfl
end K14

set_option Elab.async false
set_option linter.all false
set_option maxRecDepth 100000
set_option maxHeartbeats 400000
namespace K14
open PySem FL FP
def HN (sc x : D) (p : Pr) (e : Ed) (k : Lk) (x12 x13 x14 x15 : Option DV) : VEnv := [some (.d sc), some (.h 0), some (.d x), some (.d frc), none, some (.d (e1p p).sheet), some (.d e.sheet), some (.d k.d), some (.d (scD p e k.d (.str "any"))), some (.d (plD p e k.d (.str "any"))), some (.d stD), some (.d Ti.skipped.d), x12, x13, x14, x15, none]
abbrev g4L (xs : List D) : OL → VEnv → Option So := forS 17 g4g g4b xs
abbrev oT (o : Bool) : D := .tup [oD o, oW o]
theorem g4_step {sc x : D} {p : Pr} {e : Ed} {k : Lk} {b : Bool} {y1 y2 y3 y4 : D} {ws : List Nat} {cs : List Int} {r t : Nat} (o : Bool) {xs : List D} : g4L (oT o :: xs) (dr ws cs r (.ofNat t)) (HN sc x p e k (oB b y1) (oB b y2) (oB b y3) (oB b y4)) = g4L xs (dr ws cs r (.ofNat t)) (HN sc x p e k (oB true (oD o)) (oB true (oW o)) (oB true (scD p e k.d (oD o))) (oB true (.lst (told k o)))) := by
  let L1 : OL := dr ws cs r (.ofNat t) ++ [.own (.p (scD p e k.d (.str "any")))]
  let L2 : OL := dr ws cs r (.ofNat t) ++ [.own (.p (scD p e k.d (oD o)))]
  let L3 : OL := dr ws cs r (.ofNat t) ++ [.fz (scD p e k.d (oD o))]
  let E0 : VEnv := HN sc x p e k (some (.d (oD o))) (some (.d (oW o))) (oB b y3) (oB b y4)
  let E1 : VEnv := HN sc x p e k (some (.d (oD o))) (some (.d (oW o))) (some (.h 2)) (oB b y4)
  let E2 : VEnv := HN sc x p e k (some (.d (oD o))) (some (.d (oW o))) (some (.h 2)) (some (.d (.lst (told k o))))
  have s0 : n0 (dr ws cs r (.ofNat t)) E0 = some (.nx L1 E1) := by kernel_rfl
  have s1 : n1 L1 E1 = some (.nx L2 E1) := by kernel_rfl
  have s2 : n2 L2 E1 = some (.nx L3 E2) := by
    have p1 := plE_ (p := p) (e := e) 14 (Lk.is k) (oD_is o) (L := L2) (L2 := L3) (env := E1) (by kernel_rfl)
    have p2 := aCons_val p1 (aCons_val (a := (eIx (eVar 10) (eCst (.str "new")))) (b := aNil) (L1 := L3) (L2 := L3) (x := .d startD) (xs := []) (by kernel_rfl) (by kernel_rfl))
    have p3 : aGo (aCons n2p (aCons (eIx (eVar 10) (eCst (.str "new"))) aNil)) aNil L2 E1 = some (.val L3 ([.d (plD p e k.d (oD o)), .d startD], [])) := by
      unfold aGo; rw [p2]; rfl
    exact (sSet_val (eCallG_val (zs := [.d (plD p e k.d (oD o)), .d startD]) p3 (by kernel_rfl) (pure2 (told_ok k o p e) L3))).trans rfl
  have s3 : ∃ L4, n3 L3 E2 = some (.nx L4 E2) ∧ cmL 17 L4 E2 = dr ws cs r (.ofNat t) ∧ cmE 17 L4 E2 = HN sc x p e k (oB true (oD o)) (oB true (oW o)) (oB true (scD p e k.d (oD o))) (oB true (.lst (told k o))) := by
    refine ⟨L3 ++ [.own (.p (.lst (told k o)))], ?_, ?_, ?_⟩
    · cases k <;> cases o <;> kernel_rfl
    · kernel_rfl
    · kernel_rfl
  obtain ⟨L4, s3, c1, c2⟩ := s3
  refine forS_nx (e1 := E0) (L1 := L4) (e2 := E2) (by cases b <;> kernel_rfl) ?_ c1 c2
  unfold g4b
  rw [sCons_nx s0, sCons_nx s1, sCons_nx s2, s3]
theorem g4_ok {sc x : D} {p : Pr} {e : Ed} {k : Lk} {b : Bool} {f : Nat → D} {ws : List Nat} {cs : List Int} {r t : Nat} : g4 (dr ws cs r (.ofNat t)) (HVf sc x p e k (oB true Ti.skipped.d) b f) = some (.nx (dr ws cs r (.ofNat t)) (HN sc x p e k (oB true (oD false)) (oB true (oW false)) (oB true (scD p e k.d (oD false))) (oB true (.lst (told k false))))) := by
  unfold g4
  refine (sFor_val (L1 := dr ws cs r (.ofNat t) ++ [.fz (.lst [oT true, oT false])]) (xs := [oT true, oT false]) (by kernel_rfl)).trans ?_
  refine Eq.trans (show _ = g4L [oT true, oT false] (dr ws cs r (.ofNat t)) (HN sc x p e k (oB b (f 12)) (oB b (f 13)) (oB b (f 14)) (oB b (f 15))) by cases b <;> kernel_rfl) ?_
  rw [g4_step, g4_step]
  rfl
theorem tAnd_t {a b : Et} {L L1 : OL} {env : VEnv} (h : a L env = some (.val L1 true)) : tAnd a b L env = b L1 env := by unfold tAnd; rw [h]; rfl
theorem tNot_v {a : Et} {L L1 : OL} {env : VEnv} {k : Bool} (h : a L env = some (.val L1 k)) : tNot a L env = some (.val L1 (!k)) := by unfold tNot; rw [h]; rfl
theorem g5_ok {sc x : D} {p : Pr} {e : Ed} {k : Lk} {ws : List Nat} {cs : List Int} {r t : Nat} : g5 (dr ws cs r (.ofNat t)) (HN sc x p e k (oB true (oD false)) (oB true (oW false)) (oB true (scD p e k.d (oD false))) (oB true (.lst (told k false)))) = some (.nx (dr ws cs r (.ofNat t)) (HN sc x p e k (oB true (oD false)) (oB true (oW false)) (oB true (scD p e k.d (oD false))) (oB true (.lst (told k false))))) := by
  cases k with
  | calm => kernel_rfl
  | free => kernel_rfl
  | over => kernel_rfl
  | restart =>
    let E : VEnv := HN sc x p e .restart (oB true (oD false)) (oB true (oW false)) (oB true (scD p e Lk.restart.d (oD false))) (oB true (.lst (told .restart false)))
    have h : eCallG F_right [true, false] 2 0 [0, 1] [] (aCons (eVar 1) (aCons (eVar 8) aNil)) aNil (dr ws cs r (.ofNat t)) E = some (.val (dr ws cs r (.ofNat t)) (.d (.bl true))) := by
      have := eCall2_dr (as := (aCons (eVar 1) (aCons (eVar 8) aNil))) (L := dr ws cs r (.ofNat t)) (L1 := dr ws cs r (.ofNat t)) (env := E) (y := .d (scD p e (.str "restart") (.str "any"))) (M := []) (by kernel_rfl) (by kernel_rfl) (right_ok (p := p) (e := e) (ws := ws) (cs := cs) (r := r) (t := t))
      rw [List.append_nil] at this
      exact this
    unfold g5
    refine (sIf_f (L1 := dr ws cs r (.ofNat t)) ?_).trans rfl
    have h1 : tVal (eOp fEq (eVar 7) (eCst (.str "restart"))) (dr ws cs r (.ofNat t)) E = some (.val (dr ws cs r (.ofNat t)) true) := by kernel_rfl
    exact (tAnd_t h1).trans (tNot_v (tVal_of h))
end K14

set_option Elab.async false
set_option linter.all false
set_option maxRecDepth 100000
set_option maxHeartbeats 400000
namespace K14
open PySem FL FP
abbrev stepsD (k : Lk) : D := .dct [(.tup [.int 0, .int 1], k.d)]
abbrev shsD (p : Pr) (e : Ed) : D := .lst [(e1p p).sheet, e.sheet]
abbrev zz : D := .lst [.int 0, .int 0]
abbrev tiL : List D := [Ti.new.d, Ti.asked.d, Ti.voted.d, Ti.decided.d, Ti.forgotten.d, Ti.skipped.d]
/-- from behind the standings on -/
theorem gEnd {sc x : D} {p : Pr} {e : Ed} {k : Lk} {b : Bool} {f : Nat → D} {ws : List Nat} {cs : List Int} {r t : Nat} {L : OL} {E : VEnv} (hi : iItE (eVar 10) L E = some (.val L tiL)) (hL : cmL 17 L E = dr ws cs r (.ofNat t)) (hE : cmE 17 L E = HVf sc x p e k (oB b (f 11)) b f) : sCons g3 (sCons g4 g5) L E = some (.nx (dr ws cs r (.ofNat t)) (HN sc x p e k (oB true (oD false)) (oB true (oW false)) (oB true (scD p e k.d (oD false))) (oB true (.lst (told k false))))) := by
  have s3 : g3 L E = some (.nx (dr ws cs r (.ofNat t)) (HVf sc x p e k (oB true Ti.skipped.d) b f)) := by
    unfold g3
    rw [sFor_val hi, hL, hE]
    exact g3_all
  rw [sCons_nx s3, sCons_nx g4_ok, g5_ok]
theorem gate2 {sc x : D} {p : Pr} {e : Ed} {k0 k : Lk} {ws : List Nat} {cs : List Int} {r t : Nat} {xs : List D} {y1 y2 y3 y4 : D} : forS 17 (gName 7) gB (k.d :: xs) (dr ws cs r (.ofNat t)) (HN sc x p e k0 (oB true y1) (oB true y2) (oB true y3) (oB true y4)) = forS 17 (gName 7) gB xs (dr ws cs r (.ofNat t)) (HN sc x p e k (oB true (oD false)) (oB true (oW false)) (oB true (scD p e k.d (oD false))) (oB true (.lst (told k false)))) := by
  let V (x8 x9 x10 : Option DV) : VEnv := [some (.d sc), some (.h 0), some (.d x), some (.d frc), none, some (.d (e1p p).sheet), some (.d e.sheet), some (.d k.d), x8, x9, x10, some (.d Ti.skipped.d), some (.d y1), some (.d y2), some (.d y3), some (.d y4), none]
  let E0 := V (some (.d (scD p e k0.d (.str "any")))) (some (.d (plD p e k0.d (.str "any")))) (some (.d stD))
  let E1 := V (some (.h 2)) (some (.d (plD p e k0.d (.str "any")))) (some (.d stD))
  let E2 := V (some (.h 2)) (some (.d (plD p e k.d (.str "any")))) (some (.d stD))
  let L1 : OL := dr ws cs r (.ofNat t) ++ [.own (.k [(.str "sheets", .h 3), (.str "steps", .h 4), (.str "window", .d (.int 1)), (.str "order", .d (.str "any"))]), .own (.p (shsD p e)), .own (.p (stepsD k))]
  let L2 : OL := dr ws cs r (.ofNat t) ++ [.fz (scD p e k.d (.str "any")), .fz (shsD p e), .fz (stepsD k)]
  let L3 : OL := dr ws cs r (.ofNat t) ++ [.fz (scD p e k.d (.str "any")), .fz (shsD p e), .fz (stepsD k), .fz zz]
  have s0 : g0 (dr ws cs r (.ofNat t)) E0 = some (.nx L1 E1) := by kernel_rfl
  have s1 : g1 L1 E1 = some (.nx L2 E2) := (sSet_val (plE_ (p := p) (e := e) 8 (Lk.is k) (.inl rfl) (L := L1) (L2 := L2) (env := E1) (by kernel_rfl))).trans rfl
  have s2 : g2 L2 E2 = some (.nx L3 E2) :=
    (sSet_val (eCallG_val (L1 := L3) (a := ([.d (plD p e k.d (.str "any")), .d startD], [])) (zs := [.d (plD p e k.d (.str "any")), .d startD]) (by kernel_rfl) (by kernel_rfl) (pure2 (stands_ok k p e) L3))).trans rfl
  refine forS_nx (e1 := E0) (L1 := dr ws cs r (.ofNat t)) (e2 := HN sc x p e k (oB true (oD false)) (oB true (oW false)) (oB true (scD p e k.d (oD false))) (oB true (.lst (told k false)))) (by kernel_rfl) ?_ (by kernel_rfl) (by kernel_rfl)
  unfold gB
  rw [sCons_nx s0, sCons_nx s1, sCons_nx s2]
  exact gEnd (b := true) (f := fun j => match j with | 11 => Ti.skipped.d | 12 => y1 | 13 => y2 | 14 => y3 | _ => y4) (by kernel_rfl) (by kernel_rfl) (by kernel_rfl)
theorem gate1 {sc x : D} {p : Pr} {e : Ed} {b : Bool} {f : Nat → D} {ws : List Nat} {cs : List Int} {r t : Nat} {xs : List D} : forS 17 (gName 7) gB (Lk.calm.d :: xs) (gL1 ws cs r t p) (GV1 b sc x e f) = forS 17 (gName 7) gB xs (dr ws cs r (.ofNat t)) (HN sc x p e .calm (oB true (oD false)) (oB true (oW false)) (oB true (scD p e Lk.calm.d (oD false))) (oB true (.lst (told .calm false)))) := by
  let V (x8 x9 x10 : Option DV) : VEnv := [some (.d sc), some (.h 0), some (.d x), some (.h 1), none, some (.h 2), some (.d e.sheet), some (.d Lk.calm.d), x8, x9, x10, oB b (f 11), oB b (f 12), oB b (f 13), oB b (f 14), oB b (f 15), none]
  let E0 := V (oB b (f 8)) (oB b (f 9)) (oB b (f 10))
  let E1 := V (some (.h 4)) (oB b (f 9)) (oB b (f 10))
  let E2 := V (some (.h 4)) (some (.d (plD p e Lk.calm.d (.str "any")))) (oB b (f 10))
  let E3 := V (some (.h 4)) (some (.d (plD p e Lk.calm.d (.str "any")))) (some (.d stD))
  let A : OE := .own (.k [(.str "wide", .h 3), (.str "cells", .d (.lst (cs.map D.int))), (.str "rest", .d (.int (.ofNat r))), (.str "turn", .d (.int (.ofNat t)))])
  let B : OE := .own (.p (.lst (ws.map fun w => D.int (.ofNat w))))
  let L1 : OL := [A, .own (.p frc), .own (.k [(.str "words", .h 1), (.str "answers", .d (.tup [])), (.str "presume", .d p.d), (.str "reads", .d (.tup [])), (.str "strange", .d (.str "skip"))]), B, .own (.k [(.str "sheets", .h 5), (.str "steps", .h 6), (.str "window", .d (.int 1)), (.str "order", .d (.str "any"))]), .own (.l [.h 2, .d e.sheet]), .own (.p (stepsD .calm))]
  let L2 : OL := [A, .fz frc, .fz (e1p p).sheet, B, .fz (scD p e Lk.calm.d (.str "any")), .fz (shsD p e), .fz (stepsD .calm)]
  let L3 : OL := [A, .fz frc, .fz (e1p p).sheet, B, .fz (scD p e Lk.calm.d (.str "any")), .fz (shsD p e), .fz (stepsD .calm), .fz zz]
  have s0 : g0 (gL1 ws cs r t p) E0 = some (.nx L1 E1) := by kernel_rfl
  have s1 : g1 L1 E1 = some (.nx L2 E2) := (sSet_val (plE_ (p := p) (e := e) 8 (Lk.is .calm) (.inl rfl) (L := L1) (L2 := L2) (env := E1) (by kernel_rfl))).trans rfl
  have s2 : g2 L2 E2 = some (.nx L3 E3) :=
    (sSet_val (eCallG_val (L1 := L3) (a := ([.d (plD p e Lk.calm.d (.str "any")), .d startD], [])) (zs := [.d (plD p e Lk.calm.d (.str "any")), .d startD]) (by kernel_rfl) (by kernel_rfl) (pure2 (stands_ok .calm p e) L3))).trans rfl
  refine forS_nx (e1 := E0) (L1 := dr ws cs r (.ofNat t)) (e2 := HN sc x p e .calm (oB true (oD false)) (oB true (oW false)) (oB true (scD p e Lk.calm.d (oD false))) (oB true (.lst (told .calm false)))) (by kernel_rfl) ?_ (by kernel_rfl) (by kernel_rfl)
  unfold gB
  rw [sCons_nx s0, sCons_nx s1, sCons_nx s2]
  exact gEnd (b := b) (f := f) (by kernel_rfl) (by cases b <;> kernel_rfl) (by cases b <;> kernel_rfl)
/-- one turn -/
theorem turn_ok {b : Bool} {sc x : D} {f : Nat → D} {ws : List Nat} {cs : List Int} {r t : Nat} (ht : t + 50 < 1099511627776) (hw : ws.length ≤ 1000) : ∃ (ws' : List Nat) (r' t' : Nat) (f' : Nat → D), t' ≤ t + 50 ∧ ws'.length ≤ ws.length ∧ ∀ xs, forS 17 (gName 2) lwT (x :: xs) (dr ws cs r (.ofNat t)) (TV b sc f) = forS 17 (gName 2) lwT xs (dr ws' cs r' (.ofNat t')) (TV true sc f') := by
  obtain ⟨ws', r', t', p, e, q1, q2, h⟩ := turn1 (b := b) (sc := sc) (x := x) (f := f) (cs := cs) (r := r) ht hw
  refine ⟨ws', r', t', fun j => dOf (slot (HN sc x p e .restart (oB true (oD false)) (oB true (oW false)) (oB true (scD p e Lk.restart.d (oD false))) (oB true (.lst (told .restart false)))) j), q1, q2, fun xs => (h xs).trans ?_⟩
  have e4 : forS 17 (gName 7) gB [Lk.calm.d, Lk.free.d, Lk.over.d, Lk.restart.d] (gL1 ws' cs r' t' p) (GV1 b sc x e f) = some (.nx (dr ws' cs r' (.ofNat t')) (HN sc x p e .restart (oB true (oD false)) (oB true (oW false)) (oB true (scD p e Lk.restart.d (oD false))) (oB true (.lst (told .restart false))))) := by
    rw [gate1, gate2, gate2, gate2]
    rfl
  rw [show ([.str "calm", .str "free", .str "over", .str "restart"] : List D) = [Lk.calm.d, Lk.free.d, Lk.over.d, Lk.restart.d] from rfl, e4]
  kernel_rfl
theorem turns_ok {sc : D} {cs : List Int} : ∀ (xs : List D) (b : Bool) (f : Nat → D) (ws : List Nat) (r t : Nat), t + 50 * xs.length < 1099511627776 → ws.length ≤ 1000 → ∃ (ws' : List Nat) (r' t' : Nat) (b' : Bool) (f' : Nat → D), forS 17 (gName 2) lwT xs (dr ws cs r (.ofNat t)) (TV b sc f) = some (.nx (dr ws' cs r' (.ofNat t')) (TV b' sc f'))
  | [], b, f, ws, r, t, _, _ => ⟨ws, r, t, b, f, rfl⟩
  | x :: xs, b, f, ws, r, t, ht, hw => by
    simp only [List.length_cons] at ht
    obtain ⟨ws1, r1, t1, f1, q1, q2, e1⟩ := turn_ok (b := b) (sc := sc) (x := x) (f := f) (cs := cs) (r := r) (by omega : t + 50 < _) hw
    obtain ⟨ws', r', t', b', f', e2⟩ := turns_ok (sc := sc) (cs := cs) xs true f1 ws1 r1 t1 (by omega) (by omega)
    exact ⟨ws', r', t', b', f', (e1 xs).trans e2⟩
theorem range_len (i : Int) : ∀ n, (rangeD i n).length = n
  | n => by simp [rangeD]
theorem law_yes : FH.LawYes 63 m_law_ := by
  intro ns hn
  rw [q_law]
  obtain ⟨ws, cs, hb, hw⟩ := begun_ok (ns := ns) (by omega)
  let sc : D := .lst (ns.map D.int)
  let v : Int := if (6 : Int) < .ofNat (ns.map D.int).length then 6 else .ofNat (ns.map D.int).length
  have v0 : 0 ≤ v := by
    show 0 ≤ (if (6 : Int) < .ofNat (ns.map D.int).length then (6 : Int) else .ofNat (ns.map D.int).length)
    split
    · decide
    · exact Int.natCast_nonneg _
  have v6 : v ≤ 6 := by
    show (if (6 : Int) < .ofNat (ns.map D.int).length then (6 : Int) else .ofNat (ns.map D.int).length) ≤ 6
    split <;> omega
  let n : Nat := (1 + v).toNat
  have hn7 : n ≤ 7 := by show (1 + v).toNat ≤ 7; omega
  obtain ⟨ws', r', t', b', f', e⟩ := turns_ok (sc := sc) (cs := cs) (rangeD 0 n) false (fun _ => .non) ws 0 0 (by rw [range_len]; omega) (by omega)
  have s1 : sSet 1 (eCallG F_begun [false] 1 0 [0] [] (aCons (eVar 0) aNil) aNil) [] [some (.d sc), none, none, none, none, none, none, none, none, none, none, none, none, none, none, none, none] = some (.nx (dr ws cs 0 (.ofNat 0)) (TV false sc fun _ => .non)) := by
    have c : callM F_begun [false] [] [.d sc] = some (.val (dr ws cs 0 (.ofNat 0)) (.h 0)) := by
      have e1 : callM F_begun [false] [] [.d sc] = (match F_begun [] [.d sc] with
        | some (.val L' x) => br (Nat.ble 0 L'.length) (some (.val (mrg [] [] L') (muV [] 0 x))) none
        | some (.exc L' x) => br (Nat.ble 0 L'.length) (some (.exc (mrg [] [] L') x)) none
        | none => none : Mo DV) := by kernel_rfl
      rw [e1, hb]; kernel_rfl
    exact (sSet_val (eCallG_val (a := ([.d sc], [])) (zs := [.d sc]) (by kernel_rfl) (by kernel_rfl) c)).trans (by kernel_rfl)
  refine ⟨[], ?_⟩
  have e0 : F_law [] [.d sc] = endF false 17 (sCons (sSet 1 (eCallG F_begun [false] 1 0 [0] [] (aCons (eVar 0) aNil) aNil)) (sCons lwL (sRet (eCst (.bl true)))) [] [some (.d sc), none, none, none, none, none, none, none, none, none, none, none, none, none, none, none, none]) := by kernel_rfl
  have s2 : lwL (dr ws cs 0 (.ofNat 0)) (TV false sc fun _ => .non) = some (.nx (dr ws' cs r' (.ofNat t')) (TV b' sc f')) := by
    unfold lwL
    refine (sFor_val (L1 := dr ws cs 0 (.ofNat 0)) (xs := rangeD 0 n) ?_).trans (Eq.trans (by kernel_rfl) e)
    have ha : (aCons (eOp fAdd (eCst (.int 1)) (eCb (alt2 fMin2 fMin1) (aCons (eCb fLen (aCons (eVar 0) aNil)) (aCons (eCst (.int 6)) aNil)))) aNil) (dr ws cs 0 (.ofNat 0)) (TV false sc fun _ => .non) = some (.val (dr ws cs 0 (.ofNat 0)) [.d (.int (1 + v))]) := by kernel_rfl
    have hb : inB (1 + v) = true := by
      unfold inB
      rw [decide_eq_true (by omega), decide_eq_true (by omega)]; rfl
    unfold lwI iRange1
    rw [ha]
    show br (inB (1 + v)) _ none = _
    rw [hb]; rfl
  rw [e0, sCons_nx s1, sCons_nx s2]
  cases b' <;> kernel_rfl
end K14

set_option Elab.async false
set_option linter.all false
set_option maxRecDepth 100000
set_option maxHeartbeats 0
namespace K14
open PySem PySem.W PySem.Calls PyProof.Rows FL FH
def qs : FH.Qs := ([noList,
  qFree "len",
  qFree "tuple",
  qFree "list",
  qFree "int",
  qFree "abs",
  qFree "all",
  qFree "any",
  qFree "sorted",
  qFree "min",
  qFree "max",
  qFree "isinstance",
  qFree "dict",
  qFree "range",
  qFree "enumerate",
  qFree "zip",
  qFree "str",
  qFree "bool",
  qFree "set",
  qConst "CHAIR" (.tup [(.str "begin"), (.str "yes"), (.str "no")]),
  qConst "HOUSE" (.tup [(.str "ready"), (.str "agreed"), (.str "refused")]),
  qConst "RECORDS" (.tup [(.str "begin"), (.str "yes"), (.str "no"), (.str "ready"), (.str "agreed"), (.str "refused")]),
  qConst "WORDS" (.tup [(.str "none"), (.str "lazy"), (.str "forced")]),
  qConst "OUTCOMES" (.tup [(.str "no"), (.str "yes")])] : FH.Qs) ++ ([qConst "PRESUMED" (.tup [(.str "no"), (.str "wait"), (.str "yes")]),
  qConst "STRANGE" (.tup [(.str "cut"), (.str "skip")]),
  qConst "EMPTY" (.tup [(.tup []), (.int 0)]),
  qConst "GATES" (.tup [(.str "calm"), (.str "free"), (.str "over"), (.str "restart")]),
  qConst "ORDERS" (.tup [(.str "any"), (.str "chair first"), (.str "chair last")]),
  qConst "MOST_EDITIONS" (.int 4),
  qConst "MOST_WINDOW" (.int 3),
  qConst "MOST_HOUSES" (.int 5),
  qConst "CHAIR_MEMORIES" (.tup [(.str "new"), (.str "asking"), (.str "yes"), (.str "no"), (.str "gone")]),
  qConst "HOUSE_MEMORIES" (.tup [(.str "idle"), (.str "ready"), (.str "yes"), (.str "no"), (.str "empty")]),
  qConst "ENDED" (.tup [(.str "yes"), (.str "no"), (.str "empty")]),
  qConst "OF_CHAIR" (.tup [(.str "ask"), (.str "decide"), (.str "forget"), (.str "down"), (.str "renew"), (.str "restart")]),
  qConst "Edition" (.cn "Edition"),
  qConst "Plan" (.cn "Plan"),
  qFld "Edition" "own_words",
  qFld "Edition" "own_rest",
  qFld "Edition" "own_known",
  qFld "Plan" "own_editions",
  qFld "Plan" "own_steps",
  qFld "Plan" "own_window",
  qFld "Plan" "own_order",
  qIsi ["Edition", "Plan"],
  qCls "Edition",
  qCls "Plan"] : FH.Qs) ++ ([qStrs "RECORDS" ["begin", "yes", "no", "ready", "agreed", "refused"],
  qKd "BEHIND" [("begin", "no"), ("yes", "yes"), ("no", "no"), ("ready", "ready"), ("agreed", "yes"), ("refused", "no")],
  (fun K => dvsB K [(.int 1), (.str "any")] [(.int 1), (.str "any")]),
  (fun K => dvsB K [(.adr (He.dflAt ("Edition", some "__init__") 0)), (.str "no"), (.adr (He.dflAt ("Edition", some "__init__") 2)), (.str "skip")] [(.tup []), (.str "no"), (.tup []), (.str "skip")])] : FH.Qs)
def fx : List FH.Fx := ([fxG "_law_begun" s_l_begun,
  fxG "_law_mixed" s_l_mixed,
  fxG "_law_take" s_l_take,
  fxG "_law_notes" s_l_notes,
  fxG "_law_known_sheet" s_l_known_sheet,
  fxG "_law_pick" s_l_pick,
  fxG "_law_shuffled" s_l_shuffled,
  fxG "_law_any_of" s_l_any_of,
  fxG "_law_sheet" s_l_sheet,
  fxG "_law_gates" s_l_gates,
  fxG "is_list" s_is_list,
  fxG "are_editions" s_are_editions,
  fxG "is_number" s_is_number,
  fxG "is_within" s_is_within,
  fxG "is_step" s_is_step,
  fxG "is_one_of" s_is_one_of,
  fxG "are_steps" s_are_steps,
  fxI "Plan" "Plan.__init__" s_Plan_xinit [(.int 1), (.str "any")],
  fxG "are_different" s_are_different,
  fxI "Edition" "Edition.__init__" s_Edition_xinit [(.adr (He.dflAt ("Edition", some "__init__") 0)), (.str "no"), (.adr (He.dflAt ("Edition", some "__init__") 2)), (.str "skip")],
  fxG "_law_edition" s_l_edition,
  fxG "_law_plan" s_l_plan,
  fxG "need_plan" s_need_plan,
  fxG "are_together" s_are_together] : List FH.Fx) ++ ([fxG "are_records_of" s_are_records_of,
  fxG "is_log_of" s_is_log_of,
  fxG "is_chair" s_is_chair,
  fxG "are_outcomes" s_are_outcomes,
  fxG "is_house" s_is_house,
  fxG "has_form" s_has_form,
  fxG "need_standing" s_need_standing,
  fxG "put" s_put,
  fxG "read" s_read,
  fxG "chair_fallen" s_chair_fallen,
  fxG "write" s_write,
  fxG "chair_behind" s_chair_behind,
  fxG "house_fallen" s_house_fallen,
  fxG "with_outcome" s_with_outcome,
  fxG "told_now" s_told_now,
  fxG "house_behind" s_house_behind,
  fxG "led_by" s_led_by,
  fxG "numbers_of" s_numbers_of,
  fxG "may_forget" s_may_forget,
  fxG "lefts" s_lefts,
  fxG "chair_deeds" s_chair_deeds,
  fxG "lets_chair" s_lets_chair,
  fxG "chair_exchanges" s_chair_exchanges,
  fxG "house_deeds" s_house_deeds] : List FH.Fx) ++ ([fxG "lets_house" s_lets_house,
  fxG "house_exchanges" s_house_exchanges,
  fxG "all_deeds" s_all_deeds,
  fxG "is_doable" s_is_doable,
  fxG "behind" s_behind,
  fxG "_law_stands" s_l_stands,
  fxG "_law_first" s_l_first,
  fxG "deeds_at" s_deeds_at,
  fxG "_law_exchanges" s_l_exchanges,
  fxG "_law_known" s_l_known,
  fxG "_law_restarts_right" s_l_restarts_right,
  fxG "law" s_law_,
  fxM "Edition" "__eq__" "Edition.__eq__" s_Edition_xeq,
  fxM "Plan" "__eq__" "Plan.__eq__" s_Plan_xeq,
  fxM "Plan" "__len__" "Plan.__len__" s_Plan_xlen] : List FH.Fx)
def kd : FH.Kds := [("BEHIND", [("begin", "no"), ("yes", "yes"), ("no", "no"), ("ready", "ready"), ("agreed", "yes"), ("refused", "no")])]
abbrev R : PySem.W.OpenRow := PySem.W.OpenLaw.row PySem.Challenge.rw_amidupgrades_k14_gates_known
abbrev qv : Program := PySem.W.view R.prog [93]
def loose : List PySem.Str := (["_wall", "__name__", "ExchangeError", "BadEdition", "BadRecord", "BadPlan", "BadNumbers", "BadStanding", "BadDeed", "CHAIR", "HOUSE", "RECORDS", "WORDS", "OUTCOMES", "PRESUMED", "STRANGE", "EMPTY", "is_number", "is_within", "is_list", "is_one_of", "are_different", "Edition", "need_record"] : List PySem.Str) ++ (["are_records_of", "is_log_of", "write", "lefts", "read", "GATES", "ORDERS", "MOST_EDITIONS", "MOST_WINDOW", "MOST_HOUSES", "are_editions", "is_step", "are_steps", "Plan", "need_plan", "are_numbers", "are_together", "CHAIR_MEMORIES", "HOUSE_MEMORIES", "numbers_of", "is_chair", "are_outcomes", "is_house", "has_form"] : List PySem.Str) ++ (["need_standing", "ENDED", "BEHIND", "OF_CHAIR", "put", "with_outcome", "told_now", "may_forget", "chair_deeds", "house_deeds", "lets_chair", "lets_house", "chair_exchanges", "house_exchanges", "all_deeds", "chair_fallen", "house_fallen", "chair_behind", "house_behind", "led_by", "is_doable", "deeds_at", "behind", "_law_begun"] : List PySem.Str) ++ (["_law_mixed", "_law_take", "_law_pick", "_law_any_of", "_law_shuffled", "_law_notes", "_law_known_sheet", "_law_sheet", "_law_edition", "_law_gates", "_law_plan", "_law_first", "_law_exchanges", "_law_known", "_law_stands", "_law_restarts_right"] : List PySem.Str)
def ads : List Addr := ([3, 6, 4, 21, 31, 51, 70, 89, 101, 113, 132, 135, 136, 137, 138, 139, 140, 141, 143, 150, 157, 164, 171, 176, 316, 327, 334, 341, 348, 353, 358, 359, 360, 365, 370, 375, 465, 476, 481, 488, 489, 490, 495, 502, 509, 514, 519, 526, 527, 528, 529, 536, 543, 550, 555, 560, 565, 572, 579, 584] : List Addr) ++ ([589, 596, 603, 610, 617, 624, 631, 636, 643, 650, 655, 662, 669, 676, 681, 688, 695, 700, 707, 712, 719, 724, 729, 734, 741, 748, 755, 760, 0, 20, 30, 50, 69, 88, 100, 112, 131, 142, 149, 156, 163, 170, 175, 315, 326, 333, 340, 347, 352, 357, 364, 369, 374, 464, 475, 480, 487, 494, 501, 508] : List Addr) ++ ([513, 518, 525, 535, 542, 549, 554, 559, 564, 571, 578, 583, 588, 595, 602, 609, 616, 623, 630, 635, 642, 649, 654, 661, 668, 675, 680, 687, 694, 699, 706, 711, 718, 723, 728, 733, 740, 747, 754, 759, 15, 16, 17, 18, 19, 29, 32, 48, 49, 67, 68, 86, 87, 99, 111, 129, 130, 144, 145, 146] : List Addr) ++ ([147, 148, 151, 152, 153, 154, 155, 158, 159, 160, 161, 162, 165, 166, 167, 168, 169, 172, 173, 174, 191, 199, 207, 215, 223, 231, 239, 247, 255, 263, 271, 278, 285, 292, 299, 306, 313, 314, 317, 318, 321, 322, 323, 324, 325, 328, 329, 330, 331, 332, 335, 336, 337, 338, 339, 342, 343, 344, 345, 346] : List Addr) ++ ([349, 350, 351, 354, 355, 356, 361, 362, 363, 366, 367, 368, 371, 372, 373, 388, 396, 404, 412, 420, 427, 434, 441, 448, 455, 462, 463, 466, 467, 470, 471, 472, 473, 474, 477, 478, 479, 482, 483, 484, 485, 486, 491, 492, 493, 496, 497, 498, 499, 500, 503, 504, 505, 506, 507, 510, 511, 512, 515, 516] : List Addr) ++ ([517, 520, 521, 522, 523, 524, 530, 531, 532, 533, 534, 537, 538, 539, 540, 541, 544, 545, 546, 547, 548, 551, 552, 553, 556, 557, 558, 561, 562, 563, 566, 567, 568, 569, 570, 573, 574, 575, 576, 577, 580, 581, 582, 585, 586, 587, 590, 591, 592, 593, 594, 597, 598, 599, 600, 601, 604, 605, 606, 607] : List Addr) ++ ([608, 611, 612, 613, 614, 615, 618, 619, 620, 621, 622, 625, 626, 627, 628, 629, 632, 633, 634, 637, 638, 639, 640, 641, 644, 645, 646, 647, 648, 651, 652, 653, 656, 657, 658, 659, 660, 663, 664, 665, 666, 667, 670, 671, 672, 673, 674, 677, 678, 679, 682, 683, 684, 685, 686, 689, 690, 691, 692, 693] : List Addr) ++ ([696, 697, 698, 701, 702, 703, 704, 705, 708, 709, 710, 713, 714, 715, 716, 717, 720, 721, 722, 725, 726, 727, 730, 731, 732, 735, 736, 737, 738, 739, 742, 743, 744, 745, 746, 749, 750, 751, 752, 753, 756, 757, 758, 47, 66, 85, 128, 190, 186, 198, 206, 214, 222, 230, 238, 246, 254, 262, 270, 277] : List Addr) ++ ([284, 291, 298, 305, 312, 387, 383, 395, 403, 411, 419, 426, 433, 440, 447, 454, 461, 42, 43, 44, 45, 46, 61, 62, 63, 64, 65, 80, 81, 82, 83, 84, 123, 124, 125, 126, 127, 187, 188, 189, 184, 185, 197, 205, 213, 221, 229, 237, 245, 253, 261, 269, 272, 273, 274, 275, 276, 279, 280, 281] : List Addr) ++ ([282, 283, 286, 287, 288, 289, 290, 293, 294, 295, 296, 297, 300, 301, 302, 303, 304, 307, 308, 309, 310, 311, 384, 385, 386, 394, 402, 410, 418, 421, 422, 423, 424, 425, 428, 429, 430, 431, 432, 435, 436, 437, 438, 439, 442, 443, 444, 445, 446, 449, 450, 451, 452, 453, 456, 457, 458, 459, 460, 192] : List Addr) ++ ([193, 194, 195, 196, 200, 201, 202, 203, 204, 208, 209, 210, 211, 212, 216, 217, 218, 219, 220, 224, 225, 226, 227, 228, 232, 233, 234, 235, 236, 240, 241, 242, 243, 244, 248, 249, 250, 251, 252, 256, 257, 258, 259, 260, 264, 265, 266, 267, 268, 389, 390, 391, 392, 393, 397, 398, 399, 400, 401, 405] : List Addr) ++ ([406, 407, 408, 409, 413, 414, 415, 416, 417] : List Addr)
abbrev WB (b : Bool) (w : World) : World := w.withFollow "special-get-raises" b
theorem runF (w : World) : HandSHeadRun.RunEq R qv (FH.hook ads qs fx kd) (FH.obT ads qs fx kd) 20000 loose (WB false w) := by
  intro os; kernel_rfl
theorem runT (w : World) : HandSHeadRun.RunEq R qv (FH.hook ads qs fx kd) (FH.obT ads qs fx kd) 20000 loose (WB true w) := by
  intro os; kernel_rfl
theorem run (w : World) : HandSHeadRun.RunEq R qv (FH.hook ads qs fx kd) (FH.obT ads qs fx kd) 20000 loose w := by
  have : HandSHeadRun.RunEq R qv (FH.hook ads qs fx kd) (FH.obT ads qs fx kd) 20000 loose (WB (w.params.followText "special-get-raises") w) := by
    cases w.params.followText "special-get-raises"
    · exact runF w
    · exact runT w
  rwa [WB, World.withFollow_self] at this
end K14

set_option Elab.async false
set_option linter.all false
set_option maxRecDepth 100000
set_option maxHeartbeats 4000000
namespace K14
open PySem PySem.Spec PyProof.Rows L2 FL FH
theorem tk0 {P : Program} {W : World} {K : PySem.W.Frag} {h : Heap} {mg : Str → Option Value} {base : Heap} (X : K.In h) (G : h.Ns mainGlobals mg) (c : Says qs fx kd W K) : TabOk P W K mg base T0 :=
  ⟨trivial, trivial, trivial, trivial, ⟨⟨fld_ (c.q 38), trivial⟩, ⟨⟨fld_ (c.q 39), trivial⟩, ⟨⟨fld_ (c.q 40), trivial⟩, ⟨⟨fld_ (c.q 41), trivial⟩, ⟨⟨fld_ (c.q 42), trivial⟩, ⟨⟨fld_ (c.q 43), trivial⟩, ⟨⟨fld_ (c.q 44), trivial⟩, trivial⟩⟩⟩⟩⟩⟩⟩, ⟨const_ X G (c.q 19), ⟨const_ X G (c.q 20), ⟨const_ X G (c.q 21), ⟨const_ X G (c.q 22), ⟨const_ X G (c.q 23), ⟨const_ X G (c.q 24), ⟨const_ X G (c.q 25), ⟨const_ X G (c.q 26), ⟨const_ X G (c.q 27), ⟨const_ X G (c.q 28), ⟨const_ X G (c.q 29), ⟨const_ X G (c.q 30), ⟨const_ X G (c.q 31), ⟨const_ X G (c.q 32), ⟨const_ X G (c.q 33), ⟨const_ X G (c.q 34), ⟨const_ X G (c.q 35), ⟨const_ X G (c.q 36), ⟨const_ X G (c.q 37), trivial⟩⟩⟩⟩⟩⟩⟩⟩⟩⟩⟩⟩⟩⟩⟩⟩⟩⟩⟩, ⟨free_ X G (c.q 1), ⟨free_ X G (c.q 2), ⟨free_ X G (c.q 3), ⟨free_ X G (c.q 4), ⟨free_ X G (c.q 5), ⟨free_ X G (c.q 6), ⟨free_ X G (c.q 7), ⟨free_ X G (c.q 8), ⟨free_ X G (c.q 9), ⟨free_ X G (c.q 10), ⟨free_ X G (c.q 11), ⟨free_ X G (c.q 12), ⟨free_ X G (c.q 13), ⟨free_ X G (c.q 14), ⟨free_ X G (c.q 15), ⟨free_ X G (c.q 16), ⟨free_ X G (c.q 17), ⟨free_ X G (c.q 18), trivial⟩⟩⟩⟩⟩⟩⟩⟩⟩⟩⟩⟩⟩⟩⟩⟩⟩⟩, isi_ (c.q 45), fun _ _ h => (by cases h), fun _ _ h => (by cases h), ⟨tupC_ X G (c.q 48), trivial⟩, ⟨kd_ X G (c.q 49) (c.d 0), trivial⟩⟩
theorem tk1 {P : Program} {W : World} {K : PySem.W.Frag} {h : Heap} {mg : Str → Option Value} {base : Heap} (X : K.In h) (G : h.Ns mainGlobals mg) (c : Says qs fx kd W K) : TabOk P W K mg base T1 :=
  tFn (tk0 X G c) (⟨mkDef (N := N_l_begun) (ps := ["_law_script"]) (k := 0) (fl := 1000000000000) (own := true) (t := T0) (n := 1) (ks := []) (sel := [0]) X G c 0 rfl (by decide +kernel) (tk0 X G c) (fun _ _ _ _ _ _ us ws h1 h2 => match us, ws, h1, h2 with | [_], [], _, _ => rfl), trivial⟩)
theorem tk2 {P : Program} {W : World} {K : PySem.W.Frag} {h : Heap} {mg : Str → Option Value} {base : Heap} (X : K.In h) (G : h.Ns mainGlobals mg) (c : Says qs fx kd W K) : TabOk P W K mg base T2 :=
  tFn (tk1 X G c) (⟨mkDef (N := N_l_mixed) (ps := ["_law_draw"]) (k := 0) (fl := 1000000000000) (own := false) (t := T1) (n := 1) (ks := []) (sel := [0]) X G c 1 rfl (by decide +kernel) (tk1 X G c) (fun _ _ _ _ _ _ us ws h1 h2 => match us, ws, h1, h2 with | [_], [], _, _ => rfl), trivial⟩)
theorem tk3 {P : Program} {W : World} {K : PySem.W.Frag} {h : Heap} {mg : Str → Option Value} {base : Heap} (X : K.In h) (G : h.Ns mainGlobals mg) (c : Says qs fx kd W K) : TabOk P W K mg base T3 :=
  tFn (tk2 X G c) (⟨mkDef (N := N_l_take) (ps := ["_law_draw", "_law_size"]) (k := 1) (fl := 1000000000000) (own := false) (t := T2) (n := 2) (ks := []) (sel := [0, 1]) X G c 2 rfl (by decide +kernel) (tk2 X G c) (fun _ _ _ _ _ _ us ws h1 h2 => match us, ws, h1, h2 with | [_, _], [], _, _ => rfl), trivial⟩)
theorem tk4 {P : Program} {W : World} {K : PySem.W.Frag} {h : Heap} {mg : Str → Option Value} {base : Heap} (X : K.In h) (G : h.Ns mainGlobals mg) (c : Says qs fx kd W K) : TabOk P W K mg base T4 :=
  tFn (tk3 X G c) (⟨mkDef (N := N_l_notes) (ps := []) (k := 0) (fl := 1000000000000) (own := false) (t := T3) (n := 0) (ks := []) (sel := []) X G c 3 rfl (by decide +kernel) (tk3 X G c) (fun _ _ _ _ _ _ us ws h1 h2 => match us, ws, h1, h2 with | [], [], _, _ => rfl), trivial⟩)
theorem tk5 {P : Program} {W : World} {K : PySem.W.Frag} {h : Heap} {mg : Str → Option Value} {base : Heap} (X : K.In h) (G : h.Ns mainGlobals mg) (c : Says qs fx kd W K) : TabOk P W K mg base T5 :=
  tFn (tk4 X G c) (⟨mkDef (N := N_l_known_sheet) (ps := ["_law_draw"]) (k := 2) (fl := 1000000000000) (own := true) (t := T4) (n := 1) (ks := []) (sel := [0]) X G c 4 rfl (by decide +kernel) (tk4 X G c) (fun _ _ _ _ _ _ us ws h1 h2 => match us, ws, h1, h2 with | [_], [], _, _ => rfl), trivial⟩)
theorem tk6 {P : Program} {W : World} {K : PySem.W.Frag} {h : Heap} {mg : Str → Option Value} {base : Heap} (X : K.In h) (G : h.Ns mainGlobals mg) (c : Says qs fx kd W K) : TabOk P W K mg base T6 :=
  tFn (tk5 X G c) (⟨mkDef (N := N_l_pick) (ps := ["_law_draw", "_law_some"]) (k := 2) (fl := 1000000000000) (own := false) (t := T5) (n := 2) (ks := []) (sel := [0, 1]) X G c 5 rfl (by decide +kernel) (tk5 X G c) (fun _ _ _ _ _ _ us ws h1 h2 => match us, ws, h1, h2 with | [_, _], [], _, _ => rfl), trivial⟩)
theorem tk7 {P : Program} {W : World} {K : PySem.W.Frag} {h : Heap} {mg : Str → Option Value} {base : Heap} (X : K.In h) (G : h.Ns mainGlobals mg) (c : Says qs fx kd W K) : TabOk P W K mg base T7 :=
  tFn (tk6 X G c) (⟨mkDef (N := N_l_shuffled) (ps := ["_law_draw", "_law_some"]) (k := 2) (fl := 1000000000000) (own := false) (t := T6) (n := 2) (ks := []) (sel := [0, 1]) X G c 6 rfl (by decide +kernel) (tk6 X G c) (fun _ _ _ _ _ _ us ws h1 h2 => match us, ws, h1, h2 with | [_, _], [], _, _ => rfl), trivial⟩)
theorem tk8 {P : Program} {W : World} {K : PySem.W.Frag} {h : Heap} {mg : Str → Option Value} {base : Heap} (X : K.In h) (G : h.Ns mainGlobals mg) (c : Says qs fx kd W K) : TabOk P W K mg base T8 :=
  tFn (tk7 X G c) (⟨mkDef (N := N_l_any_of) (ps := ["_law_draw", "_law_words", "_law_size"]) (k := 2) (fl := 1000000000000) (own := false) (t := T7) (n := 3) (ks := []) (sel := [0, 1, 2]) X G c 7 rfl (by decide +kernel) (tk7 X G c) (fun _ _ _ _ _ _ us ws h1 h2 => match us, ws, h1, h2 with | [_, _, _], [], _, _ => rfl), trivial⟩)
theorem tk9 {P : Program} {W : World} {K : PySem.W.Frag} {h : Heap} {mg : Str → Option Value} {base : Heap} (X : K.In h) (G : h.Ns mainGlobals mg) (c : Says qs fx kd W K) : TabOk P W K mg base T9 :=
  tFn (tk8 X G c) (⟨mkDef (N := N_l_sheet) (ps := ["_law_draw", "_law_lazies"]) (k := 3) (fl := 1000000000000) (own := false) (t := T8) (n := 2) (ks := []) (sel := [0, 1]) X G c 8 rfl (by decide +kernel) (tk8 X G c) (fun _ _ _ _ _ _ us ws h1 h2 => match us, ws, h1, h2 with | [_, _], [], _, _ => rfl), trivial⟩)
theorem tk10 {P : Program} {W : World} {K : PySem.W.Frag} {h : Heap} {mg : Str → Option Value} {base : Heap} (X : K.In h) (G : h.Ns mainGlobals mg) (c : Says qs fx kd W K) : TabOk P W K mg base T10 :=
  tFn (tk9 X G c) (⟨mkDef (N := N_l_gates) (ps := []) (k := 0) (fl := 1000000000000) (own := false) (t := T9) (n := 0) (ks := []) (sel := []) X G c 9 rfl (by decide +kernel) (tk9 X G c) (fun _ _ _ _ _ _ us ws h1 h2 => match us, ws, h1, h2 with | [], [], _, _ => rfl), trivial⟩)
theorem tk11 {P : Program} {W : World} {K : PySem.W.Frag} {h : Heap} {mg : Str → Option Value} {base : Heap} (X : K.In h) (G : h.Ns mainGlobals mg) (c : Says qs fx kd W K) : TabOk P W K mg base T11 :=
  tFn (tk10 X G c) (⟨mkDef (N := N_is_list) (ps := ["thing"]) (k := 0) (fl := 1000000000000) (own := false) (t := T10) (n := 1) (ks := []) (sel := [0]) X G c 10 rfl (by decide +kernel) (tk10 X G c) (fun _ _ _ _ _ _ us ws h1 h2 => match us, ws, h1, h2 with | [_], [], _, _ => rfl), trivial⟩)
theorem tk12 {P : Program} {W : World} {K : PySem.W.Frag} {h : Heap} {mg : Str → Option Value} {base : Heap} (X : K.In h) (G : h.Ns mainGlobals mg) (c : Says qs fx kd W K) : TabOk P W K mg base T12 :=
  tFn (tk11 X G c) (⟨mkDef (N := N_are_editions) (ps := ["thing"]) (k := 1) (fl := 1000000000000) (own := false) (t := T11) (n := 1) (ks := []) (sel := [0]) X G c 11 rfl (by decide +kernel) (tk11 X G c) (fun _ _ _ _ _ _ us ws h1 h2 => match us, ws, h1, h2 with | [_], [], _, _ => rfl), trivial⟩)
theorem tk13 {P : Program} {W : World} {K : PySem.W.Frag} {h : Heap} {mg : Str → Option Value} {base : Heap} (X : K.In h) (G : h.Ns mainGlobals mg) (c : Says qs fx kd W K) : TabOk P W K mg base T13 :=
  tFn (tk12 X G c) (⟨mkDef (N := N_is_number) (ps := ["thing"]) (k := 0) (fl := 1000000000000) (own := false) (t := T12) (n := 1) (ks := []) (sel := [0]) X G c 12 rfl (by decide +kernel) (tk12 X G c) (fun _ _ _ _ _ _ us ws h1 h2 => match us, ws, h1, h2 with | [_], [], _, _ => rfl), trivial⟩)
theorem tk14 {P : Program} {W : World} {K : PySem.W.Frag} {h : Heap} {mg : Str → Option Value} {base : Heap} (X : K.In h) (G : h.Ns mainGlobals mg) (c : Says qs fx kd W K) : TabOk P W K mg base T14 :=
  tFn (tk13 X G c) (⟨mkDef (N := N_is_within) (ps := ["thing", "least", "most"]) (k := 1) (fl := 1000000000000) (own := false) (t := T13) (n := 3) (ks := []) (sel := [0, 1, 2]) X G c 13 rfl (by decide +kernel) (tk13 X G c) (fun _ _ _ _ _ _ us ws h1 h2 => match us, ws, h1, h2 with | [_, _, _], [], _, _ => rfl), trivial⟩)
theorem tk15 {P : Program} {W : World} {K : PySem.W.Frag} {h : Heap} {mg : Str → Option Value} {base : Heap} (X : K.In h) (G : h.Ns mainGlobals mg) (c : Says qs fx kd W K) : TabOk P W K mg base T15 :=
  tFn (tk14 X G c) (⟨mkDef (N := N_is_step) (ps := ["thing", "many", "window"]) (k := 2) (fl := 1000000000000) (own := false) (t := T14) (n := 3) (ks := []) (sel := [0, 1, 2]) X G c 14 rfl (by decide +kernel) (tk14 X G c) (fun _ _ _ _ _ _ us ws h1 h2 => match us, ws, h1, h2 with | [_, _, _], [], _, _ => rfl), trivial⟩)
theorem tk16 {P : Program} {W : World} {K : PySem.W.Frag} {h : Heap} {mg : Str → Option Value} {base : Heap} (X : K.In h) (G : h.Ns mainGlobals mg) (c : Says qs fx kd W K) : TabOk P W K mg base T16 :=
  tFn (tk15 X G c) (⟨mkDef (N := N_is_one_of) (ps := ["thing", "words"]) (k := 0) (fl := 1000000000000) (own := false) (t := T15) (n := 2) (ks := []) (sel := [0, 1]) X G c 15 rfl (by decide +kernel) (tk15 X G c) (fun _ _ _ _ _ _ us ws h1 h2 => match us, ws, h1, h2 with | [_, _], [], _, _ => rfl), trivial⟩)
theorem tk17 {P : Program} {W : World} {K : PySem.W.Frag} {h : Heap} {mg : Str → Option Value} {base : Heap} (X : K.In h) (G : h.Ns mainGlobals mg) (c : Says qs fx kd W K) : TabOk P W K mg base T17 :=
  tFn (tk16 X G c) (⟨mkDef (N := N_are_steps) (ps := ["thing", "many", "window"]) (k := 3) (fl := 1000000000000) (own := false) (t := T16) (n := 3) (ks := []) (sel := [0, 1, 2]) X G c 16 rfl (by decide +kernel) (tk16 X G c) (fun _ _ _ _ _ _ us ws h1 h2 => match us, ws, h1, h2 with | [_, _, _], [], _, _ => rfl), trivial⟩)
theorem tk18 {P : Program} {W : World} {K : PySem.W.Frag} {h : Heap} {mg : Str → Option Value} {base : Heap} (X : K.In h) (G : h.Ns mainGlobals mg) (c : Says qs fx kd W K) : TabOk P W K mg base T18 :=
  tMk (tk17 X G c) (⟨mkClsD (N := N_Plan_xinit) (ps := ["self", "editions", "steps", "window", "order"]) (k := 4) (fl := 1000000000000) (own := false) (t := T17) (n := 5) (ks := []) (sel := [0, 1, 2, 3, 4]) X G c 17 rfl (c.q 50) (by decide) (by decide +kernel) (tk17 X G c) (fun _ _ _ _ _ _ _ us ws its h1 h2 h3 => match us, ws, its, h1, h2, h3 with | [_, _, _, _, _], [], [_, _], _, _, _ => ⟨_, rfl, rfl⟩), trivial⟩)
theorem tk19 {P : Program} {W : World} {K : PySem.W.Frag} {h : Heap} {mg : Str → Option Value} {base : Heap} (X : K.In h) (G : h.Ns mainGlobals mg) (c : Says qs fx kd W K) : TabOk P W K mg base T19 :=
  tFn (tk18 X G c) (⟨mkDef (N := N_are_different) (ps := ["thing", "words"]) (k := 1) (fl := 1000000000000) (own := false) (t := T18) (n := 2) (ks := []) (sel := [0, 1]) X G c 18 rfl (by decide +kernel) (tk18 X G c) (fun _ _ _ _ _ _ us ws h1 h2 => match us, ws, h1, h2 with | [_, _], [], _, _ => rfl), trivial⟩)
theorem tk20 {P : Program} {W : World} {K : PySem.W.Frag} {h : Heap} {mg : Str → Option Value} {base : Heap} (X : K.In h) (G : h.Ns mainGlobals mg) (c : Says qs fx kd W K) : TabOk P W K mg base T20 :=
  tMk (tk19 X G c) (⟨mkClsD (N := N_Edition_xinit) (ps := ["self", "begin", "yes", "no", "ready", "agreed", "refused", "answers", "presume", "reads", "strange"]) (k := 2) (fl := 1000000000000) (own := false) (t := T19) (n := 11) (ks := []) (sel := [0, 1, 2, 3, 4, 5, 6, 7, 8, 9, 10]) X G c 19 rfl (c.q 51) (by decide) (by decide +kernel) (tk19 X G c) (fun _ _ _ _ _ _ _ us ws its h1 h2 h3 => match us, ws, its, h1, h2, h3 with | [_, _, _, _, _, _, _, _, _, _, _], [], [_, _, _, _], _, _, _ => ⟨_, rfl, rfl⟩), trivial⟩)
theorem tk21 {P : Program} {W : World} {K : PySem.W.Frag} {h : Heap} {mg : Str → Option Value} {base : Heap} (X : K.In h) (G : h.Ns mainGlobals mg) (c : Says qs fx kd W K) : TabOk P W K mg base T21 :=
  tFn (tk20 X G c) (⟨mkDef (N := N_l_edition) (ps := ["_law_sheet_here"]) (k := 4) (fl := 1000000000000) (own := false) (t := T20) (n := 1) (ks := []) (sel := [0]) X G c 20 rfl (by decide +kernel) (tk20 X G c) (fun _ _ _ _ _ _ us ws h1 h2 => match us, ws, h1, h2 with | [_], [], _, _ => rfl), trivial⟩)
theorem tk22 {P : Program} {W : World} {K : PySem.W.Frag} {h : Heap} {mg : Str → Option Value} {base : Heap} (X : K.In h) (G : h.Ns mainGlobals mg) (c : Says qs fx kd W K) : TabOk P W K mg base T22 :=
  tFn (tk21 X G c) (⟨mkDef (N := N_l_plan) (ps := ["_law_scheme"]) (k := 6) (fl := 1000000000000) (own := false) (t := T21) (n := 1) (ks := []) (sel := [0]) X G c 21 rfl (by decide +kernel) (tk21 X G c) (fun _ _ _ _ _ _ us ws h1 h2 => match us, ws, h1, h2 with | [_], [], _, _ => rfl), trivial⟩)
theorem tk23 {P : Program} {W : World} {K : PySem.W.Frag} {h : Heap} {mg : Str → Option Value} {base : Heap} (X : K.In h) (G : h.Ns mainGlobals mg) (c : Says qs fx kd W K) : TabOk P W K mg base T23 :=
  tFn (tk22 X G c) (⟨mkDef (N := N_need_plan) (ps := ["plan"]) (k := 0) (fl := 1000000000000) (own := false) (t := T22) (n := 1) (ks := []) (sel := [0]) X G c 22 rfl (by decide +kernel) (tk22 X G c) (fun _ _ _ _ _ _ us ws h1 h2 => match us, ws, h1, h2 with | [_], [], _, _ => rfl), trivial⟩)
theorem tk24 {P : Program} {W : World} {K : PySem.W.Frag} {h : Heap} {mg : Str → Option Value} {base : Heap} (X : K.In h) (G : h.Ns mainGlobals mg) (c : Says qs fx kd W K) : TabOk P W K mg base T24 :=
  tFn (tk23 X G c) (⟨mkDef (N := N_are_together) (ps := ["plan", "chair", "houses"]) (k := 0) (fl := 1000000000000) (own := false) (t := T23) (n := 3) (ks := []) (sel := [0, 1, 2]) X G c 23 rfl (by decide +kernel) (tk23 X G c) (fun _ _ _ _ _ _ us ws h1 h2 => match us, ws, h1, h2 with | [_, _, _], [], _, _ => rfl), trivial⟩)
theorem tk25 {P : Program} {W : World} {K : PySem.W.Frag} {h : Heap} {mg : Str → Option Value} {base : Heap} (X : K.In h) (G : h.Ns mainGlobals mg) (c : Says qs fx kd W K) : TabOk P W K mg base T25 :=
  tFn (tk24 X G c) (⟨mkDef (N := N_are_records_of) (ps := ["thing", "records"]) (k := 2) (fl := 1000000000000) (own := false) (t := T24) (n := 2) (ks := []) (sel := [0, 1]) X G c 24 rfl (by decide +kernel) (tk24 X G c) (fun _ _ _ _ _ _ us ws h1 h2 => match us, ws, h1, h2 with | [_, _], [], _, _ => rfl), trivial⟩)
theorem tk26 {P : Program} {W : World} {K : PySem.W.Frag} {h : Heap} {mg : Str → Option Value} {base : Heap} (X : K.In h) (G : h.Ns mainGlobals mg) (c : Says qs fx kd W K) : TabOk P W K mg base T26 :=
  tFn (tk25 X G c) (⟨mkDef (N := N_is_log_of) (ps := ["thing", "records"]) (k := 3) (fl := 1000000000000) (own := false) (t := T25) (n := 2) (ks := []) (sel := [0, 1]) X G c 25 rfl (by decide +kernel) (tk25 X G c) (fun _ _ _ _ _ _ us ws h1 h2 => match us, ws, h1, h2 with | [_, _], [], _, _ => rfl), trivial⟩)
theorem tk27 {P : Program} {W : World} {K : PySem.W.Frag} {h : Heap} {mg : Str → Option Value} {base : Heap} (X : K.In h) (G : h.Ns mainGlobals mg) (c : Says qs fx kd W K) : TabOk P W K mg base T27 :=
  tFn (tk26 X G c) (⟨mkDef (N := N_is_chair) (ps := ["many", "thing"]) (k := 4) (fl := 1000000000000) (own := false) (t := T26) (n := 2) (ks := []) (sel := [0, 1]) X G c 26 rfl (by decide +kernel) (tk26 X G c) (fun _ _ _ _ _ _ us ws h1 h2 => match us, ws, h1, h2 with | [_, _], [], _, _ => rfl), trivial⟩)
theorem tk28 {P : Program} {W : World} {K : PySem.W.Frag} {h : Heap} {mg : Str → Option Value} {base : Heap} (X : K.In h) (G : h.Ns mainGlobals mg) (c : Says qs fx kd W K) : TabOk P W K mg base T28 :=
  tFn (tk27 X G c) (⟨mkDef (N := N_are_outcomes) (ps := ["thing"]) (k := 2) (fl := 1000000000000) (own := false) (t := T27) (n := 1) (ks := []) (sel := [0]) X G c 27 rfl (by decide +kernel) (tk27 X G c) (fun _ _ _ _ _ _ us ws h1 h2 => match us, ws, h1, h2 with | [_], [], _, _ => rfl), trivial⟩)
theorem tk29 {P : Program} {W : World} {K : PySem.W.Frag} {h : Heap} {mg : Str → Option Value} {base : Heap} (X : K.In h) (G : h.Ns mainGlobals mg) (c : Says qs fx kd W K) : TabOk P W K mg base T29 :=
  tFn (tk28 X G c) (⟨mkDef (N := N_is_house) (ps := ["many", "thing"]) (k := 4) (fl := 1000000000000) (own := false) (t := T28) (n := 2) (ks := []) (sel := [0, 1]) X G c 28 rfl (by decide +kernel) (tk28 X G c) (fun _ _ _ _ _ _ us ws h1 h2 => match us, ws, h1, h2 with | [_, _], [], _, _ => rfl), trivial⟩)
theorem tk30 {P : Program} {W : World} {K : PySem.W.Frag} {h : Heap} {mg : Str → Option Value} {base : Heap} (X : K.In h) (G : h.Ns mainGlobals mg) (c : Says qs fx kd W K) : TabOk P W K mg base T30 :=
  tFn (tk29 X G c) (⟨mkDef (N := N_has_form) (ps := ["plan", "thing"]) (k := 5) (fl := 1000000000000) (own := false) (t := T29) (n := 2) (ks := []) (sel := [0, 1]) X G c 29 rfl (by decide +kernel) (tk29 X G c) (fun _ _ _ _ _ _ us ws h1 h2 => match us, ws, h1, h2 with | [_, _], [], _, _ => rfl), trivial⟩)
theorem tk31 {P : Program} {W : World} {K : PySem.W.Frag} {h : Heap} {mg : Str → Option Value} {base : Heap} (X : K.In h) (G : h.Ns mainGlobals mg) (c : Says qs fx kd W K) : TabOk P W K mg base T31 :=
  tFn (tk30 X G c) (⟨mkDef (N := N_need_standing) (ps := ["plan", "standing"]) (k := 6) (fl := 1000000000000) (own := false) (t := T30) (n := 2) (ks := []) (sel := [0, 1]) X G c 30 rfl (by decide +kernel) (tk30 X G c) (fun _ _ _ _ _ _ us ws h1 h2 => match us, ws, h1, h2 with | [_, _], [], _, _ => rfl), trivial⟩)
theorem tk32 {P : Program} {W : World} {K : PySem.W.Frag} {h : Heap} {mg : Str → Option Value} {base : Heap} (X : K.In h) (G : h.Ns mainGlobals mg) (c : Says qs fx kd W K) : TabOk P W K mg base T32 :=
  tFn (tk31 X G c) (⟨mkDef (N := N_put) (ps := ["items", "at", "item"]) (k := 0) (fl := 1000000000000) (own := false) (t := T31) (n := 3) (ks := []) (sel := [0, 1, 2]) X G c 31 rfl (by decide +kernel) (tk31 X G c) (fun _ _ _ _ _ _ us ws h1 h2 => match us, ws, h1, h2 with | [_, _, _], [], _, _ => rfl), trivial⟩)
theorem tk33 {P : Program} {W : World} {K : PySem.W.Frag} {h : Heap} {mg : Str → Option Value} {base : Heap} (X : K.In h) (G : h.Ns mainGlobals mg) (c : Says qs fx kd W K) : TabOk P W K mg base T33 :=
  tFn (tk32 X G c) (⟨mkDef (N := N_read) (ps := ["edition", "records"]) (k := 0) (fl := 1000000000000) (own := false) (t := T32) (n := 2) (ks := []) (sel := [0, 1]) X G c 32 rfl (by decide +kernel) (tk32 X G c) (fun _ _ _ _ _ _ us ws h1 h2 => match us, ws, h1, h2 with | [_, _], [], _, _ => rfl), trivial⟩)
theorem tk34 {P : Program} {W : World} {K : PySem.W.Frag} {h : Heap} {mg : Str → Option Value} {base : Heap} (X : K.In h) (G : h.Ns mainGlobals mg) (c : Says qs fx kd W K) : TabOk P W K mg base T34 :=
  tFn (tk33 X G c) (⟨mkDef (N := N_chair_fallen) (ps := ["plan", "chair", "number", "left"]) (k := 1) (fl := 1000000000000) (own := false) (t := T33) (n := 4) (ks := []) (sel := [0, 1, 2, 3]) X G c 33 rfl (by decide +kernel) (tk33 X G c) (fun _ _ _ _ _ _ us ws h1 h2 => match us, ws, h1, h2 with | [_, _, _, _], [], _, _ => rfl), trivial⟩)
theorem tk35 {P : Program} {W : World} {K : PySem.W.Frag} {h : Heap} {mg : Str → Option Value} {base : Heap} (X : K.In h) (G : h.Ns mainGlobals mg) (c : Says qs fx kd W K) : TabOk P W K mg base T35 :=
  tFn (tk34 X G c) (⟨mkDef (N := N_write) (ps := ["edition", "log", "record"]) (k := 0) (fl := 1000000000000) (own := false) (t := T34) (n := 3) (ks := []) (sel := [0, 1, 2]) X G c 34 rfl (by decide +kernel) (tk34 X G c) (fun _ _ _ _ _ _ us ws h1 h2 => match us, ws, h1, h2 with | [_, _, _], [], _, _ => rfl), trivial⟩)
theorem tk36 {P : Program} {W : World} {K : PySem.W.Frag} {h : Heap} {mg : Str → Option Value} {base : Heap} (X : K.In h) (G : h.Ns mainGlobals mg) (c : Says qs fx kd W K) : TabOk P W K mg base T36 :=
  tFn (tk35 X G c) (⟨mkDef (N := N_chair_behind) (ps := ["plan", "chair", "deed"]) (k := 2) (fl := 1000000000000) (own := false) (t := T35) (n := 3) (ks := []) (sel := [0, 1, 2]) X G c 35 rfl (by decide +kernel) (tk35 X G c) (fun _ _ _ _ _ _ us ws h1 h2 => match us, ws, h1, h2 with | [_, _, _], [], _, _ => rfl), trivial⟩)
theorem tk37 {P : Program} {W : World} {K : PySem.W.Frag} {h : Heap} {mg : Str → Option Value} {base : Heap} (X : K.In h) (G : h.Ns mainGlobals mg) (c : Says qs fx kd W K) : TabOk P W K mg base T37 :=
  tFn (tk36 X G c) (⟨mkDef (N := N_house_fallen) (ps := ["plan", "house", "number", "left"]) (k := 1) (fl := 1000000000000) (own := false) (t := T36) (n := 4) (ks := []) (sel := [0, 1, 2, 3]) X G c 36 rfl (by decide +kernel) (tk36 X G c) (fun _ _ _ _ _ _ us ws h1 h2 => match us, ws, h1, h2 with | [_, _, _, _], [], _, _ => rfl), trivial⟩)
theorem tk38 {P : Program} {W : World} {K : PySem.W.Frag} {h : Heap} {mg : Str → Option Value} {base : Heap} (X : K.In h) (G : h.Ns mainGlobals mg) (c : Says qs fx kd W K) : TabOk P W K mg base T38 :=
  tFn (tk37 X G c) (⟨mkDef (N := N_with_outcome) (ps := ["outcomes", "outcome"]) (k := 0) (fl := 1000000000000) (own := false) (t := T37) (n := 2) (ks := []) (sel := [0, 1]) X G c 37 rfl (by decide +kernel) (tk37 X G c) (fun _ _ _ _ _ _ us ws h1 h2 => match us, ws, h1, h2 with | [_, _], [], _, _ => rfl), trivial⟩)
theorem tk39 {P : Program} {W : World} {K : PySem.W.Frag} {h : Heap} {mg : Str → Option Value} {base : Heap} (X : K.In h) (G : h.Ns mainGlobals mg) (c : Says qs fx kd W K) : TabOk P W K mg base T39 :=
  tFn (tk38 X G c) (⟨mkDef (N := N_told_now) (ps := ["plan", "chair"]) (k := 0) (fl := 1000000000000) (own := false) (t := T38) (n := 2) (ks := []) (sel := [0, 1]) X G c 38 rfl (by decide +kernel) (tk38 X G c) (fun _ _ _ _ _ _ us ws h1 h2 => match us, ws, h1, h2 with | [_, _], [], _, _ => rfl), trivial⟩)
theorem tk40 {P : Program} {W : World} {K : PySem.W.Frag} {h : Heap} {mg : Str → Option Value} {base : Heap} (X : K.In h) (G : h.Ns mainGlobals mg) (c : Says qs fx kd W K) : TabOk P W K mg base T40 :=
  tFn (tk39 X G c) (⟨mkDef (N := N_house_behind) (ps := ["plan", "chair", "house", "deed"]) (k := 2) (fl := 1000000000000) (own := false) (t := T39) (n := 4) (ks := []) (sel := [0, 1, 2, 3]) X G c 39 rfl (by decide +kernel) (tk39 X G c) (fun _ _ _ _ _ _ us ws h1 h2 => match us, ws, h1, h2 with | [_, _, _, _], [], _, _ => rfl), trivial⟩)
theorem tk41 {P : Program} {W : World} {K : PySem.W.Frag} {h : Heap} {mg : Str → Option Value} {base : Heap} (X : K.In h) (G : h.Ns mainGlobals mg) (c : Says qs fx kd W K) : TabOk P W K mg base T41 :=
  tFn (tk40 X G c) (⟨mkDef (N := N_led_by) (ps := ["plan", "standing", "deed"]) (k := 3) (fl := 1000000000000) (own := false) (t := T40) (n := 3) (ks := []) (sel := [0, 1, 2]) X G c 40 rfl (by decide +kernel) (tk40 X G c) (fun _ _ _ _ _ _ us ws h1 h2 => match us, ws, h1, h2 with | [_, _, _], [], _, _ => rfl), trivial⟩)
theorem tk42 {P : Program} {W : World} {K : PySem.W.Frag} {h : Heap} {mg : Str → Option Value} {base : Heap} (X : K.In h) (G : h.Ns mainGlobals mg) (c : Says qs fx kd W K) : TabOk P W K mg base T42 :=
  tFn (tk41 X G c) (⟨mkDef (N := N_numbers_of) (ps := ["standing"]) (k := 0) (fl := 1000000000000) (own := false) (t := T41) (n := 1) (ks := []) (sel := [0]) X G c 41 rfl (by decide +kernel) (tk41 X G c) (fun _ _ _ _ _ _ us ws h1 h2 => match us, ws, h1, h2 with | [_], [], _, _ => rfl), trivial⟩)
theorem tk43 {P : Program} {W : World} {K : PySem.W.Frag} {h : Heap} {mg : Str → Option Value} {base : Heap} (X : K.In h) (G : h.Ns mainGlobals mg) (c : Says qs fx kd W K) : TabOk P W K mg base T43 :=
  tFn (tk42 X G c) (⟨mkDef (N := N_may_forget) (ps := ["plan", "chair", "houses"]) (k := 0) (fl := 1000000000000) (own := false) (t := T42) (n := 3) (ks := []) (sel := [0, 1, 2]) X G c 42 rfl (by decide +kernel) (tk42 X G c) (fun _ _ _ _ _ _ us ws h1 h2 => match us, ws, h1, h2 with | [_, _, _], [], _, _ => rfl), trivial⟩)
theorem tk44 {P : Program} {W : World} {K : PySem.W.Frag} {h : Heap} {mg : Str → Option Value} {base : Heap} (X : K.In h) (G : h.Ns mainGlobals mg) (c : Says qs fx kd W K) : TabOk P W K mg base T44 :=
  tFn (tk43 X G c) (⟨mkDef (N := N_lefts) (ps := ["log"]) (k := 0) (fl := 1000000000000) (own := false) (t := T43) (n := 1) (ks := []) (sel := [0]) X G c 43 rfl (by decide +kernel) (tk43 X G c) (fun _ _ _ _ _ _ us ws h1 h2 => match us, ws, h1, h2 with | [_], [], _, _ => rfl), trivial⟩)
theorem tk45 {P : Program} {W : World} {K : PySem.W.Frag} {h : Heap} {mg : Str → Option Value} {base : Heap} (X : K.In h) (G : h.Ns mainGlobals mg) (c : Says qs fx kd W K) : TabOk P W K mg base T45 :=
  tFn (tk44 X G c) (⟨mkDef (N := N_chair_deeds) (ps := ["plan", "chair", "houses"]) (k := 1) (fl := 1000000000000) (own := false) (t := T44) (n := 3) (ks := []) (sel := [0, 1, 2]) X G c 44 rfl (by decide +kernel) (tk44 X G c) (fun _ _ _ _ _ _ us ws h1 h2 => match us, ws, h1, h2 with | [_, _, _], [], _, _ => rfl), trivial⟩)
theorem tk46 {P : Program} {W : World} {K : PySem.W.Frag} {h : Heap} {mg : Str → Option Value} {base : Heap} (X : K.In h) (G : h.Ns mainGlobals mg) (c : Says qs fx kd W K) : TabOk P W K mg base T46 :=
  tFn (tk45 X G c) (⟨mkDef (N := N_lets_chair) (ps := ["gate", "chair"]) (k := 0) (fl := 1000000000000) (own := false) (t := T45) (n := 2) (ks := []) (sel := [0, 1]) X G c 45 rfl (by decide +kernel) (tk45 X G c) (fun _ _ _ _ _ _ us ws h1 h2 => match us, ws, h1, h2 with | [_, _], [], _, _ => rfl), trivial⟩)
theorem tk47 {P : Program} {W : World} {K : PySem.W.Frag} {h : Heap} {mg : Str → Option Value} {base : Heap} (X : K.In h) (G : h.Ns mainGlobals mg) (c : Says qs fx kd W K) : TabOk P W K mg base T47 :=
  tFn (tk46 X G c) (⟨mkDef (N := N_chair_exchanges) (ps := ["plan", "chair", "numbers"]) (k := 1) (fl := 1000000000000) (own := false) (t := T46) (n := 3) (ks := []) (sel := [0, 1, 2]) X G c 46 rfl (by decide +kernel) (tk46 X G c) (fun _ _ _ _ _ _ us ws h1 h2 => match us, ws, h1, h2 with | [_, _, _], [], _, _ => rfl), trivial⟩)
theorem tk48 {P : Program} {W : World} {K : PySem.W.Frag} {h : Heap} {mg : Str → Option Value} {base : Heap} (X : K.In h) (G : h.Ns mainGlobals mg) (c : Says qs fx kd W K) : TabOk P W K mg base T48 :=
  tFn (tk47 X G c) (⟨mkDef (N := N_house_deeds) (ps := ["outcome", "chair", "number", "house"]) (k := 1) (fl := 1000000000000) (own := false) (t := T47) (n := 4) (ks := []) (sel := [0, 1, 2, 3]) X G c 47 rfl (by decide +kernel) (tk47 X G c) (fun _ _ _ _ _ _ us ws h1 h2 => match us, ws, h1, h2 with | [_, _, _, _], [], _, _ => rfl), trivial⟩)
theorem tk49 {P : Program} {W : World} {K : PySem.W.Frag} {h : Heap} {mg : Str → Option Value} {base : Heap} (X : K.In h) (G : h.Ns mainGlobals mg) (c : Says qs fx kd W K) : TabOk P W K mg base T49 :=
  tFn (tk48 X G c) (⟨mkDef (N := N_lets_house) (ps := ["gate", "house"]) (k := 0) (fl := 1000000000000) (own := false) (t := T48) (n := 2) (ks := []) (sel := [0, 1]) X G c 48 rfl (by decide +kernel) (tk48 X G c) (fun _ _ _ _ _ _ us ws h1 h2 => match us, ws, h1, h2 with | [_, _], [], _, _ => rfl), trivial⟩)
theorem tk50 {P : Program} {W : World} {K : PySem.W.Frag} {h : Heap} {mg : Str → Option Value} {base : Heap} (X : K.In h) (G : h.Ns mainGlobals mg) (c : Says qs fx kd W K) : TabOk P W K mg base T50 :=
  tFn (tk49 X G c) (⟨mkDef (N := N_house_exchanges) (ps := ["plan", "number", "house", "numbers"]) (k := 1) (fl := 1000000000000) (own := false) (t := T49) (n := 4) (ks := []) (sel := [0, 1, 2, 3]) X G c 49 rfl (by decide +kernel) (tk49 X G c) (fun _ _ _ _ _ _ us ws h1 h2 => match us, ws, h1, h2 with | [_, _, _, _], [], _, _ => rfl), trivial⟩)
theorem tk51 {P : Program} {W : World} {K : PySem.W.Frag} {h : Heap} {mg : Str → Option Value} {base : Heap} (X : K.In h) (G : h.Ns mainGlobals mg) (c : Says qs fx kd W K) : TabOk P W K mg base T51 :=
  tFn (tk50 X G c) (⟨mkDef (N := N_all_deeds) (ps := ["plan", "standing"]) (k := 2) (fl := 1000000000000) (own := false) (t := T50) (n := 2) (ks := []) (sel := [0, 1]) X G c 50 rfl (by decide +kernel) (tk50 X G c) (fun _ _ _ _ _ _ us ws h1 h2 => match us, ws, h1, h2 with | [_, _], [], _, _ => rfl), trivial⟩)
theorem tk52 {P : Program} {W : World} {K : PySem.W.Frag} {h : Heap} {mg : Str → Option Value} {base : Heap} (X : K.In h) (G : h.Ns mainGlobals mg) (c : Says qs fx kd W K) : TabOk P W K mg base T52 :=
  tFn (tk51 X G c) (⟨mkDef (N := N_is_doable) (ps := ["plan", "standing", "thing"]) (k := 3) (fl := 1000000000000) (own := false) (t := T51) (n := 3) (ks := []) (sel := [0, 1, 2]) X G c 51 rfl (by decide +kernel) (tk51 X G c) (fun _ _ _ _ _ _ us ws h1 h2 => match us, ws, h1, h2 with | [_, _, _], [], _, _ => rfl), trivial⟩)
theorem tk53 {P : Program} {W : World} {K : PySem.W.Frag} {h : Heap} {mg : Str → Option Value} {base : Heap} (X : K.In h) (G : h.Ns mainGlobals mg) (c : Says qs fx kd W K) : TabOk P W K mg base T53 :=
  tFn (tk52 X G c) (⟨mkDef (N := N_behind) (ps := ["plan", "standing", "deed"]) (k := 7) (fl := 1000000000000) (own := false) (t := T52) (n := 3) (ks := []) (sel := [0, 1, 2]) X G c 52 rfl (by decide +kernel) (tk52 X G c) (fun _ _ _ _ _ _ us ws h1 h2 => match us, ws, h1, h2 with | [_, _, _], [], _, _ => rfl), trivial⟩)
theorem tk54 {P : Program} {W : World} {K : PySem.W.Frag} {h : Heap} {mg : Str → Option Value} {base : Heap} (X : K.In h) (G : h.Ns mainGlobals mg) (c : Says qs fx kd W K) : TabOk P W K mg base T54 :=
  tFn (tk53 X G c) (⟨mkDef (N := N_l_stands) (ps := ["_law_made", "_law_start"]) (k := 8) (fl := 1000000000000) (own := false) (t := T53) (n := 2) (ks := []) (sel := [0, 1]) X G c 53 rfl (by decide +kernel) (tk53 X G c) (fun _ _ _ _ _ _ us ws h1 h2 => match us, ws, h1, h2 with | [_, _], [], _, _ => rfl), trivial⟩)
theorem tk55 {P : Program} {W : World} {K : PySem.W.Frag} {h : Heap} {mg : Str → Option Value} {base : Heap} (X : K.In h) (G : h.Ns mainGlobals mg) (c : Says qs fx kd W K) : TabOk P W K mg base T55 :=
  tFn (tk54 X G c) (⟨mkDef (N := N_l_first) (ps := ["_law_nums"]) (k := 0) (fl := 1000000000000) (own := false) (t := T54) (n := 1) (ks := []) (sel := [0]) X G c 54 rfl (by decide +kernel) (tk54 X G c) (fun _ _ _ _ _ _ us ws h1 h2 => match us, ws, h1, h2 with | [_], [], _, _ => rfl), trivial⟩)
theorem tk56 {P : Program} {W : World} {K : PySem.W.Frag} {h : Heap} {mg : Str → Option Value} {base : Heap} (X : K.In h) (G : h.Ns mainGlobals mg) (c : Says qs fx kd W K) : TabOk P W K mg base T56 :=
  tFn (tk55 X G c) (⟨mkDef (N := N_deeds_at) (ps := ["plan", "standing"]) (k := 7) (fl := 1000000000000) (own := false) (t := T55) (n := 2) (ks := []) (sel := [0, 1]) X G c 55 rfl (by decide +kernel) (tk55 X G c) (fun _ _ _ _ _ _ us ws h1 h2 => match us, ws, h1, h2 with | [_, _], [], _, _ => rfl), trivial⟩)
theorem tk57 {P : Program} {W : World} {K : PySem.W.Frag} {h : Heap} {mg : Str → Option Value} {base : Heap} (X : K.In h) (G : h.Ns mainGlobals mg) (c : Says qs fx kd W K) : TabOk P W K mg base T57 :=
  tFn (tk56 X G c) (⟨mkDef (N := N_l_exchanges) (ps := ["_law_made", "_law_stand"]) (k := 8) (fl := 1000000000000) (own := false) (t := T56) (n := 2) (ks := []) (sel := [0, 1]) X G c 56 rfl (by decide +kernel) (tk56 X G c) (fun _ _ _ _ _ _ us ws h1 h2 => match us, ws, h1, h2 with | [_, _], [], _, _ => rfl), trivial⟩)
theorem tk58 {P : Program} {W : World} {K : PySem.W.Frag} {h : Heap} {mg : Str → Option Value} {base : Heap} (X : K.In h) (G : h.Ns mainGlobals mg) (c : Says qs fx kd W K) : TabOk P W K mg base T58 :=
  tFn (tk57 X G c) (⟨mkDef (N := N_l_known) (ps := ["_law_lock", "_law_stand_name"]) (k := 0) (fl := 1000000000000) (own := false) (t := T57) (n := 2) (ks := []) (sel := [0, 1]) X G c 57 rfl (by decide +kernel) (tk57 X G c) (fun _ _ _ _ _ _ us ws h1 h2 => match us, ws, h1, h2 with | [_, _], [], _, _ => rfl), trivial⟩)
theorem tk59 {P : Program} {W : World} {K : PySem.W.Frag} {h : Heap} {mg : Str → Option Value} {base : Heap} (X : K.In h) (G : h.Ns mainGlobals mg) (c : Says qs fx kd W K) : TabOk P W K mg base T59 :=
  tFn (tk58 X G c) (⟨mkDef (N := N_l_restarts_right) (ps := ["_law_draw", "_law_scheme"]) (k := 8) (fl := 1000000000000) (own := false) (t := T58) (n := 2) (ks := []) (sel := [0, 1]) X G c 58 rfl (by decide +kernel) (tk58 X G c) (fun _ _ _ _ _ _ us ws h1 h2 => match us, ws, h1, h2 with | [_, _], [], _, _ => rfl), trivial⟩)
theorem tk60 {P : Program} {W : World} {K : PySem.W.Frag} {h : Heap} {mg : Str → Option Value} {base : Heap} (X : K.In h) (G : h.Ns mainGlobals mg) (c : Says qs fx kd W K) : TabOk P W K mg base T60 :=
  tMt (tk59 X G c) (trivial)
theorem tk61 {P : Program} {W : World} {K : PySem.W.Frag} {h : Heap} {mg : Str → Option Value} {base : Heap} (X : K.In h) (G : h.Ns mainGlobals mg) (c : Says qs fx kd W K) : TabOk P W K mg base T61 :=
  tMt (tk60 X G c) (trivial)
theorem tk62 {P : Program} {W : World} {K : PySem.W.Frag} {h : Heap} {mg : Str → Option Value} {base : Heap} (X : K.In h) (G : h.Ns mainGlobals mg) (c : Says qs fx kd W K) : TabOk P W K mg base T62 :=
  tMt (tk61 X G c) (trivial)
theorem law_eq : m_law_ = dDef T59 N_law_ 9 (defScope s_law_) 1000000000000 false 1 (defBody s_law_) := rfl
theorem factsE {P : Program} {W : World} {K : PySem.W.Frag} {h : Heap} {mg : Str → Option Value} {fa : Addr} (X : K.In h) (G : h.Ns mainGlobals mg) (c : Says qs fx kd W K) (hfa : mg "law" = some (.ref fa)) :
    ∃ fd : FuncData, (∀ (s : Shared) (v : Value), BindsTo s fd ⟨[v], []⟩ [("_law_script", v)]) ∧ ∀ base : Heap, K.In base → base.Ns mainGlobals mg → FnV P W K mg base 10 fa fd ["_law_script"] (SpF ⟨K, P, W⟩ (dDef T59 N_law_ 9 (defScope s_law_) 1000000000000 false 1 (defBody s_law_))) :=
  lawFn (x := "law") (m := "_law_script") (st := s_law_) (N := N_law_) (ps := ["_law_script"]) (k := 9) (fl := 1000000000000) (own := false) (t := T59) X G c 59 rfl hfa (by decide +kernel) (fun base _ => tk59 X G c) (fun _ _ _ _ _ _ us ws h1 h2 => match us, ws, h1, h2 with | [_], [], _, _ => rfl) rfl
theorem facts {P : Program} {W : World} {K : PySem.W.Frag} {h : Heap} {mg : Str → Option Value} {fa : Addr} (X : K.In h) (G : h.Ns mainGlobals mg) (c : Says qs fx kd W K) (hfa : mg "law" = some (.ref fa)) :
    ∃ fd : FuncData, (∀ (s : Shared) (v : Value), BindsTo s fd ⟨[v], []⟩ [("_law_script", v)]) ∧ ∀ base : Heap, K.In base → base.Ns mainGlobals mg → FnV P W K mg base 10 fa fd ["_law_script"] (SpF ⟨K, P, W⟩ (m_law_)) := by
  rw [law_eq]
  exact factsE X G c hfa
end K14
open PySem PySem.W PySem.Calls PyProof.Rows
theorem PySem.Challenge.cw_amidupgrades_k14_gates_known_holds : PySem.Challenge.rw_amidupgrades_k14_gates_known.Holds := by
  w_on; o_law
  refine HandSHeadRun.head_any (r := K14.R) (q := K14.qv) (H := FH.hook K14.ads K14.qs K14.fx K14.kd) (ob := FH.obT K14.ads K14.qs K14.fx K14.kd) (M := 20000) (loose := K14.loose) (d := HandSHeadRun.topDef K14.R.prog 93) (kwd := []) FH.obT_eq
    (by kernel_rfl) (fun s => by kernel_rfl) K14.run (by kernel_rfl) (by kernel_rfl) (by kernel_rfl) (by rfl) (by first | assumption | decide +kernel) (by decide +kernel) ⟨rfl, rfl, rfl, rfl, rfl, by decide +kernel⟩ ?hw ?hc
  case hw => w_witness2
  case hc =>
    refine FH.walk_V (l := PySem.Challenge.rw_amidupgrades_k14_gates_known) (n := 63) (k := 10) (x := "_law_script") (m := K14.m_law_) rfl (by decide) (by kernel_rfl) ⟨rfl, by decide, by decide⟩ K14.law_yes ?F
    intro w mg fa h Y G hmg0
    obtain ⟨K, KX, c⟩ := Y
    have hmg : mg ("law" : PySem.Str) = some (.ref fa) := by
      have e : (HandSHeadRun.topDef K14.R.prog 93).name = ("law" : PySem.Str) := by kernel_rfl
      rw [← e]
      exact hmg0
    obtain ⟨fd, hb, hF⟩ := K14.facts (P := (PySem.Challenge.rw_amidupgrades_k14_gates_known).prog) (W := w) KX G c hmg
    exact ⟨K, fd, KX, c.q 0, hb, hF⟩

